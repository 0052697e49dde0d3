import PyProof.Rows.All
import Wide.All
import OpenK.AllK
import Wide.FinOn
import HandS.ForMost
import HandS.ForExc
import HandS.Lambda
import HandS.HeadHook4
import HandS.TupAny
import HandS.CallSlots
import HandS.Property
import HandS.Flow
import HandS.Defaults
import HandS.Deep
import HandS.Wide
import HandS.Conv
import HandS.Iter
import HandS.Zip
import HandS.ExcInit
import HandS.HeadHook1
import HandS.HeadHook2
import HandS.SortKw
import KE.SortKeyHeap
import KE.SortData
import KE.KLam
import KE.KSortKey
import HandS.IsInst
import HandS.Star
import HandS.Replace
import PyProof.Rows.ReprOcc
import HandS.Codes
import PySem.Challenge.RW_watervalves_k15_encoded_plans
import KE.KStateDown
import HandS.Ends
import HandS.Words
import HandS.WordsExc
import HandS.Head0
import HandS.Head1
import HandS.Head2
import HandS.HeadEnd
import HandS.HeadWalk
set_option Elab.async false
set_option linter.all false
set_option maxRecDepth 100000
set_option maxHeartbeats 0
/-! The clean layer: data by value, a small store of changeable objects, and the readings of the hand layer as runs of plain functions. -/
namespace Cl
open PySem L2

/-- data that is never changed, by value -/
inductive D where
  | non | bl (b : Bool) | int (i : Int) | str (x : Str)
  | tup (l : List D) | lst (l : List D) | scr (l : List D)
  | ins (n : Str) (fs : List (Str × D))
  | dct (l : List (D × D))
  | vv (v : V)
/-- a value: data, or an object of the store by its number -/
inductive S where
  | val (d : D) | obj (k : Nat)
/-- an object of the store -/
inductive O where
  | lst (l : List S)
  | ins (n : Str) (fs : List (Str × S))
  | dct (l : List (D × S))
  | frz (d : D)
/-- an error: its class by name, its attributes -/
structure XD where
  n : Str
  fs : List (Str × D)
def keyD : Key → D
  | .inl i => .int i
  | .inr x => .str x

section
variable (K : PySem.W.Frag) (mg : Str → Option Value) (F : Hp)
mutual
inductive Rep : V → D → Prop
  | non : Rep .non .non
  | bl (b : Bool) : Rep (.bl b) (.bl b)
  | int (i : Int) : Rep (.int i) (.int i)
  | str (x : Str) : Rep (.str x) (.str x)
  | tup {a : Addr} {vs : List V} {ds : List D} : SqT K F a vs → Reps vs ds → Rep (.ref a) (.tup ds)
  | lst {a : Addr} {vs : List V} {ds : List D} : F a = some (.lst vs) → Reps vs ds → Rep (.ref a) (.lst ds)
  | scr {a : Addr} {vs : List V} {ds : List D} : SqL K F a vs → Reps vs ds → Rep (.ref a) (.scr ds)
  | ins {a C dx : Addr} {n : Str} {fvs : List (Str × V)} {fs : List (Str × D)} : mg n = some (.ref C) → F a = some (.ins C dx fvs) → RepF fvs fs → Rep (.ref a) (.ins n fs)
  | dct {a : Addr} {kvs : List (Key × V)} {ds : List (D × D)} : F a = some (.dK kvs) → RepK kvs ds → Rep (.ref a) (.dct ds)
  | vv (v : V) : Rep v (.vv v)
inductive Reps : List V → List D → Prop
  | nil : Reps [] []
  | cons {v : V} {d : D} {vs : List V} {ds : List D} : Rep v d → Reps vs ds → Reps (v :: vs) (d :: ds)
inductive RepF : List (Str × V) → List (Str × D) → Prop
  | nil : RepF [] []
  | cons {f : Str} {v : V} {d : D} {vs : List (Str × V)} {ds : List (Str × D)} : Rep v d → RepF vs ds → RepF ((f, v) :: vs) ((f, d) :: ds)
inductive RepK : List (Key × V) → List (D × D) → Prop
  | nil : RepK [] []
  | cons {k : Key} {v : V} {d : D} {vs : List (Key × V)} {ds : List (D × D)} : Rep v d → RepK vs ds → RepK ((k, v) :: vs) ((keyD k, d) :: ds)
end
variable (rho : List Addr)
inductive RepS : V → S → Prop
  | val {v : V} {d : D} : Rep K mg F v d → RepS v (.val d)
  | obj {k : Nat} {a : Addr} : rho[k]? = some a → RepS (.ref a) (.obj k)
inductive RepSs : List V → List S → Prop
  | nil : RepSs [] []
  | cons {v : V} {d : S} {vs : List V} {ds : List S} : RepS K mg F rho v d → RepSs vs ds → RepSs (v :: vs) (d :: ds)
inductive RepSF : List (Str × V) → List (Str × S) → Prop
  | nil : RepSF [] []
  | cons {f : Str} {v : V} {d : S} {vs : List (Str × V)} {ds : List (Str × S)} : RepS K mg F rho v d → RepSF vs ds → RepSF ((f, v) :: vs) ((f, d) :: ds)
inductive RepSK : List (Key × V) → List (D × S) → Prop
  | nil : RepSK [] []
  | cons {k : Key} {v : V} {d : S} {vs : List (Key × V)} {ds : List (D × S)} : RepS K mg F rho v d → RepSK vs ds → RepSK ((k, v) :: vs) ((keyD k, d) :: ds)
end

section
variable {K : PySem.W.Frag} {mg : Str → Option Value} {F F' : Hp} {rho rho' : List Addr}
theorem SqT_mono {a : Addr} {xs : List V} (e : Same F F') (h : SqT K F a xs) : SqT K F' a xs := by
  rcases h with (h | ⟨o, h⟩) | h
  · exact .inl (.inl (e _ _ h))
  · exact .inl (.inr ⟨o, e _ _ h⟩)
  · exact .inr h
def Pre (r r' : List Addr) : Prop := ∀ (k : Nat) (a : Addr), r[k]? = some a → r'[k]? = some a
theorem Pre.refl (r : List Addr) : Pre r r := fun _ _ h => h
theorem Pre.trans {a b c : List Addr} (x : Pre a b) (y : Pre b c) : Pre a c := fun k z h => y k z (x k z h)
theorem Pre.app (r q : List Addr) : Pre r (r ++ q) := fun k a h => by
  rw [List.getElem?_append_left (List.getElem?_eq_some_iff.mp h).1]; exact h
mutual
theorem Rep.mono (e : Same F F') : ∀ {v : V} {d : D}, Rep K mg F v d → Rep K mg F' v d
  | _, _, .non => .non
  | _, _, .bl b => .bl b
  | _, _, .int b => .int b
  | _, _, .str b => .str b
  | _, _, .tup h r => .tup (SqT_mono e h) (Reps.mono e r)
  | _, _, .lst h r => .lst (e _ _ h) (Reps.mono e r)
  | _, _, .scr h r => .scr (e.seq h) (Reps.mono e r)
  | _, _, .ins h1 h2 r => .ins h1 (e _ _ h2) (RepF.mono e r)
  | _, _, .dct h r => .dct (e _ _ h) (RepK.mono e r)
  | _, _, .vv v => .vv v
theorem Reps.mono (e : Same F F') : ∀ {v : List V} {d : List D}, Reps K mg F v d → Reps K mg F' v d
  | _, _, .nil => .nil
  | _, _, .cons a b => .cons (Rep.mono e a) (Reps.mono e b)
theorem RepF.mono (e : Same F F') : ∀ {v : List (Str × V)} {d : List (Str × D)}, RepF K mg F v d → RepF K mg F' v d
  | _, _, .nil => .nil
  | _, _, .cons a b => .cons (Rep.mono e a) (RepF.mono e b)
theorem RepK.mono (e : Same F F') : ∀ {v : List (Key × V)} {d : List (D × D)}, RepK K mg F v d → RepK K mg F' v d
  | _, _, .nil => .nil
  | _, _, .cons a b => .cons (Rep.mono e a) (RepK.mono e b)
end
theorem RepS.mono (e : Same F F') (p : Pre rho rho') {v : V} {d : S} (h : RepS K mg F rho v d) : RepS K mg F' rho' v d := by
  cases h with
  | val r => exact .val (r.mono e)
  | obj q => exact .obj (p _ _ q)
theorem RepSs.mono (e : Same F F') (p : Pre rho rho') : ∀ {v : List V} {d : List S}, RepSs K mg F rho v d → RepSs K mg F' rho' v d
  | _, _, .nil => .nil
  | _, _, .cons a b => .cons (RepS.mono e p a) (RepSs.mono e p b)
theorem RepSF.mono (e : Same F F') (p : Pre rho rho') : ∀ {v : List (Str × V)} {d : List (Str × S)}, RepSF K mg F rho v d → RepSF K mg F' rho' v d
  | _, _, .nil => .nil
  | _, _, .cons a b => .cons (RepS.mono e p a) (RepSF.mono e p b)
theorem RepSK.mono (e : Same F F') (p : Pre rho rho') : ∀ {v : List (Key × V)} {d : List (D × S)}, RepSK K mg F rho v d → RepSK K mg F' rho' v d
  | _, _, .nil => .nil
  | _, _, .cons a b => .cons (RepS.mono e p a) (RepSK.mono e p b)
theorem Reps.length : ∀ {v : List V} {d : List D}, Reps K mg F v d → v.length = d.length
  | _, _, .nil => rfl
  | _, _, .cons _ b => by rw [List.length_cons, List.length_cons, Reps.length b]
theorem RepF.length : ∀ {v : List (Str × V)} {d : List (Str × D)}, RepF K mg F v d → v.length = d.length
  | _, _, .nil => rfl
  | _, _, .cons _ b => by rw [List.length_cons, List.length_cons, RepF.length b]
theorem RepSs.length : ∀ {v : List V} {d : List S}, RepSs K mg F rho v d → v.length = d.length
  | _, _, .nil => rfl
  | _, _, .cons _ b => by rw [List.length_cons, List.length_cons, RepSs.length b]
theorem RepSF.length : ∀ {v : List (Str × V)} {d : List (Str × S)}, RepSF K mg F rho v d → v.length = d.length
  | _, _, .nil => rfl
  | _, _, .cons _ b => by rw [List.length_cons, List.length_cons, RepSF.length b]
theorem Reps.get : ∀ {vs : List V} {ds : List D} {i : Nat} {d : D}, Reps K mg F vs ds → ds[i]? = some d → ∃ v, vs[i]? = some v ∧ Rep K mg F v d
  | _, _, _, _, .nil, e => by simp at e
  | _, _, 0, _, .cons r _, e => by simp at e; subst e; exact ⟨_, rfl, r⟩
  | _, _, i + 1, d, .cons _ t, e => by
    obtain ⟨v, h1, h2⟩ := Reps.get (i := i) (d := d) t (by simpa using e)
    exact ⟨v, by simpa using h1, h2⟩
theorem Reps.get' : ∀ {vs : List V} {ds : List D} {i : Nat} {v : V}, Reps K mg F vs ds → vs[i]? = some v → ∃ d, ds[i]? = some d ∧ Rep K mg F v d
  | _, _, _, _, .nil, e => by simp at e
  | _, _, 0, _, .cons r _, e => by simp at e; subst e; exact ⟨_, rfl, r⟩
  | _, _, i + 1, d, .cons _ t, e => by
    obtain ⟨v, h1, h2⟩ := Reps.get' (i := i) (v := d) t (by simpa using e)
    exact ⟨v, by simpa using h1, h2⟩
theorem RepSs.get : ∀ {vs : List V} {ds : List S} {i : Nat} {d : S}, RepSs K mg F rho vs ds → ds[i]? = some d → ∃ v, vs[i]? = some v ∧ RepS K mg F rho v d
  | _, _, _, _, .nil, e => by simp at e
  | _, _, 0, _, .cons r _, e => by simp at e; subst e; exact ⟨_, rfl, r⟩
  | _, _, i + 1, d, .cons _ t, e => by
    obtain ⟨v, h1, h2⟩ := RepSs.get (i := i) (d := d) t (by simpa using e)
    exact ⟨v, by simpa using h1, h2⟩
theorem RepSs.get' : ∀ {vs : List V} {ds : List S} {i : Nat} {v : V}, RepSs K mg F rho vs ds → vs[i]? = some v → ∃ d, ds[i]? = some d ∧ RepS K mg F rho v d
  | _, _, _, _, .nil, e => by simp at e
  | _, _, 0, _, .cons r _, e => by simp at e; subst e; exact ⟨_, rfl, r⟩
  | _, _, i + 1, d, .cons _ t, e => by
    obtain ⟨v, h1, h2⟩ := RepSs.get' (i := i) (v := d) t (by simpa using e)
    exact ⟨v, by simpa using h1, h2⟩
theorem Reps.append : ∀ {xs ys : List V} {us ws : List D}, Reps K mg F xs us → Reps K mg F ys ws → Reps K mg F (xs ++ ys) (us ++ ws)
  | _, _, _, _, .nil, s => s
  | _, _, _, _, .cons r t, s => .cons r (Reps.append t s)
theorem RepSs.append : ∀ {xs ys : List V} {us ws : List S}, RepSs K mg F rho xs us → RepSs K mg F rho ys ws → RepSs K mg F rho (xs ++ ys) (us ++ ws)
  | _, _, _, _, .nil, s => s
  | _, _, _, _, .cons r t, s => .cons r (RepSs.append t s)
theorem RepSs.set {x : V} {u : S} (r : RepS K mg F rho x u) : ∀ {xs : List V} {us : List S} (i : Nat), RepSs K mg F rho xs us → RepSs K mg F rho (xs.set i x) (us.set i u)
  | _, _, _, .nil => .nil
  | _, _, 0, .cons _ t => .cons r t
  | _, _, i + 1, .cons q t => .cons q (RepSs.set r i t)
theorem RepSs.eraseIdx : ∀ {xs : List V} {us : List S} (i : Nat), RepSs K mg F rho xs us → RepSs K mg F rho (xs.eraseIdx i) (us.eraseIdx i)
  | _, _, _, .nil => .nil
  | _, _, 0, .cons _ t => t
  | _, _, i + 1, .cons q t => .cons q (RepSs.eraseIdx i t)
theorem Reps.take : ∀ {xs : List V} {us : List D} (n : Nat), Reps K mg F xs us → Reps K mg F (xs.take n) (us.take n)
  | _, _, 0, _ => .nil
  | _, _, _ + 1, .nil => .nil
  | _, _, n + 1, .cons r t => .cons r (Reps.take n t)
theorem Reps.drop : ∀ {xs : List V} {us : List D} (n : Nat), Reps K mg F xs us → Reps K mg F (xs.drop n) (us.drop n)
  | _, _, 0, r => r
  | _, _, _ + 1, .nil => .nil
  | _, _, n + 1, .cons _ t => Reps.drop n t
theorem RepSs.take : ∀ {xs : List V} {us : List S} (n : Nat), RepSs K mg F rho xs us → RepSs K mg F rho (xs.take n) (us.take n)
  | _, _, 0, _ => .nil
  | _, _, _ + 1, .nil => .nil
  | _, _, n + 1, .cons r t => .cons r (RepSs.take n t)
theorem RepSs.drop : ∀ {xs : List V} {us : List S} (n : Nat), RepSs K mg F rho xs us → RepSs K mg F rho (xs.drop n) (us.drop n)
  | _, _, 0, r => r
  | _, _, _ + 1, .nil => .nil
  | _, _, n + 1, .cons _ t => RepSs.drop n t
theorem Reps.vals : ∀ {xs : List V} {us : List D}, Reps K mg F xs us → RepSs K mg F rho xs (us.map .val)
  | _, _, .nil => .nil
  | _, _, .cons r t => .cons (.val r) (Reps.vals t)
/-- all are data -/
@[simp] def datas : List S → Option (List D)
  | [] => some []
  | .val d :: r => (datas r).map (d :: ·)
  | .obj _ :: _ => none
theorem RepSs.datas : ∀ {xs : List V} {us : List S} {ds : List D}, RepSs K mg F rho xs us → Cl.datas us = some ds → Reps K mg F xs ds
  | _, _, _, .nil, e => by cases e; exact .nil
  | _, _, _, .cons (.val r) t, e => by
    simp only [Cl.datas, Option.map_eq_some_iff] at e
    obtain ⟨l, e, rfl⟩ := e
    exact .cons r (RepSs.datas t e)
  | _, _, _, .cons (.obj r) t, e => by cases e
theorem datas_map (l : List D) : datas (l.map .val) = some l := by
  induction l with
  | nil => rfl
  | cons a r ih => simp only [List.map_cons, datas, ih, Option.map_some]
theorem RepF.lookup : ∀ {vs : List (Str × V)} {ds : List (Str × D)} {f : Str} {d : D}, RepF K mg F vs ds → ds.lookup f = some d → ∃ v, vs.lookup f = some v ∧ Rep K mg F v d
  | _, _, _, _, .nil, e => by simp at e
  | _, _, f, d, .cons (f := g) r t, e => by
    rw [List.lookup_cons] at e ⊢
    cases q : f == g with
    | true => rw [q] at e; cases e; exact ⟨_, rfl, r⟩
    | false => rw [q] at e; exact RepF.lookup t e
theorem RepF.lookup_none : ∀ {vs : List (Str × V)} {ds : List (Str × D)} {f : Str}, RepF K mg F vs ds → ds.lookup f = none → vs.lookup f = none
  | _, _, _, .nil, e => rfl
  | _, _, f, .cons (f := g) r t, e => by
    rw [List.lookup_cons] at e ⊢
    cases q : f == g with
    | true => rw [q] at e; cases e
    | false => rw [q] at e; exact RepF.lookup_none t e
theorem RepSF.lookup : ∀ {vs : List (Str × V)} {ds : List (Str × S)} {f : Str} {d : S}, RepSF K mg F rho vs ds → ds.lookup f = some d → ∃ v, vs.lookup f = some v ∧ RepS K mg F rho v d
  | _, _, _, _, .nil, e => by simp at e
  | _, _, f, d, .cons (f := g) r t, e => by
    rw [List.lookup_cons] at e ⊢
    cases q : f == g with
    | true => rw [q] at e; cases e; exact ⟨_, rfl, r⟩
    | false => rw [q] at e; exact RepSF.lookup t e
theorem RepSF.lookup_none : ∀ {vs : List (Str × V)} {ds : List (Str × S)} {f : Str}, RepSF K mg F rho vs ds → ds.lookup f = none → vs.lookup f = none
  | _, _, _, .nil, e => rfl
  | _, _, f, .cons (f := g) r t, e => by
    rw [List.lookup_cons] at e ⊢
    cases q : f == g with
    | true => rw [q] at e; cases e
    | false => rw [q] at e; exact RepSF.lookup_none t e
/-- an attribute stored -/
@[simp] def putD (f : Str) (d : S) : List (Str × S) → List (Str × S)
  | [] => [(f, d)]
  | (g, e) :: r => if g = f then (f, d) :: r else (g, e) :: putD f d r
end

section
variable (K : PySem.W.Frag) (mg : Str → Option Value) (F : Hp) (rho : List Addr) (H : Hp) (a : Addr)
def ORep : O → Prop
  | .lst ds => F a = none ∧ ∃ vs, H a = some (.lst vs) ∧ RepSs K mg F rho vs ds
  | .ins n fs => F a = none ∧ ∃ C dx fvs, mg n = some (.ref C) ∧ H a = some (.ins C dx fvs) ∧ RepSF K mg F rho fvs fs
  | .dct l => F a = none ∧ ∃ kvs, H a = some (.dK kvs) ∧ RepSK K mg F rho kvs l
  | .frz d => Rep K mg F (.ref a) d
end
/-! ### the tables of the code objects -/
/-- the defs that make lambdas, the lambdas' names -/
def lamDefs : List (He.Defn × Str) := [(("Parser", some "parse_plan"), "Parser.parse_plan.<locals>.<lambda>"), (("shifted", none), "shifted.<locals>.<lambda>"), (("counted", none), "counted.<locals>.<lambda>"), (("count_openings", none), "count_openings.<locals>.<lambda>"),
  (("count_lost", none), "count_lost.<locals>.<lambda>"), (("water", none), "water.<locals>.<lambda>"), (("law", none), "law.<locals>.<lambda>")]
def hdB (K : PySem.W.Frag) (p : He.Defn) : Bool := PySem.W.codeHdIn K (He.cT K p).1 (He.cT K p).2
def lamOk (K : PySem.W.Frag) : Bool := decide ((((lamDefs.filter fun p => hdB K p.1).map fun p => (He.cT K p.1).2)).Nodup)
def IsTab (K : PySem.W.Frag) (P : Addr) (q : Str) : Prop := lamOk K = true ∧ ∃ p ∈ lamDefs, hdB K p.1 = true ∧ P = (He.cT K p.1).2 ∧ q = p.2
def okO : HO → Bool
  | .tbl _ => false
  | .ext _ => false
  | _ => true
def TabsOk (K : PySem.W.Frag) (B F H : Hp) : Prop := ∀ P q, IsTab K P q → B P = none ∧ F P = none ∧ LamX.TabS H P q
theorem tab_at {K : PySem.W.Frag} {B F H : Hp} {P : Addr} {q : Str} (t : TabsOk K B F H) (h : IsTab K P q) : ∃ ps, H P = some (.tbl ps) := by
  obtain ⟨_, _, ps, e, _⟩ := t P q h
  exact ⟨ps, e⟩
theorem TabsOk.mono {K : PySem.W.Frag} {B B' F F' H H' : Hp} (t : TabsOk K B F H) (e : ∀ b o, H b = some o → okO o = false → H' b = some o)
    (hB : ∀ b o, H b = some o → okO o = false → B b = none → B' b = none) (hF : ∀ b o, H b = some o → okO o = false → F b = none → F' b = none) : TabsOk K B' F' H' := fun P q h => by
  obtain ⟨h1, h2, ps, h3, h4, h5⟩ := t P q h
  refine ⟨hB _ _ h3 rfl h1, hF _ _ h3 rfl h2, ps, e _ _ h3 rfl, h4, fun pos cv hc => ?_⟩
  obtain ⟨c, e1, e2⟩ := h5 pos cv hc
  exact ⟨c, e1, e _ _ e2 rfl⟩
/-- the store stands: B what others hold, F the part of the heap that is never changed, rho the objects' addresses -/
structure Core (K : PySem.W.Frag) (mg : Str → Option Value) (B F : Hp) (rho : List Addr) (st : List O) (H : Hp) : Prop where
  same : Same F H
  frame : Same B H
  apart : ∀ a, F a ≠ none → B a = none
  off : ∀ (k : Nat) (a : Addr), rho[k]? = some a → B a = none
  nd : rho.Nodup
  len : rho.length = st.length
  own : ∀ (k : Nat) (a : Addr) (o : O), rho[k]? = some a → st[k]? = some o → ORep K mg F rho H a o
  liv : ∀ (k : Nat) (a : Addr), rho[k]? = some a → ∃ u, H a = some u ∧ okO u = true
  tabs : TabsOk K B F H
theorem Core.live {K : PySem.W.Frag} {mg : Str → Option Value} {B F : Hp} {rho : List Addr} {st : List O} {H : Hp} (c : Core K mg B F rho st H) (k : Nat) (a : Addr) (h : rho[k]? = some a) : H a ≠ none := by
  obtain ⟨u, e, _⟩ := c.liv k a h
  rw [e]; exact fun z => by cases z
theorem Core.noT {K : PySem.W.Frag} {mg : Str → Option Value} {B F : Hp} {rho : List Addr} {st : List O} {H : Hp} (c : Core K mg B F rho st H) {k : Nat} {a b : Addr} {o : HO} (h : rho[k]? = some a) (e : H b = some o) (n : okO o = false) : b ≠ a := fun z => by
  obtain ⟨u, e2, n2⟩ := c.liv k a h
  rw [← z, e] at e2; cases e2; rw [n] at n2; cases n2

section
variable {K : PySem.W.Frag} {mg : Str → Option Value} {B F F' : Hp} {rho rho' : List Addr} {st : List O} {H H' : Hp} {a p : Addr} {o : O}
theorem same_upd {o : HO} (h : F p = none) : Same F (upd F p o) := fun b u e => by
  rw [upd_ne (fun q => by rw [q, h] at e; cases e)]; exact e
theorem same_upd1 {o : HO} (e : Same F H) (h : F p = none) : Same F (upd H p o) := fun b u q => by
  rw [upd_ne (fun z => by rw [z, h] at q; cases q)]; exact e _ _ q
theorem same_upd2 {o : HO} (e : Same F H) : Same (upd F p o) (upd H p o) := fun b u q => by
  by_cases z : b = p
  · subst z; rw [upd_same] at q ⊢; exact q
  · rw [upd_ne z] at q ⊢; exact e _ _ q
/-- an owned object under a grown frozen part, a changed heap that keeps it -/
theorem ORep.mono (e : Same F F') (q : Pre rho rho') (hF : F a = none → F' a = none) (hH : ∀ u, H a = some u → H' a = some u) (h : ORep K mg F rho H a o) : ORep K mg F' rho' H' a o := by
  cases o with
  | lst ds => obtain ⟨x, vs, y, z⟩ := h; exact ⟨hF x, vs, hH _ y, z.mono e q⟩
  | ins n fs => obtain ⟨x, C, dx, fvs, m, y, z⟩ := h; exact ⟨hF x, C, dx, fvs, m, hH _ y, z.mono e q⟩
  | dct l => obtain ⟨x, kvs, y, z⟩ := h; exact ⟨hF x, kvs, hH _ y, z.mono e q⟩
  | frz d => exact Rep.mono e h
/-- something new is laid, never to be changed -/
theorem Core.alloc {u : HO} (c : Core K mg B F rho st H) (h : H p = none) : Core K mg B (upd F p u) rho st (upd H p u) := by
  have hp : F p = none := c.same.free h
  have hb : B p = none := c.frame.free h
  refine ⟨same_upd2 c.same, same_upd1 c.frame hb, fun b q => ?_, c.off, c.nd, c.len, fun k b o e1 e2 => ?_, fun k b e => ?_, c.tabs.mono (fun b o e _ => ?_) (fun _ _ _ _ z => z) fun b o e _ z => ?_⟩
  · by_cases z : b = p
    · rw [z]; exact hb
    · rw [upd_ne z] at q; exact c.apart b q
  · have nb : b ≠ p := fun z => c.live k b e1 (by rw [z]; exact h)
    exact (c.own k b o e1 e2).mono (same_upd hp) (Pre.refl _) (fun z => by rw [upd_ne nb]; exact z) (fun u z => by rw [upd_ne nb]; exact z)
  · have nb : b ≠ p := fun z => c.live k b e (by rw [z]; exact h)
    rw [upd_ne nb]; exact c.liv k b e
  · rw [upd_ne (ne_of_none e h)]; exact e
  · rw [upd_ne (ne_of_none e h)]; exact z
/-- a new object of the store -/
theorem Core.new {u : HO} (c : Core K mg B F rho st H) (h : H p = none) (ho : ORep K mg F (rho ++ [p]) (upd H p u) p o) (hu : okO u = true := by rfl) : Core K mg B F (rho ++ [p]) (st ++ [o]) (upd H p u) := by
  have hp : F p = none := c.same.free h
  have hb : B p = none := c.frame.free h
  have np : ∀ (k : Nat) (b : Addr), rho[k]? = some b → b ≠ p := fun k b e z => c.live k b e (by rw [z]; exact h)
  have at_ : ∀ (k : Nat) (b : Addr), (rho ++ [p])[k]? = some b → (k < rho.length ∧ rho[k]? = some b) ∨ (k = rho.length ∧ b = p) := fun k b e => by
    by_cases hk : k < rho.length
    · rw [List.getElem?_append_left hk] at e; exact .inl ⟨hk, e⟩
    · have hk' : k = rho.length := by
        have := (List.getElem?_eq_some_iff.mp e).1
        rw [List.length_append] at this; simp at this; omega
      subst hk'
      rw [List.getElem?_append_right (Nat.le_refl _), Nat.sub_self] at e
      cases e
      exact .inr ⟨rfl, rfl⟩
  refine ⟨same_upd1 c.same hp, same_upd1 c.frame hb, c.apart, fun k b e => ?_, ?_, ?_, fun k b q e1 e2 => ?_, fun k b e => ?_, c.tabs.mono (fun b o e _ => by rw [upd_ne (ne_of_none e h)]; exact e) (fun _ _ _ _ z => z) fun _ _ _ _ z => z⟩
  · rcases at_ k b e with ⟨_, e⟩ | ⟨_, rfl⟩
    · exact c.off k b e
    · exact hb
  · refine List.nodup_append.mpr ⟨c.nd, by simp, fun x hx y hy => ?_⟩
    obtain ⟨k, hk⟩ := List.getElem?_of_mem hx
    have : y = p := by simpa using hy
    rw [this]; exact np k x hk
  · rw [List.length_append, List.length_append, c.len]; rfl
  · rcases at_ k b e1 with ⟨hk, e⟩ | ⟨rfl, rfl⟩
    · rw [List.getElem?_append_left (by rw [← c.len]; exact hk)] at e2
      have nb := np k b e
      exact (c.own k b q e e2).mono (Same.refl _) (Pre.app _ _) (fun z => z) (fun u z => by rw [upd_ne nb]; exact z)
    · rw [c.len, List.getElem?_append_right (Nat.le_refl _), Nat.sub_self] at e2
      cases e2
      exact ho
  · rcases at_ k b e with ⟨_, e⟩ | ⟨_, rfl⟩
    · rw [upd_ne (np k b e)]; exact c.liv k b e
    · exact ⟨u, upd_same, hu⟩
theorem get_inj {r : List Addr} (nd : r.Nodup) {i j : Nat} {x : Addr} (h1 : r[i]? = some x) (h2 : r[j]? = some x) : i = j := by
  obtain ⟨l1, e1⟩ := List.getElem?_eq_some_iff.mp h1
  exact (List.getElem?_inj l1 nd).mp (h1.trans h2.symm)
/-- an object of the store is written -/
theorem Core.write {k : Nat} {u : HO} (c : Core K mg B F rho st H) (hk : rho[k]? = some a) (hF : F a = none) (ho : ORep K mg F rho (upd H a u) a o) (hu : okO u = true := by rfl) : Core K mg B F rho (st.set k o) (upd H a u) := by
  refine ⟨same_upd1 c.same hF, same_upd1 c.frame (c.off k a hk), c.apart, c.off, c.nd, by rw [List.length_set]; exact c.len, fun j b q e1 e2 => ?_, fun j b e => ?_, c.tabs.mono (fun b o e n => by rw [upd_ne (c.noT hk e n)]; exact e) (fun _ _ _ _ z => z) fun _ _ _ _ z => z⟩
  · by_cases hj : j = k
    · subst hj
      rw [hk] at e1; cases e1
      have hl : j < st.length := by rw [← c.len]; exact (List.getElem?_eq_some_iff.mp hk).1
      rw [List.getElem?_set_self hl] at e2; cases e2
      exact ho
    · rw [List.getElem?_set_ne (Ne.symm hj)] at e2
      have nb : b ≠ a := fun z => hj (get_inj c.nd e1 (z ▸ hk))
      exact (c.own j b q e1 e2).mono (Same.refl _) (Pre.refl _) (fun z => z) (fun u z => by rw [upd_ne nb]; exact z)
  · by_cases nb : b = a
    · subst nb; exact ⟨u, upd_same, hu⟩
    · rw [upd_ne nb]; exact c.liv j b e
/-- an object of the store is never changed again -/
theorem Core.freeze {k : Nat} {d : D} {u : HO} (c : Core K mg B F rho st H) (hk : rho[k]? = some a) (hF : F a = none) (hH : H a = some u) (r : Rep K mg (upd F a u) (.ref a) d) :
    Core K mg B (upd F a u) rho (st.set k (.frz d)) H := by
  refine ⟨fun b q e => ?_, c.frame, fun b q => ?_, c.off, c.nd, by rw [List.length_set]; exact c.len, fun j b q e1 e2 => ?_, c.liv, c.tabs.mono (fun _ _ e _ => e) (fun _ _ _ _ z => z) fun b o e n z => by rw [upd_ne (c.noT hk e n)]; exact z⟩
  · by_cases z : b = a
    · subst z; rw [upd_same] at e; cases e; exact hH
    · rw [upd_ne z] at e; exact c.same b q e
  · by_cases z : b = a
    · rw [z]; exact c.off k a hk
    · rw [upd_ne z] at q; exact c.apart b q
  · by_cases hj : j = k
    · subst hj
      rw [hk] at e1; cases e1
      have hl : j < st.length := by rw [← c.len]; exact (List.getElem?_eq_some_iff.mp hk).1
      rw [List.getElem?_set_self hl] at e2; cases e2
      exact r
    · rw [List.getElem?_set_ne (Ne.symm hj)] at e2
      have nb : b ≠ a := fun z => hj (get_inj c.nd e1 (z ▸ hk))
      exact (c.own j b q e1 e2).mono (same_upd hF) (Pre.refl _) (fun z => by rw [upd_ne nb]; exact z) (fun u z => z)
end

/-! ### runs -/
abbrev M (α : Type) := List O → Option (Except XD α × List O)
@[simp] def M.pure {α : Type} (a : α) : M α := fun st => some (.ok a, st)
@[simp] def M.bind {α β : Type} (m : M α) (k : α → M β) : M β := fun st => match m st with
  | none => none
  | some (.error x, st1) => some (.error x, st1)
  | some (.ok a, st1) => k a st1
@[simp] def M.ofO {α : Type} (o : Option α) : M α := fun st => o.map fun a => (.ok a, st)
@[simp] def M.stuck {α : Type} : M α := fun _ => none
abbrev Sl := List (Option S)
abbrev ME := Sl → M S
abbrev MT := Sl → M Bool
abbrev MA := Sl → M (List S)
inductive Fl where
  | nx | bk | ct | rt (d : S) | xc (x : XD)
abbrev MS := Sl → List O → Option (Fl × Sl × List O)

section
variable (K : PySem.W.Frag) (mg : Str → Option Value) (F : Hp) (rho : List Addr)
structure Slots (s : St) (sl : Sl) : Prop where
  len : s.length = sl.length
  get : ∀ (i : Nat) (d : S), sl[i]? = some (some d) → ∃ v, s[i]? = some (some v) ∧ RepS K mg F rho v d
def XRep (cls : Value) (dd : Option Addr) (x : XD) : Prop := ∃ C, mg x.n = some (.ref C) ∧ cls = .ref C ∧
  match x.fs with
  | [] => dd = none
  | fs => ∃ a fvs, dd = some a ∧ F a = some (.xd fvs) ∧ RepF K mg F fvs fs
end
section
variable (K : PySem.W.Frag) (mg : Str → Option Value) (B : Hp)
/-- what a run's end must bring -/
def Post {α : Type} (R : Hp → List Addr → Hp → α → Prop) (W : Value → Option Addr → Hp → Prop) (F : Hp) (rho : List Addr) (m : Option (Except XD α × List O)) : Prop :=
  match m with
  | none => False
  | some (.ok a, st') => ∀ F' rho' H', Same F F' → Pre rho rho' → Core K mg B F' rho' st' H' → R F' rho' H' a
  | some (.error x, st') => ∀ F' rho' H', Same F F' → Pre rho rho' → Core K mg B F' rho' st' H' → ∀ cls dd, XRep K mg F' cls dd x → W cls dd H'
def tE (W : WX) (f : ME) : TE := fun s H Q => ∃ F rho sl st, Core K mg B F rho st H ∧ Slots K mg F rho s sl ∧ Post K mg B (fun F' rho' H' d => ∀ v, RepS K mg F' rho' v d → Q v H') (fun c d H' => W c d s H') F rho (f sl st)
def tT (W : WX) (f : MT) : TT := fun s H Q => ∃ F rho sl st, Core K mg B F rho st H ∧ Slots K mg F rho s sl ∧ Post K mg B (fun F' rho' H' b => Q b H') (fun c d H' => W c d s H') F rho (f sl st)
def tA (W : WX) (f : MA) : TA := fun s H Q => ∃ F rho sl st, Core K mg B F rho st H ∧ Slots K mg F rho s sl ∧ Post K mg B (fun F' rho' H' ds => ∀ vs, RepSs K mg F' rho' vs ds → Q vs H') (fun c d H' => W c d s H') F rho (f sl st)
def PostS (W : WX) (N : Ends) (F : Hp) (rho : List Addr) (m : Option (Fl × Sl × List O)) : Prop :=
  match m with
  | none => False
  | some (fl, sl', st') => ∀ F' rho' H' s', Same F F' → Pre rho rho' → Core K mg B F' rho' st' H' → Slots K mg F' rho' s' sl' →
    match fl with
    | .nx => N.nx s' H'
    | .bk => N.bk s' H'
    | .ct => N.ct s' H'
    | .rt d => ∀ v, RepS K mg F' rho' v d → N.rt v H'
    | .xc x => ∀ cls dd, XRep K mg F' cls dd x → W cls dd s' H'
def tS (W : WX) (f : MS) : TS := fun N s H => ∃ F rho sl st, Core K mg B F rho st H ∧ Slots K mg F rho s sl ∧ PostS K mg B W N F rho (f sl st)
end
section
variable {K : PySem.W.Frag} {mg : Str → Option Value} {B F F' : Hp} {rho rho' : List Addr}
theorem Slots.mono {s : St} {sl : Sl} (e : Same F F') (p : Pre rho rho') (h : Slots K mg F rho s sl) : Slots K mg F' rho' s sl :=
  ⟨h.len, fun i d q => let ⟨v, x, y⟩ := h.get i d q; ⟨v, x, y.mono e p⟩⟩
theorem Slots.set {s : St} {sl : Sl} {v : V} {d : S} (h : Slots K mg F rho s sl) (r : RepS K mg F rho v d) (i : Nat) : Slots K mg F rho (s.set i (some v)) (sl.set i (some d)) := by
  refine ⟨by simp [h.len], fun j e q => ?_⟩
  by_cases hj : j = i
  · subst hj
    by_cases hl : j < sl.length
    · rw [List.getElem?_set_self hl] at q; cases q
      exact ⟨v, List.getElem?_set_self (by rw [h.len]; exact hl), r⟩
    · rw [List.getElem?_eq_none (by simpa using hl)] at q; cases q
  · rw [List.getElem?_set_ne (Ne.symm hj)] at q
    rw [List.getElem?_set_ne (Ne.symm hj)]
    exact h.get j e q
theorem Post.mono {α : Type} {R R' : Hp → List Addr → Hp → α → Prop} {W W' : Value → Option Addr → Hp → Prop} {m : Option (Except XD α × List O)} (h : Post K mg B R W F rho m) (hs : Same F F') (hp : Pre rho rho')
    (hR : ∀ F'' rho'' H'' a, Same F' F'' → Pre rho' rho'' → R F'' rho'' H'' a → R' F'' rho'' H'' a) (hW : ∀ c d H, W c d H → W' c d H) : Post K mg B R' W' F' rho' m := by
  match m, h with
  | some (.ok a, st'), h => exact fun F1 r1 H1 e p c => hR _ _ _ _ e p (h F1 r1 H1 (hs.trans e) (hp.trans p) c)
  | some (.error x, st'), h => exact fun F1 r1 H1 e p c cls dd x => hW _ _ _ (h F1 r1 H1 (hs.trans e) (hp.trans p) c cls dd x)
/-- one run behind another -/
theorem Post.bind {α β : Type} {R : Hp → List Addr → Hp → β → Prop} {W : Value → Option Addr → Hp → Prop} {m : M α} {k : α → M β} {st : List O} (h : Post K mg B R W F rho (M.bind m k st)) :
    Post K mg B (fun F' rho' H' a => ∃ st', Core K mg B F' rho' st' H' ∧ Same F F' ∧ Pre rho rho' ∧ Post K mg B R W F' rho' (k a st')) W F rho (m st) := by
  unfold M.bind at h
  match q : m st with
  | none => rw [q] at h; exact h
  | some (.error x, st1) => rw [q] at h; exact h
  | some (.ok a, st1) =>
    rw [q] at h
    exact fun F1 r1 H1 e p c => ⟨st1, c, e, p, h.mono e p (fun _ _ _ _ _ _ z => z) (fun _ _ _ z => z)⟩
/-- a run that is through -/
theorem Post.done {α : Type} {R : Hp → List Addr → Hp → α → Prop} {W : Value → Option Addr → Hp → Prop} {a : α} {st : List O} {H : Hp} (h : Post K mg B R W F rho (some (.ok a, st))) (c : Core K mg B F rho st H) : R F rho H a := h F rho H (Same.refl _) (Pre.refl _) c
end
end Cl
namespace Cl
open PySem L2

section
variable {X : Cx} {e : Expr}
theorem PEimp {t t' : TE} (h : PE X e t) (i : ∀ s H Q, t' s H Q → t s H Q) : PE X e t' := ⟨fun pins s σ H Q I q => h.run pins s σ H Q I (i _ _ _ q)⟩
theorem PTimp {t t' : TT} (h : PT X e t) (i : ∀ s H Q, t' s H Q → t s H Q) : PT X e t' := ⟨fun pins s σ H Q I q => h.run pins s σ H Q I (i _ _ _ q)⟩
theorem PWimp {t t' : TT} (h : PW X e t) (i : ∀ s H Q, t' s H Q → t s H Q) : PW X e t' := ⟨fun w pins s σ H Q I q => h.run w pins s σ H Q I (i _ _ _ q)⟩
theorem PAimp {es : List Expr} {t t' : TA} (h : PA X es t) (i : ∀ s H Q, t' s H Q → t s H Q) : PA X es t' := ⟨fun pos pins s σ H Q I q => h.run pos pins s σ H Q I (i _ _ _ q)⟩
theorem PSimp {st : Stmt} {t t' : TS} (h : PS X st t) (i : ∀ s H Q, t' s H Q → t s H Q) : PS X st t' := ⟨fun pins s σ H Q I q => h.run pins s σ H Q I (i _ _ _ q)⟩
theorem PSsimp {st : List Stmt} {t t' : TS} (h : PSs X st t) (i : ∀ s H Q, t' s H Q → t s H Q) : PSs X st t' := ⟨fun pins s σ H Q I q => h.run pins s σ H Q I (i _ _ _ q)⟩
end
abbrev QE (X : Cx) (B : Hp) (W : WX) (e : Expr) (f : ME) : Prop := PE X e (tE X.K X.mg B W f)
abbrev QT (X : Cx) (B : Hp) (W : WX) (e : Expr) (f : MT) : Prop := PT X e (tT X.K X.mg B W f)
abbrev QW (X : Cx) (B : Hp) (W : WX) (e : Expr) (f : MT) : Prop := PW X e (tT X.K X.mg B W f)
abbrev QA (X : Cx) (B : Hp) (W : WX) (es : List Expr) (f : MA) : Prop := PA X es (tA X.K X.mg B W f)
abbrev QS (X : Cx) (B : Hp) (W : WX) (st : Stmt) (f : MS) : Prop := PS X st (tS X.K X.mg B W f)
abbrev QSs (X : Cx) (B : Hp) (W : WX) (st : List Stmt) (f : MS) : Prop := PSs X st (tS X.K X.mg B W f)

/-! ### what the store says of values -/
@[simp] def rsvS : S → List O → S
  | .obj k, st => match st[k]? with
    | some (.frz d) => .val d
    | _ => .obj k
  | d, _ => d
/-- a list's items -/
@[simp] def lstOf : S → List O → Option (List S)
  | .val (.lst l), _ => some (l.map .val)
  | .obj k, st => match st[k]? with
    | some (.lst l) => some l
    | _ => none
  | _, _ => none
section
variable {K : PySem.W.Frag} {mg : Str → Option Value} {B F : Hp} {rho : List Addr} {st : List O} {H : Hp} {v : V} {d : S}
theorem rsv_ok (c : Core K mg B F rho st H) (r : RepS K mg F rho v d) : RepS K mg F rho v (rsvS d st) := by
  cases r with
  | @obj k a h =>
    show RepS K mg F rho _ (match st[k]? with | some (.frz d) => .val d | _ => .obj k)
    match q : st[k]? with
    | some (.frz d) => exact .val (c.own k a _ h q)
    | some (.lst _) => exact .obj h
    | some (.ins _ _) => exact .obj h
    | some (.dct _) => exact .obj h
    | none => exact .obj h
  | val r => exact .val r
/-- a list, of the frozen part or of the store -/
theorem lst_at {ds : List S} (c : Core K mg B F rho st H) (r : RepS K mg F rho v d) (h : lstOf d st = some ds) : ∃ a vs, v = .ref a ∧ H a = some (.lst vs) ∧ RepSs K mg F rho vs ds := by
  cases r with
  | @obj k a q =>
    have h' : (match st[k]? with | some (.lst l) => some l | _ => none) = some ds := h
    match e : st[k]? with
    | some (.lst l) =>
      rw [e] at h'; cases h'
      obtain ⟨_, vs, x, y⟩ := c.own k a _ q e
      exact ⟨a, vs, rfl, x, y⟩
    | some (.frz _) => rw [e] at h'; cases h'
    | some (.ins _ _) => rw [e] at h'; cases h'
    | some (.dct _) => rw [e] at h'; cases h'
    | none => rw [e] at h'; cases h'
  | val r =>
    cases r with
    | lst a b => cases h; exact ⟨_, _, rfl, c.same _ _ a, b.vals⟩
    | _ => cases h
/-- a list or a tuple to be read -/
@[simp] def seqOf : S → List O → Option (List S)
  | .val (.tup l), _ => some (l.map .val)
  | .val (.scr l), _ => some (l.map .val)
  | d, st => lstOf d st
theorem seq_at {ds : List S} (c : Core K mg B F rho st H) (r : RepS K mg F rho v d) (h : seqOf d st = some ds) : ∃ a vs, v = .ref a ∧ (SqL K H a vs ∨ SqT K H a vs) ∧ RepSs K mg F rho vs ds := by
  cases r with
  | val r =>
    cases r with
    | tup a b => cases h; exact ⟨_, _, rfl, .inr (SqT_mono c.same a), b.vals⟩
    | scr a b => cases h; exact ⟨_, _, rfl, .inl (c.same.seq a), b.vals⟩
    | lst a b => cases h; exact ⟨_, _, rfl, .inl (SqL.of (c.same _ _ a)), b.vals⟩
    | _ => cases h
  | @obj k a q =>
    obtain ⟨a, vs, e, x, y⟩ := lst_at (d := .obj k) c (.obj q) (show lstOf (.obj k) st = some ds from h)
    exact ⟨a, vs, e, .inl (SqL.of x), y⟩
/-- a value as data: what may be changed is frozen -/
@[simp] def toD : S → M D
  | .val d => M.pure d
  | .obj k => fun st => match st[k]? with
    | some (.frz d) => some (.ok d, st)
    | some (.lst l) => (datas l).map fun ds => (.ok (.lst ds), st.set k (.frz (.lst ds)))
    | _ => none
theorem toD_ok {R : Hp → List Addr → Hp → D → Prop} {W : Value → Option Addr → Hp → Prop} (c : Core K mg B F rho st H) (r : RepS K mg F rho v d) (h : Post K mg B R W F rho (toD d st)) :
    ∃ F' st' d', Same F F' ∧ Core K mg B F' rho st' H ∧ Rep K mg F' v d' ∧ R F' rho H d' ∧ toD d st = some (.ok d', st') := by
  cases r with
  | val r => exact ⟨F, st, _, Same.refl _, c, r, h.done c, rfl⟩
  | @obj k a q =>
    match e : st[k]? with
    | some (.frz d) =>
      simp only [toD, e] at h ⊢
      exact ⟨F, st, d, Same.refl _, c, c.own k a _ q e, h.done c, rfl⟩
    | some (.lst l) =>
      match e2 : datas l with
      | some ds =>
        simp only [toD, e, e2, Option.map_some] at h ⊢
        obtain ⟨hF, vs, hH, rs⟩ := c.own k a _ q e
        have r' : Rep K mg (upd F a (.lst vs)) (.ref a) (.lst ds) := .lst upd_same ((rs.datas e2).mono (same_upd hF))
        have c' := c.freeze q hF hH r'
        exact ⟨_, _, _, same_upd hF, c', r', h _ _ _ (same_upd hF) (Pre.refl _) c', rfl⟩
      | none => simp only [toD, e, e2] at h; exact h.elim
    | some (.ins _ _) => simp only [toD, e] at h; exact h.elim
    | some (.dct _) => simp only [toD, e] at h; exact h.elim
    | none => simp only [toD, e] at h; exact h.elim
@[simp] def toDs : List S → M (List D)
  | [] => M.pure []
  | d :: r => (toD d).bind fun x => (toDs r).bind fun xs => M.pure (x :: xs)
theorem toDs_ok {R : Hp → List Addr → Hp → List D → Prop} {W : Value → Option Addr → Hp → Prop} : ∀ {F : Hp} {st : List O} {vs : List V} {ds : List S}, Core K mg B F rho st H → RepSs K mg F rho vs ds → Post K mg B R W F rho (toDs ds st) →
    ∃ F' st' ds', Same F F' ∧ Core K mg B F' rho st' H ∧ Reps K mg F' vs ds' ∧ R F' rho H ds'
  | F, st, _, _, c, .nil, h => ⟨F, st, [], Same.refl _, c, .nil, h.done c⟩
  | F, st, _, _, c, .cons r t, h => by
    obtain ⟨F1, _, x, e1, _, rx, ⟨st1, c1, _, _, h2⟩, _⟩ := toD_ok c r h.bind
    obtain ⟨F2, st2, xs, e2, c2, rs, h3⟩ := toDs_ok c1 (t.mono e1 (Pre.refl _)) h2.bind
    obtain ⟨st3, c3, _, _, h3⟩ := h3
    exact ⟨F2, st3, x :: xs, e1.trans e2, c3, .cons (rx.mono e2) rs, h3.done c3⟩
end

/-! ### names, constants -/
@[simp] def rsv (d : S) : M S := fun st => some (.ok (rsvS d st), st)
@[simp] def eVar (i : Nat) : ME := fun sl => match sl[i]? with
  | some (some d) => rsv d
  | _ => M.stuck
@[simp] def eC (d : D) : ME := fun _ => M.pure (.val d)
section
variable {X : Cx} {B : Hp} {W : WX} {pos : Pos}
theorem qe_var (i : Nat) {x : Str} (hN : X.N[i]? = some x := by rfl) (hv : Vis X.env.scope x := by first | exact Or.inl rfl | exact Or.inr (Or.inl rfl) | exact Or.inr (Or.inr rfl)) (hd : (x == ("__debug__" : Str)) = false := by decide)
    (hcd : (x == ("__classdict__" : Str)) = false := by decide) : QE X B W (.Name x pos) (eVar i) := by
  refine PEimp (pe_var hN hv hd hcd) fun s H Q h => ?_
  obtain ⟨F, rho, sl, st, c, S, h⟩ := h
  unfold eVar at h
  match e : sl[i]? with
  | some (some d) =>
    rw [e] at h
    obtain ⟨v, hv, r⟩ := S.get i d e
    exact ⟨v, hv, h F rho H (Same.refl _) (Pre.refl _) c v (rsv_ok c r)⟩
  | some none => rw [e] at h; exact h.elim
  | none => rw [e] at h; exact h.elim
/-- a reading that hands on a value -/
theorem qe_const {d : D} {v : V} (h : PE X e (tC v)) (hr : ∀ F, Rep X.K X.mg F v d) : QE X B W e (eC d) :=
  PEimp h fun s H Q ⟨F, rho, sl, st, c, S, h⟩ => h F rho H (Same.refl _) (Pre.refl _) c v (.val (hr _))
theorem qe_int {i j} : QE X B W (.Constant (.int i) j pos) (eC (.int i)) := qe_const pe_int fun _ => .int i
theorem qe_bl {b j} : QE X B W (.Constant (.bool b) j pos) (eC (.bl b)) := qe_const pe_bl fun _ => .bl b
theorem qe_non {j} : QE X B W (.Constant .none j pos) (eC .non) := qe_const pe_non fun _ => .non
theorem qe_str {x j} : QE X B W (.Constant (.str x) j pos) (eC (.str x)) := qe_const pe_str fun _ => .str x
/-- a module's name -/
theorem qe_glob {x : Str} {v : V} {u : Value} {d : D} (hm : X.mg x = some u) (r : RelV v u) (hr : ∀ F, Rep X.K X.mg F v d) (hg : Gl X x := by rfl) (hd : (x == ("__debug__" : Str)) = false := by decide) : QE X B W (.Name x pos) (eC d) :=
  qe_const (pe_glob hg hm r hd) hr
end

/-! ### two-place operations -/
def OpS (K : PySem.W.Frag) (mg : Str → Option Value) (r : R2) (g : S → S → M S) : Prop :=
  ∀ (W : Value → Option Addr → Hp → Prop) (B F : Hp) (rho : List Addr) (st : List O) (H : Hp) (x y : V) (dx dy : S) (Q : VK), Core K mg B F rho st H → RepS K mg F rho x dx → RepS K mg F rho y dy →
    Post K mg B (fun F' rho' H' d => ∀ v, RepS K mg F' rho' v d → Q v H') W F rho (g dx dy st) → r x y H Q
@[simp] def eBin (g : S → S → M S) (a b : ME) : ME := fun sl => (a sl).bind fun x => (b sl).bind fun y => g x y
section
variable {K : PySem.W.Frag} {mg : Str → Option Value} {B : Hp}
/-- two expressions, one behind the other -/
theorem two {W : WX} {fa fb : ME} {g : S → S → M S} {s : St} {H : Hp} {Q : VK} {R : V → V → Hp → Prop} (h : tE K mg B W (eBin g fa fb) s H Q)
    (hR : ∀ F rho st H x y dx dy, Core K mg B F rho st H → RepS K mg F rho x dx → RepS K mg F rho y dy → Post K mg B (fun F' rho' H' d => ∀ v, RepS K mg F' rho' v d → Q v H') (fun c d H' => W c d s H') F rho (g dx dy st) → R x y H) :
    tE K mg B W fa s H fun x H1 => tE K mg B W fb s H1 fun y H2 => R x y H2 := by
  obtain ⟨F, rho, sl, st, c, S, h⟩ := h
  refine ⟨F, rho, sl, st, c, S, h.bind.mono (Same.refl _) (Pre.refl _) (fun F1 r1 H1 dx e1 p1 h1 x rx => ?_) fun _ _ _ z => z⟩
  obtain ⟨st1, c1, _, _, h1⟩ := h1
  refine ⟨F1, r1, sl, st1, c1, S.mono e1 p1, h1.bind.mono (Same.refl _) (Pre.refl _) (fun F2 r2 H2 dy e2 p2 h2 y ry => ?_) fun _ _ _ z => z⟩
  obtain ⟨st2, c2, _, _, h2⟩ := h2
  exact hR F2 r2 st2 H2 x y dx dy c2 (rx.mono e2 p2) ry h2
end
section
variable {X : Cx} {B : Hp} {W : WX} {a b : Expr} {fa fb : ME} {pos : Pos} {r : R2} {g : S → S → M S}
theorem qe_op {op : Operator} (ho : OpR X (binaryOp op) r) (hg : OpS X.K X.mg r g) (ha : QE X B W a fa) (hb : QE X B W b fb) : QE X B W (.BinOp a op b pos) (eBin g fa fb) :=
  PEimp (pe_op ho ha hb) fun s H Q h => two h fun F rho st H x y dx dy c rx ry h => hg _ B F rho st H x y dx dy Q c rx ry h
theorem qe_cmp {op : CmpOp} (ho : OpR X (compareOp op) r) (hg : OpS X.K X.mg r g) (ha : QE X B W a fa) (hb : QE X B W b fb) (hm : behindInMarks op b = false) : QE X B W (.Compare a [op] [b] pos) (eBin g fa fb) :=
  PEimp (pe_cmpR ho ha hb hm) fun s H Q h => two h fun F rho st H x y dx dy c rx ry h => hg _ B F rho st H x y dx dy Q c rx ry h
theorem qe_ix (hr : IxR X r) (hg : OpS X.K X.mg r g) (ha : QE X B W a fa) (hb : QE X B W b fb) (hs : PlainIx b := by exact fun _ _ => rfl) : QE X B W (.Subscript a b pos) (eBin g fa fb) :=
  PEimp (pe_ix hr ha hb hs) fun s H Q h => two h fun F rho st H x y dx dy c rx ry h => hg _ B F rho st H x y dx dy Q c rx ry h
/-- a comparison as a test -/
@[simp] def tBin (g : S → S → M S) (a b : ME) : MT := fun sl => (eBin g a b sl).bind fun d => match d with
  | .val (.bl k) => M.pure k
  | _ => M.stuck
theorem test_of {f : ME} {s : St} {H : Hp} {Q : Bool → Hp → Prop} {K : PySem.W.Frag} {mg : Str → Option Value} (h : tT K mg B W (fun sl => (f sl).bind fun d => match d with | .val (.bl k) => M.pure k | _ => M.stuck) s H Q) :
    tE K mg B W f s H fun x H1 => ∃ k, x = .bl k ∧ Q k H1 := by
  obtain ⟨F, rho, sl, st, c, S, h⟩ := h
  refine ⟨F, rho, sl, st, c, S, h.bind.mono (Same.refl _) (Pre.refl _) (fun F1 r1 H1 dx e1 p1 h1 x rx => ?_) fun _ _ _ z => z⟩
  obtain ⟨st1, c1, _, _, h1⟩ := h1
  cases rx with
  | obj _ => exact h1.elim
  | val rx =>
    cases rx with
    | bl k => exact ⟨k, rfl, h1 F1 r1 H1 (Same.refl _) (Pre.refl _) c1⟩
    | _ => exact h1.elim
theorem qt_cmp {op : CmpOp} (ho : OpR X (compareOp op) r) (hg : OpS X.K X.mg r g) (ha : QE X B W a fa) (hb : QE X B W b fb) (hm : behindInMarks op b = false) : QT X B W (.Compare a [op] [b] pos) (tBin g fa fb) :=
  PTimp (pt_cmpR ho ha hb hm) fun s H Q h => two (test_of h) fun F rho st H x y dx dy c rx ry h => hg _ B F rho st H x y dx dy _ c rx ry h
/-- an expression whose value is a bool, as a test -/
@[simp] def tOfE (a : ME) : MT := fun sl => (a sl).bind fun d => match d with
  | .val (.bl k) => M.pure k
  | _ => M.stuck
theorem qt_val (ha : QE X B W a fa) (he : ∀ whole, isTrue a X.env whole = (do let v ← whole; standAt a.pos; holding [v] (truthy v)) := by intro _; rfl) : QT X B W a (tOfE fa) :=
  PTimp (pt_val ha he) fun s H Q h => test_of h
end

/-! ### and, or, not as tests -/
@[simp] def tAndM (a b : MT) : MT := fun sl => (a sl).bind fun k => if k = true then b sl else M.pure false
@[simp] def tOrM (a b : MT) : MT := fun sl => (a sl).bind fun k => if k = true then M.pure true else b sl
@[simp] def tNotM (a : MT) : MT := fun sl => (a sl).bind fun k => M.pure (!k)
section
variable {X : Cx} {B : Hp} {W : WX} {a b : Expr} {rest : List Expr} {fa fb : MT} {pos : Pos}
theorem qw_and1 (ha : QT X B W a fa) : QW X B W (.BoolOp .And [a] pos) fa := pw_and1 ha
theorem qw_or1 (ha : QT X B W a fa) : QW X B W (.BoolOp .Or [a] pos) fa := pw_or1 ha
theorem qw_and (ha : QT X B W a fa) (hb : QW X B W (.BoolOp .And (b :: rest) pos) fb) : QW X B W (.BoolOp .And (a :: b :: rest) pos) (tAndM fa fb) := by
  refine PWimp (pw_and ha hb) fun s H Q h => ?_
  obtain ⟨F, rho, sl, st, c, S, h⟩ := h
  refine ⟨F, rho, sl, st, c, S, h.bind.mono (Same.refl _) (Pre.refl _) (fun F1 r1 H1 k e1 p1 h1 => ?_) fun _ _ _ z => z⟩
  obtain ⟨st1, c1, _, _, h1⟩ := h1
  cases k with
  | true =>
    rw [if_pos rfl] at h1 ⊢
    exact ⟨F1, r1, sl, st1, c1, S.mono e1 p1, h1⟩
  | false =>
    rw [if_neg Bool.false_ne_true] at h1 ⊢
    exact h1 F1 r1 H1 (Same.refl _) (Pre.refl _) c1
theorem qw_or (ha : QT X B W a fa) (hb : QW X B W (.BoolOp .Or (b :: rest) pos) fb) : QW X B W (.BoolOp .Or (a :: b :: rest) pos) (tOrM fa fb) := by
  refine PWimp (pw_or ha hb) fun s H Q h => ?_
  obtain ⟨F, rho, sl, st, c, S, h⟩ := h
  refine ⟨F, rho, sl, st, c, S, h.bind.mono (Same.refl _) (Pre.refl _) (fun F1 r1 H1 k e1 p1 h1 => ?_) fun _ _ _ z => z⟩
  obtain ⟨st1, c1, _, _, h1⟩ := h1
  cases k with
  | true =>
    rw [if_pos rfl] at h1 ⊢
    exact h1 F1 r1 H1 (Same.refl _) (Pre.refl _) c1
  | false =>
    rw [if_neg Bool.false_ne_true] at h1 ⊢
    exact ⟨F1, r1, sl, st1, c1, S.mono e1 p1, h1⟩
theorem qt_not (ha : QT X B W a fa) : QT X B W (.UnaryOp .Not a pos) (tNotM fa) := by
  refine PTimp (pt_not ha) fun s H Q h => ?_
  obtain ⟨F, rho, sl, st, c, S, h⟩ := h
  refine ⟨F, rho, sl, st, c, S, h.bind.mono (Same.refl _) (Pre.refl _) (fun F1 r1 H1 k e1 p1 h1 => ?_) fun _ _ _ z => z⟩
  obtain ⟨st1, c1, _, _, h1⟩ := h1
  exact h1 F1 r1 H1 (Same.refl _) (Pre.refl _) c1
end

/-! ### argument lists, displays -/
@[simp] def aNil : MA := fun _ => M.pure []
@[simp] def aCons (a : ME) (r : MA) : MA := fun sl => (a sl).bind fun x => (r sl).bind fun xs => M.pure (x :: xs)
section
variable {X : Cx} {B : Hp} {W : WX} {e : Expr} {es : List Expr} {f : ME} {fs : MA} {pos : Pos}
theorem qa_nil : QA X B W [] aNil := PAimp pa_nil fun s H Q ⟨F, rho, sl, st, c, S, h⟩ => h F rho H (Same.refl _) (Pre.refl _) c [] .nil
theorem qa_cons (ha : QE X B W e f) (hr : QA X B W es fs) (hs : starEach (e :: es) X.env = (false, eval e X.env) :: starEach es X.env := by rfl) : QA X B W (e :: es) (aCons f fs) := by
  refine PAimp (pa_cons ha hr hs) fun s H Q h => ?_
  obtain ⟨F, rho, sl, st, c, S, h⟩ := h
  refine ⟨F, rho, sl, st, c, S, h.bind.mono (Same.refl _) (Pre.refl _) (fun F1 r1 H1 dx e1 p1 h1 x rx => ?_) fun _ _ _ z => z⟩
  obtain ⟨st1, c1, _, _, h1⟩ := h1
  refine ⟨F1, r1, sl, st1, c1, S.mono e1 p1, h1.bind.mono (Same.refl _) (Pre.refl _) (fun F2 r2 H2 dxs e2 p2 h2 xs rxs => ?_) fun _ _ _ z => z⟩
  obtain ⟨st2, c2, _, _, h2⟩ := h2
  exact h2 F2 r2 H2 (Same.refl _) (Pre.refl _) c2 (x :: xs) (.cons (rx.mono e2 p2) rxs)
/-- arguments, then something by their values -/
theorem args_of {K : PySem.W.Frag} {mg : Str → Option Value} {g : List S → M S} {s : St} {H : Hp} {Q : VK} {R : List V → Hp → Prop} (h : tE K mg B W (fun sl => (fs sl).bind g) s H Q)
    (hR : ∀ F rho st H vs ds, Core K mg B F rho st H → RepSs K mg F rho vs ds → Post K mg B (fun F' rho' H' d => ∀ v, RepS K mg F' rho' v d → Q v H') (fun c d H' => W c d s H') F rho (g ds st) → R vs H) :
    tA K mg B W fs s H R := by
  obtain ⟨F, rho, sl, st, c, S, h⟩ := h
  refine ⟨F, rho, sl, st, c, S, h.bind.mono (Same.refl _) (Pre.refl _) (fun F1 r1 H1 ds e1 p1 h1 vs rs => ?_) fun _ _ _ z => z⟩
  obtain ⟨st1, c1, _, _, h1⟩ := h1
  exact hR F1 r1 st1 H1 vs ds c1 rs h1
def gTup (ss : List S) : M S := (toDs ss).bind fun ds => fun st => if ds.length ≤ sizeLine then some (.ok (.val (.tup ds)), st) else none
def gLst (ss : List S) : M S := (toDs ss).bind fun ds => fun st => if ds.length ≤ sizeLine then some (.ok (.val (.lst ds)), st) else none
/-- a new list of the store -/
def gLstO (ds : List S) : M S := fun st => if ds.length ≤ sizeLine then some (.ok (.obj st.length), st ++ [.lst ds]) else none
@[simp] def eArgs (g : List S → M S) (fs : MA) : ME := fun sl => (fs sl).bind g
section
variable {K : PySem.W.Frag} {mg : Str → Option Value} {F : Hp} {rho : List Addr} {st : List O} {H : Hp} {vs : List V} {ds : List S} {Q : VK} {W' : Value → Option Addr → Hp → Prop}
theorem tup_post (c : Core K mg B F rho st H) (rs : RepSs K mg F rho vs ds) (h : Post K mg B (fun F' rho' H' d => ∀ v, RepS K mg F' rho' v d → Q v H') W' F rho (gTup ds st)) : vs.length ≤ sizeLine ∧ ∀ p, H p = none → Q (.ref p) (upd H p (.tup vs)) := by
  obtain ⟨F1, st1, ds', e1, c1, r1, st2, c2, e2, p2, h2⟩ := toDs_ok c rs h.bind
  split at h2
  · rename_i hz
    exact ⟨by rw [r1.length]; exact hz, fun p hp => h2 (upd F1 p (.tup vs)) rho _ (same_upd (c2.same.free hp)) (Pre.refl _) (c2.alloc hp) _ (.val (.tup (SqT.of upd_same) (r1.mono (same_upd (c2.same.free hp)))))⟩
  · exact h2.elim
theorem lst_post (c : Core K mg B F rho st H) (rs : RepSs K mg F rho vs ds) (h : Post K mg B (fun F' rho' H' d => ∀ v, RepS K mg F' rho' v d → Q v H') W' F rho (gLst ds st)) : vs.length ≤ sizeLine ∧ ∀ p, H p = none → Q (.ref p) (upd H p (.lst vs)) := by
  obtain ⟨F1, st1, ds', e1, c1, r1, st2, c2, e2, p2, h2⟩ := toDs_ok c rs h.bind
  split at h2
  · rename_i hz
    exact ⟨by rw [r1.length]; exact hz, fun p hp => h2 (upd F1 p (.lst vs)) rho _ (same_upd (c2.same.free hp)) (Pre.refl _) (c2.alloc hp) _ (.val (.lst upd_same (r1.mono (same_upd (c2.same.free hp)))))⟩
  · exact h2.elim
theorem lstO_post (c : Core K mg B F rho st H) (rs : RepSs K mg F rho vs ds) (h : Post K mg B (fun F' rho' H' d => ∀ v, RepS K mg F' rho' v d → Q v H') W' F rho (gLstO ds st)) : vs.length ≤ sizeLine ∧ ∀ p, H p = none → Q (.ref p) (upd H p (.lst vs)) := by
  unfold gLstO at h
  split at h
  · rename_i hz
    refine ⟨by rw [rs.length]; exact hz, fun p hp => h F (rho ++ [p]) _ (Same.refl _) (Pre.app _ _) (c.new hp ⟨c.same.free hp, vs, upd_same, rs.mono (Same.refl _) (Pre.app _ _)⟩) _ (.obj ?_)⟩
    rw [← c.len, List.getElem?_append_right (Nat.le_refl _), Nat.sub_self]; rfl
  · exact h.elim
end
theorem qe_tup {x1} (h : QA X B W es fs) : QE X B W (.Tuple es x1 pos) (eArgs gTup fs) := PEimp (pe_tup h) fun s H Q q => args_of q fun F rho st H vs ds c rs p => tup_post c rs p
theorem qe_lst (h : QA X B W es fs) : QE X B W (.List es pos) (eArgs gLst fs) := PEimp (pe_lst h) fun s H Q q => args_of q fun F rho st H vs ds c rs p => lst_post c rs p
theorem qe_lstO (h : QA X B W es fs) : QE X B W (.List es pos) (eArgs gLstO fs) := PEimp (pe_lst h) fun s H Q q => args_of q fun F rho st H vs ds c rs p => lstO_post c rs p
end
end Cl
namespace Cl
open PySem L2

/-! ### statements -/
@[simp] def sBind {α : Type} (m : Sl → M α) (k : α → MS) : MS := fun sl st => match m sl st with
  | none => none
  | some (.error x, st1) => some (.xc x, sl, st1)
  | some (.ok a, st1) => k a sl st1
@[simp] def sNext : MS := fun sl st => some (.nx, sl, st)
@[simp] def sBreak : MS := fun sl st => some (.bk, sl, st)
@[simp] def sCont : MS := fun sl st => some (.ct, sl, st)
@[simp] def sStuck : MS := fun _ _ => none
@[simp] def sSet (i : Nat) (f : ME) : MS := sBind f fun d sl st => some (.nx, sl.set i (some d), st)
@[simp] def sExpr (f : ME) : MS := sBind f fun _ sl st => some (.nx, sl, st)
@[simp] def sRet (f : ME) : MS := sBind f fun d sl st => some (.rt d, sl, st)
@[simp] def sIf (c : MT) (a b : MS) : MS := sBind c fun k => if k = true then a else b
@[simp] def sSeq (a b : MS) : MS := fun sl st => match a sl st with
  | some (.nx, sl1, st1) => b sl1 st1
  | r => r
section
variable {K : PySem.W.Frag} {mg : Str → Option Value} {B F F' : Hp} {rho rho' : List Addr} {W : WX} {N : Ends}
theorem PostS.mono {m : Option (Fl × Sl × List O)} (h : PostS K mg B W N F rho m) (e : Same F F') (p : Pre rho rho') : PostS K mg B W N F' rho' m := by
  match m, h with
  | some (fl, sl', st'), h => exact fun F1 r1 H1 s1 e1 p1 => h F1 r1 H1 s1 (e.trans e1) (p.trans p1)
theorem PostS.bind {α : Type} {m : Sl → M α} {k : α → MS} {sl : Sl} {st : List O} {s : St} (S : Slots K mg F rho s sl) (h : PostS K mg B W N F rho (sBind m k sl st)) :
    Post K mg B (fun F' rho' H' a => ∃ st', Core K mg B F' rho' st' H' ∧ Same F F' ∧ Pre rho rho' ∧ PostS K mg B W N F' rho' (k a sl st')) (fun c d H' => W c d s H') F rho (m sl st) := by
  unfold sBind at h
  match q : m sl st with
  | none => rw [q] at h; exact h
  | some (.error x, st1) => rw [q] at h; exact fun F1 r1 H1 e p c cls dd xr => h F1 r1 H1 s e p c (S.mono e p) cls dd xr
  | some (.ok a, st1) =>
    rw [q] at h
    exact fun F1 r1 H1 e p c => ⟨st1, c, e, p, h.mono e p⟩
theorem PostS.nx {sl : Sl} {st : List O} {H : Hp} {s : St} (h : PostS K mg B W N F rho (some (.nx, sl, st))) (c : Core K mg B F rho st H) (S : Slots K mg F rho s sl) : N.nx s H := h F rho H s (Same.refl _) (Pre.refl _) c S
end
section
variable {K : PySem.W.Frag} {mg : Str → Option Value} {B : Hp} {W : WX} {N : Ends} {s : St} {H : Hp}
/-- a statement that begins with an expression -/
theorem stm_of {fe : ME} {k : S → MS} {R : V → Hp → Prop} (h : tS K mg B W (sBind fe k) N s H)
    (hR : ∀ F rho sl st H v d, Core K mg B F rho st H → Slots K mg F rho s sl → RepS K mg F rho v d → PostS K mg B W N F rho (k d sl st) → R v H) : tE K mg B W fe s H R := by
  obtain ⟨F, rho, sl, st, c, S, h⟩ := h
  refine ⟨F, rho, sl, st, c, S, (PostS.bind S h).mono (Same.refl _) (Pre.refl _) (fun F1 r1 H1 d e1 p1 h1 v rv => ?_) fun _ _ _ z => z⟩
  obtain ⟨st1, c1, _, _, h1⟩ := h1
  exact hR F1 r1 sl st1 H1 v d c1 (S.mono e1 p1) rv h1
theorem stm_ofT {fc : MT} {k : Bool → MS} {R : Bool → Hp → Prop} (h : tS K mg B W (sBind fc k) N s H)
    (hR : ∀ F rho sl st H b, Core K mg B F rho st H → Slots K mg F rho s sl → PostS K mg B W N F rho (k b sl st) → R b H) : tT K mg B W fc s H R := by
  obtain ⟨F, rho, sl, st, c, S, h⟩ := h
  refine ⟨F, rho, sl, st, c, S, (PostS.bind S h).mono (Same.refl _) (Pre.refl _) (fun F1 r1 H1 d e1 p1 h1 => ?_) fun _ _ _ z => z⟩
  obtain ⟨st1, c1, _, _, h1⟩ := h1
  exact hR F1 r1 sl st1 H1 d c1 (S.mono e1 p1) h1
end
section
variable {X : Cx} {B : Hp} {W : WX} {st : Stmt} {rest : List Stmt} {e : Expr} {fe : ME} {fc : MT} {fa fb : MS} {pos : Pos}
theorem qs_set {i : Nat} {x : Str} {pos' : Pos} (he : QE X B W e fe) (hN : X.N.Nodup) (hi : X.N[i]? = some x := by rfl) (hx : Loc X.env.scope x := by first | exact Or.inl rfl | exact Or.inr rfl) (hs : swapsWith e (some (.Name x pos')) pos.line X.env = pure false := by rfl) (hf : X.fn x = true ∨ X.env.scope.names.lookup x = some .local := by first | exact .inl rfl | exact .inr rfl | assumption) :
    QS X B W (.Assign [.Name x pos'] e pos) (sSet i fe) :=
  PSimp (ps_set hN hi hx he hs hf) fun N s H h => stm_of h fun F rho sl st H v d c S r p => p.nx c (S.set r i)
theorem qs_expr (he : QE X B W e fe) (hs : swapsWith e none pos.line X.env = pure false := by rfl) : QS X B W (.Expr e pos) (sExpr fe) :=
  PSimp (ps_expr he hs) fun N s H h => stm_of h fun F rho sl st H v d c S r p => p.nx c S
theorem qs_ret (he : QE X B W e fe) : QS X B W (.Return (some e) pos) (sRet fe) :=
  PSimp (ps_ret he) fun N s H h => stm_of h fun F rho sl st H v d c S r p => p F rho H s (Same.refl _) (Pre.refl _) c S v r
theorem qs_retN : QS X B W (.Return none pos) (sRet (eC .non)) :=
  PSimp ps_retN fun N s H h => by
    obtain ⟨F, rho, sl, st, c, S, h⟩ := h
    exact h F rho H s (Same.refl _) (Pre.refl _) c S .non (.val .non)
theorem qs_pass : QS X B W (.Pass pos) sNext := PSimp ps_pass fun N s H ⟨F, rho, sl, st, c, S, h⟩ => h.nx c S
theorem qs_break : QS X B W (.Break pos) sBreak := PSimp ps_break fun N s H ⟨F, rho, sl, st, c, S, h⟩ => h F rho H s (Same.refl _) (Pre.refl _) c S
theorem qs_cont : QS X B W (.Continue pos) sCont := PSimp ps_continue fun N s H ⟨F, rho, sl, st, c, S, h⟩ => h F rho H s (Same.refl _) (Pre.refl _) c S
theorem qs_if {c : Expr} {a b : List Stmt} (hc : QT X B W c fc) (ha : QSs X B W a fa) (hb : QSs X B W b fb) : QS X B W (.If c a b pos) (sIf fc fa fb) :=
  PSimp (ps_if hc ha hb) fun N s H h => stm_ofT h fun F rho sl st H k c S p => by
    cases k with
    | true => rw [if_pos rfl] at p ⊢; exact ⟨F, rho, sl, st, c, S, p⟩
    | false => rw [if_neg Bool.false_ne_true] at p ⊢; exact ⟨F, rho, sl, st, c, S, p⟩
theorem qss_nil : QSs X B W [] sNext := PSsimp pss_nil fun N s H ⟨F, rho, sl, st, c, S, h⟩ => h.nx c S
/-- one statement, then others, at the level of readings -/
theorem seq_of {K : PySem.W.Frag} {mg : Str → Option Value} {N : Ends} {s : St} {H : Hp} {u : TS} (hu : ∀ s' H', tS K mg B W fb N s' H' → u N s' H') (h : tS K mg B W (sSeq fa fb) N s H) : tS K mg B W fa { N with nx := u N } s H := by
  obtain ⟨F, rho, sl, st, c, S, h⟩ := h
  refine ⟨F, rho, sl, st, c, S, ?_⟩
  unfold sSeq at h
  match q : fa sl st with
  | none => rw [q] at h; exact h
  | some (.nx, sl1, st1) =>
    rw [q] at h
    exact fun F1 r1 H1 s1 e p c1 S1 => hu _ _ ⟨F1, r1, sl1, st1, c1, S1, PostS.mono h e p⟩
  | some (.bk, sl1, st1) => rw [q] at h; exact h
  | some (.ct, sl1, st1) => rw [q] at h; exact h
  | some (.rt d, sl1, st1) => rw [q] at h; exact h
  | some (.xc d, sl1, st1) => rw [q] at h; exact h
theorem qss_cons (h1 : QS X B W st fa) (h2 : QSs X B W rest fb) : QSs X B W (st :: rest) (sSeq fa fb) :=
  PSsimp (pss_cons h1 h2) fun N s H h => seq_of (fun _ _ z => z) h
theorem qss_one (h1 : QS X B W st fa) : QSs X B W [st] fa := pss_one h1
/-- a docstring -/
theorem qs_doc {x j pos pos'} : QS X B W (.Expr (.Constant (.str x) j pos) pos') sNext := PSimp ps_doc fun N s H ⟨F, rho, sl, st, c, S, h⟩ => h.nx c S
end

/-! ### while -/
def whileN : Nat → MT → MS → Sl → List O → Option (Fl × Sl × List O)
  | 0, _, _, _, _ => none
  | n + 1, c, b, sl, st => match c sl st with
    | none => none
    | some (.error x, st1) => some (.xc x, sl, st1)
    | some (.ok false, st1) => some (.nx, sl, st1)
    | some (.ok true, st1) => match b sl st1 with
      | some (.nx, sl2, st2) => whileN n c b sl2 st2
      | some (.ct, sl2, st2) => whileN n c b sl2 st2
      | some (.bk, sl2, st2) => some (.nx, sl2, st2)
      | r => r
open Classical in
/-- the loop, however many turns it takes -/
noncomputable def sWhile (c : MT) (b : MS) : MS := fun sl st => if h : ∃ n, (whileN n c b sl st).isSome = true then whileN h.choose c b sl st else none
theorem whileN_succ {c : MT} {b : MS} : ∀ {n : Nat} {sl : Sl} {st : List O} {r}, whileN n c b sl st = some r → whileN (n + 1) c b sl st = some r
  | 0, sl, st, r, h => by cases h
  | n + 1, sl, st, r, h => by
    rw [whileN] at h ⊢
    match q : c sl st with
    | none => rw [q] at h; cases h
    | some (.error x, st1) => rw [q] at h; exact h
    | some (.ok false, st1) => rw [q] at h; exact h
    | some (.ok true, st1) =>
      rw [q] at h
      match q2 : b sl st1 with
      | none => simp only [q2] at h; cases h
      | some (.nx, sl2, st2) => simp only [q2] at h ⊢; exact whileN_succ h
      | some (.ct, sl2, st2) => simp only [q2] at h ⊢; exact whileN_succ h
      | some (.bk, sl2, st2) => simp only [q2] at h ⊢; exact h
      | some (.rt d, sl2, st2) => simp only [q2] at h ⊢; exact h
      | some (.xc d, sl2, st2) => simp only [q2] at h ⊢; exact h
theorem whileN_mono {c : MT} {b : MS} {n m : Nat} {sl : Sl} {st : List O} {r} (h : whileN n c b sl st = some r) (hm : n ≤ m) : whileN m c b sl st = some r := by
  induction hm with
  | refl => exact h
  | step _ ih => exact whileN_succ ih
theorem sWhile_of {c : MT} {b : MS} {n : Nat} {sl : Sl} {st : List O} {r} (h : whileN n c b sl st = some r) : sWhile c b sl st = some r := by
  have hx : ∃ n, (whileN n c b sl st).isSome = true := ⟨n, by rw [h]; rfl⟩
  unfold sWhile
  rw [dif_pos hx]
  obtain ⟨r', e⟩ := Option.isSome_iff_exists.mp hx.choose_spec
  rcases Nat.le_total n hx.choose with q | q
  · exact whileN_mono h q
  · have := whileN_mono e q
    rw [e, ← this, h]
theorem of_sWhile {c : MT} {b : MS} {sl : Sl} {st : List O} {r} (h : sWhile c b sl st = some r) : ∃ n, whileN n c b sl st = some r := by
  unfold sWhile at h
  split at h
  · exact ⟨_, h⟩
  · cases h
section
variable {X : Cx} {B : Hp} {W : WX} {c : Expr} {body : List Stmt} {fc : MT} {fb : MS} {pos : Pos}
theorem qs_while (hp : PassesOwn (model X.prog X.w) X.A X.env X.xe) (hc : QT X B W c fc) (hb : QSs X B W body fb) : QS X B W (.While c body [] pos) (sWhile fc fb) := by
  refine PSimp (ps_while hp hc hb) fun N s H h => ?_
  obtain ⟨F0, rho0, sl, st, c, S, h⟩ := h
  refine ⟨fun m s' H' => ∃ F rho sl st, Core X.K X.mg B F rho st H' ∧ Slots X.K X.mg F rho s' sl ∧ PostS X.K X.mg B W N F rho (whileN m fc fb sl st), ?_, ?_⟩
  · match q : sWhile fc fb sl st with
    | none => rw [q] at h; exact h.elim
    | some r =>
      obtain ⟨n, e⟩ := of_sWhile q
      exact ⟨n, F0, rho0, sl, st, c, S, by rw [e, ← q]; exact h⟩
  · rintro m s1 H1 ⟨F, rho, sl, st, c, S, h⟩
    cases m with
    | zero => exact h.elim
    | succ n =>
      rw [whileN] at h
      refine ⟨F, rho, sl, st, c, S, ?_⟩
      match q : fc sl st with
      | none => rw [q] at h; exact h
      | some (.error x, st1) => rw [q] at h; exact fun F1 r1 H1 e p c cls dd xr => h F1 r1 H1 s1 e p c (S.mono e p) cls dd xr
      | some (.ok false, st1) =>
        rw [q] at h
        intro F1 r1 H1 e p c1
        refine iteF ?_
        exact h F1 r1 H1 s1 e p c1 (S.mono e p)
      | some (.ok true, st1) =>
        rw [q] at h
        intro F1 r1 H1 e p c1
        refine iteT ?_
        refine ⟨fun s' H' => ∃ F rho sl st, Core X.K X.mg B F rho st H' ∧ Slots X.K X.mg F rho s' sl ∧ PostS X.K X.mg B W N F rho (whileN n fc fb sl st), fun s' H' z => ⟨n, Nat.lt_succ_self _, z⟩, F1, r1, sl, st1, c1, S.mono e p, ?_⟩
        have h := PostS.mono h e p
        match q2 : fb sl st1 with
        | none => simp only [q2] at h; exact h
        | some (.nx, sl2, st2) => simp only [q2] at h; exact fun F2 r2 H2 s2 e2 p2 c2 S2 => ⟨F2, r2, sl2, st2, c2, S2, PostS.mono h e2 p2⟩
        | some (.ct, sl2, st2) => simp only [q2] at h; exact fun F2 r2 H2 s2 e2 p2 c2 S2 => ⟨F2, r2, sl2, st2, c2, S2, PostS.mono h e2 p2⟩
        | some (.bk, sl2, st2) => simp only [q2] at h; exact fun F2 r2 H2 s2 e2 p2 c2 S2 => h F2 r2 H2 s2 e2 p2 c2 S2
        | some (.rt d, sl2, st2) => simp only [q2] at h; exact fun F2 r2 H2 s2 e2 p2 c2 S2 => h F2 r2 H2 s2 e2 p2 c2 S2
        | some (.xc d, sl2, st2) => simp only [q2] at h; exact fun F2 r2 H2 s2 e2 p2 c2 S2 => h F2 r2 H2 s2 e2 p2 c2 S2
end
end Cl
namespace Cl
open PySem L2

section
variable {K : PySem.W.Frag} {mg : Str → Option Value} {B F F' : Hp} {rho rho' : List Addr} {st : List O} {H H' : Hp} {a p : Addr} {o : O}
/-- what is new stands where nothing stood -/
def Fresh (F F' H : Hp) : Prop := ∀ a, F' a ≠ none → F a ≠ none ∨ H a = none
/- all but what is frozen -/
open Classical in
noncomputable def less (K : PySem.W.Frag) (H F : Hp) : Hp := fun a => if F a = none ∧ ¬ ∃ q, IsTab K a q then H a else none
/-- all but the tables stay -/
def SameX (K : PySem.W.Frag) (H H' : Hp) : Prop := ∀ b o, H b = some o → (¬ ∃ q, IsTab K b q) → H' b = some o
def Tabs (K : PySem.W.Frag) (F H : Hp) : Prop := ∀ P q, IsTab K P q → F P = none ∧ LamX.TabS H P q
theorem Core.start (e : Same F H) (t : Tabs K F H) : Core K mg (less K H F) F [] [] H := by
  refine ⟨e, fun b o q => ?_, fun b q => ?_, fun k b q => by simp at q, List.nodup_nil, rfl, fun k b o q => by simp at q, fun k b q => by simp at q, fun P q h => ?_⟩
  · unfold less at q; split at q
    · exact q
    · cases q
  · unfold less; rw [if_neg (fun z => q z.1)]
  · exact ⟨by unfold less; rw [if_neg (fun z => z.2 ⟨q, h⟩)], t P q h⟩
theorem Core.tb (c : Core K mg B F rho st H) : Tabs K F H := fun P q h => (c.tabs P q h).2
theorem Core.all (c : Core K mg (less K H F) F' rho st H') (e : Same F H) (e' : Same F F') : SameX K H H' := fun b o q n => by
  cases z : F b with
  | some u => 
    have := e b u z
    rw [q] at this; cases this
    exact c.same b o (e' b o z)
  | none => exact c.frame b o (by unfold less; rw [if_pos ⟨z, n⟩]; exact q)
theorem less_fresh {F2 : Hp} (t : Tabs K F2 H') (h : ∀ b, F2 b ≠ none → less K H F b = none) : Fresh F F2 H := fun b q => by
  have z := h b q
  unfold less at z
  split at z
  · exact .inr z
  · rename_i h2
    refine .inl fun y => h2 ⟨y, fun ⟨q2, i⟩ => q (t _ _ i).1⟩
theorem Core.fresh (c : Core K mg (less K H F) F' rho st H') : Fresh F F' H := less_fresh c.tb c.apart
theorem Core.noX (c : Core K mg B F rho st H) {k : Nat} (h : rho[k]? = some a) : ¬ ∃ q, IsTab K a q := fun ⟨q, i⟩ => by
  obtain ⟨ps, e⟩ := tab_at c.tabs i
  exact c.noT h e rfl rfl
theorem Core.grow (c : Core K mg B F rho st H) (e1 : Same F F') (e2 : Same F' H') (e3 : SameX K H H') (fr : Fresh F F' H) (t : Tabs K F' H') : Core K mg B F' rho st H' := by
  refine ⟨e2, fun b o q => e3 b o (c.frame b o q) (fun ⟨z, i⟩ => by rw [(c.tabs _ _ i).1] at q; cases q), fun b q => ?_, c.off, c.nd, c.len, fun k b o q1 q2 => ?_, fun k b q => ?_, fun P q i => ⟨(c.tabs P q i).1, t P q i⟩⟩
  · rcases fr b q with z | z
    · exact c.apart b z
    · exact c.frame.free z
  · refine (c.own k b o q1 q2).mono e1 (Pre.refl _) (fun z => ?_) (fun u z => e3 _ _ z (c.noX q1))
    cases y : F' b with
    | none => rfl
    | some u =>
      rcases fr b (by rw [y]; exact fun z => by cases z) with x | x
      · exact absurd z x
      · exact absurd x (c.live k b q1)
  · obtain ⟨u, z, n⟩ := c.liv k b q
    exact ⟨u, e3 _ _ z (c.noX q), n⟩
/-- an object that nobody asks after -/
theorem Core.junk {u : HO} (c : Core K mg B F rho st H) (h : H p = none) : Core K mg B F rho st (upd H p u) := by
  have hp : F p = none := c.same.free h
  have hb : B p = none := c.frame.free h
  refine ⟨same_upd1 c.same hp, same_upd1 c.frame hb, c.apart, c.off, c.nd, c.len, fun k b o e1 e2 => ?_, fun k b e => ?_, c.tabs.mono (fun b o e _ => by rw [upd_ne (ne_of_none e h)]; exact e) (fun _ _ _ _ z => z) fun _ _ _ _ z => z⟩
  · have nb : b ≠ p := fun z => c.live k b e1 (by rw [z]; exact h)
    exact (c.own k b o e1 e2).mono (Same.refl _) (Pre.refl _) (fun z => z) (fun u z => by rw [upd_ne nb]; exact z)
  · have nb : b ≠ p := fun z => c.live k b e (by rw [z]; exact h)
    rw [upd_ne nb]; exact c.liv k b e
/-- all that is owned is frozen -/
def shut (F : Hp) (rho : List Addr) (H : Hp) : Hp := fun a => match F a with
  | some o => some o
  | none => if a ∈ rho then H a else none
theorem shut_same : Same F (shut F rho H) := fun b o q => by unfold shut; rw [q]
theorem shut_in (c : Core K mg B F rho st H) : Same (shut F rho H) H := fun b o q => by
  unfold shut at q
  cases z : F b with
  | some u => rw [z] at q; cases q; exact c.same b _ z
  | none =>
    rw [z] at q
    dsimp only at q
    split at q
    · exact q
    · cases q
theorem shut_at {k : Nat} (c : Core K mg B F rho st H) (h : rho[k]? = some a) {u : HO} (hF : F a = none) (hH : H a = some u) : shut F rho H a = some u := by
  unfold shut; rw [hF]; dsimp only; rw [if_pos (List.mem_of_getElem? h)]; exact hH
theorem shut_apart (c : Core K mg B F rho st H) : ∀ a, shut F rho H a ≠ none → B a = none := fun b q => by
  unfold shut at q
  cases z : F b with
  | some u => exact c.apart b (by rw [z]; exact fun z => by cases z)
  | none =>
    rw [z] at q
    dsimp only at q
    split at q
    · rename_i h
      obtain ⟨k, hk⟩ := List.getElem?_of_mem h
      exact c.off k b hk
    · exact absurd rfl q
theorem shut_tb (c : Core K mg B F rho st H) : Tabs K (shut F rho H) H := fun P q i => by
  obtain ⟨_, h2, h3⟩ := c.tabs P q i
  refine ⟨?_, h3⟩
  unfold shut; rw [h2]; dsimp only
  rw [if_neg (fun z => by obtain ⟨k, hk⟩ := List.getElem?_of_mem z; exact c.noX hk ⟨q, i⟩)]
end

/-! ### a value and all it holds, as data -/
mutual
def deepD : Nat → List O → S → Option D
  | _, _, .val d => some d
  | 0, _, .obj _ => none
  | n + 1, st, .obj k => match st[k]? with
    | some (.frz d) => some d
    | some (.lst l) => (deepL n st l).map .lst
    | some (.ins c fs) => (deepF n st fs).map (.ins c)
    | some (.dct l) => (deepK n st l).map .dct
    | none => none
def deepL : Nat → List O → List S → Option (List D)
  | _, _, [] => some []
  | n, st, s :: r => match deepD n st s, deepL n st r with
    | some d, some ds => some (d :: ds)
    | _, _ => none
def deepF : Nat → List O → List (Str × S) → Option (List (Str × D))
  | _, _, [] => some []
  | n, st, (f, s) :: r => match deepD n st s, deepF n st r with
    | some d, some ds => some ((f, d) :: ds)
    | _, _ => none
def deepK : Nat → List O → List (D × S) → Option (List (D × D))
  | _, _, [] => some []
  | n, st, (k, s) :: r => match deepD n st s, deepK n st r with
    | some d, some ds => some ((k, d) :: ds)
    | _, _ => none
end
section
variable {K : PySem.W.Frag} {mg : Str → Option Value} {B F : Hp} {rho : List Addr} {st : List O} {H : Hp}
mutual
theorem deep_ok (c : Core K mg B F rho st H) : ∀ (n : Nat) {v : V} {s : S} {d : D}, RepS K mg F rho v s → deepD n st s = some d → Rep K mg (shut F rho H) v d
  | n, _, _, _, .val r, h => by
    unfold deepD at h
    cases h; exact r.mono shut_same
  | 0, _, _, _, .obj q, h => by unfold deepD at h; cases h
  | n + 1, _, _, _, .obj (k := k) (a := a) q, h => by
    unfold deepD at h
    match e : st[k]? with
    | some (.frz d) => rw [e] at h; cases h; exact Rep.mono shut_same (c.own k a _ q e)
    | some (.lst l) =>
      rw [e] at h
      obtain ⟨ds, h2, rfl⟩ := Option.map_eq_some_iff.mp h
      obtain ⟨hF, vs, hH, rs⟩ := c.own k a _ q e
      exact .lst (shut_at c q hF hH) (deepL_ok c n rs h2)
    | some (.ins m fs) =>
      rw [e] at h
      obtain ⟨ds, h2, rfl⟩ := Option.map_eq_some_iff.mp h
      obtain ⟨hF, C, dx, vs, hm, hH, rs⟩ := c.own k a _ q e
      exact .ins hm (shut_at c q hF hH) (deepF_ok c n rs h2)
    | some (.dct l) =>
      rw [e] at h
      obtain ⟨ds, h2, rfl⟩ := Option.map_eq_some_iff.mp h
      obtain ⟨hF, vs, hH, rs⟩ := c.own k a _ q e
      exact .dct (shut_at c q hF hH) (deepK_ok c n rs h2)
    | none => rw [e] at h; cases h
theorem deepL_ok (c : Core K mg B F rho st H) : ∀ (n : Nat) {vs : List V} {ss : List S} {ds : List D}, RepSs K mg F rho vs ss → deepL n st ss = some ds → Reps K mg (shut F rho H) vs ds
  | n, _, _, _, .nil, h => by unfold deepL at h; cases h; exact .nil
  | n, _, _, _, .cons (d := s) (ds := ss) r t, h => by
    unfold deepL at h
    match e1 : deepD n st s, e2 : deepL n st ss with
    | some d, some ds => rw [e1, e2] at h; cases h; exact .cons (deep_ok c n r e1) (deepL_ok c n t e2)
    | none, _ => rw [e1] at h; cases h
    | some d, none => rw [e1, e2] at h; cases h
theorem deepF_ok (c : Core K mg B F rho st H) : ∀ (n : Nat) {vs : List (Str × V)} {ss : List (Str × S)} {ds : List (Str × D)}, RepSF K mg F rho vs ss → deepF n st ss = some ds → RepF K mg (shut F rho H) vs ds
  | n, _, _, _, .nil, h => by unfold deepF at h; cases h; exact .nil
  | n, _, _, _, .cons (d := s) (ds := ss) r t, h => by
    unfold deepF at h
    match e1 : deepD n st s, e2 : deepF n st ss with
    | some d, some ds => rw [e1, e2] at h; cases h; exact .cons (deep_ok c n r e1) (deepF_ok c n t e2)
    | none, _ => rw [e1] at h; cases h
    | some d, none => rw [e1, e2] at h; cases h
theorem deepK_ok (c : Core K mg B F rho st H) : ∀ (n : Nat) {vs : List (Key × V)} {ss : List (D × S)} {ds : List (D × D)}, RepSK K mg F rho vs ss → deepK n st ss = some ds → RepK K mg (shut F rho H) vs ds
  | n, _, _, _, .nil, h => by unfold deepK at h; cases h; exact .nil
  | n, _, _, _, .cons (d := s) (ds := ss) r t, h => by
    unfold deepK at h
    match e1 : deepD n st s, e2 : deepK n st ss with
    | some d, some ds => rw [e1, e2] at h; cases h; exact .cons (deep_ok c n r e1) (deepK_ok c n t e2)
    | none, _ => rw [e1] at h; cases h
    | some d, none => rw [e1, e2] at h; cases h
end
end

/-! ### what a def promises -/
/-- a def that changes nothing, by its data -/
abbrev PF := List D → Option (Except XD D)
/-- a def over the store -/
abbrev OF := List S → List O → Option (Except XD S × List O)
section
variable (K : PySem.W.Frag) (mg : Str → Option Value)
def PostP (F H : Hp) (R : Hp → Hp → D → Prop) (E : XK) (m : Option (Except XD D)) : Prop := match m with
  | none => False
  | some (.ok d) => ∀ F' H', Same F F' → Same F' H' → SameX K H H' → Fresh F F' H → Tabs K F' H' → R F' H' d
  | some (.error x) => ∀ F' H', Same F F' → Same F' H' → SameX K H H' → Fresh F F' H → Tabs K F' H' → ∀ cls dd, XRep K mg F' cls dd x → E cls dd H'
def spP (n : Nat) (f : PF) : Sp := fun vs H Q E => ∃ F ds, Same F H ∧ Tabs K F H ∧ Reps K mg F vs ds ∧ ds.length = n ∧ PostP K mg F H (fun F' H' d => ∀ v, Rep K mg F' v d → Q v H') E (f ds)
def spO (n : Nat) (f : OF) : Sp := fun vs H Q E => ∃ B F rho st ss, Core K mg B F rho st H ∧ RepSs K mg F rho vs ss ∧ ss.length = n ∧ Post K mg B (fun F' rho' H' s => ∀ v, RepS K mg F' rho' v s → Q v H') (fun c d H' => E c d H') F rho (f ss st)
/-- an __init__ whose instance is never changed behind it -/
def spM (c : Str) (n : Nat) (f : PF) : Sp := fun vs H Q E => ∃ F ds a us, vs = .ref a :: us ∧ Same F H ∧ Tabs K F H ∧ F a = none ∧ (∃ C dx, mg c = some (.ref C) ∧ H a = some (.ins C dx [])) ∧ Reps K mg F us ds ∧ ds.length + 1 = n ∧
  match f ds with
  | none => False
  | some (.ok d) => ∀ F' H', Same F F' → Same F' H' → (∀ b o, b ≠ a → H b = some o → (¬ ∃ q, IsTab K b q) → H' b = some o) → (∀ b, b ≠ a → F' b ≠ none → F b ≠ none ∨ H b = none) → Tabs K F' H' → Rep K mg F' (.ref a) d → Q .non H'
  | some (.error x) => ∀ F' H', Same F F' → Same F' H' → (∀ b o, b ≠ a → H b = some o → (¬ ∃ q, IsTab K b q) → H' b = some o) → (∀ b, b ≠ a → F' b ≠ none → F b ≠ none ∨ H b = none) → Tabs K F' H' → ∀ cls dd, XRep K mg F' cls dd x → E cls dd H'
end
@[simp] def mkSl (n : Nat) (ss : List S) : Sl := ss.map some ++ List.replicate (n - ss.length) none
@[simp] def exitP (r : Option (Fl × Sl × List O)) : Option (Except XD D) := match r with
  | some (.rt s, _, st) => (deepD 6 st s).map .ok
  | some (.nx, _, _) => some (.ok .non)
  | some (.xc x, _, _) => some (.error x)
  | _ => none
@[simp] def exitK (r : Option (Fl × Sl × List O)) : Option (Except XD S × List O) := match r with
  | some (.rt s, _, st) => some (.ok s, st)
  | some (.nx, _, st) => some (.ok (.val .non), st)
  | some (.xc x, _, st) => some (.error x, st)
  | _ => none
/-- the data function of a body with n names -/
@[simp] def asP (n : Nat) (b : MS) : PF := fun ds => exitP (b (mkSl n (ds.map .val)) [])
@[simp] def asK (n : Nat) (b : MS) : OF := fun ss st => exitK (b (mkSl n ss) st)
section
variable {K : PySem.W.Frag} {mg : Str → Option Value} {F : Hp} {rho : List Addr}
theorem slots_start {N : List Str} {vs : List V} {ss : List S} (r : RepSs K mg F rho vs ss) : Slots K mg F rho (L2.start N vs) (mkSl N.length ss) := by
  refine ⟨?_, fun i d q => ?_⟩
  · unfold L2.start mkSl; simp only [List.length_append, List.length_map, List.length_replicate, r.length]
  · unfold mkSl at q
    by_cases hi : i < ss.length
    · rw [List.getElem?_append_left (by simpa using hi), List.getElem?_map] at q
      cases e : ss[i]? with
      | none => rw [e] at q; cases q
      | some s =>
        rw [e] at q; cases q
        obtain ⟨v, hv, rv⟩ := r.get e
        refine ⟨v, ?_, rv⟩
        unfold L2.start
        rw [List.getElem?_append_left (by simpa [r.length] using hi), List.getElem?_map, hv]; rfl
    · rw [List.getElem?_append_right (by simpa using hi), List.getElem?_replicate] at q
      split at q <;> cases q
end
section
variable {P : Program} {w : World} {K : PySem.W.Frag} {mg : Str → Option Value} {base : Heap} {x qual : Str} {stm : Stmt} {f : Addr} {fd : FuncData} {N ps : List Str} {k : Nat} {b : MS} {dvs : List V} {kws : List (Str × V)}
/-- a body's derivation, wherever it is entered -/
abbrev Body (P : Program) (w : World) (K : PySem.W.Frag) (mg : Str → Option Value) (base : Heap) (N : List Str) (qual : Str) (stm : Stmt) (f : Addr) (k : Nat) (b : MS) : Prop :=
  ∀ (cdv : Value) (A : Around) (outer : List Env) (s : Shared) (H : Hp) (E : XK) (B : Hp), Room k (A.deeper (PyProof.Rows.envOfC qual (defScope stm) s.heap.objs.size f cdv)) →
    QSs (cxOf (L2.CX P w) P w K mg base N qual (defScope stm) f cdv A outer s H E) B (fun c d _ H => E c d H) (defBody stm) b
theorem fn_P (Fn : FunD K x qual (defArgs stm) (defBody stm) (defScope stm) dvs kws f fd) (Sc : FnScope N ps (defScope stm)) (hb : Body P w K mg base N qual stm f k b) : FnOk P w K mg base (L2.CX P w) (k + 1) f fd ps (spP K mg ps.length (asP N.length b)) := by
  refine Fn.ok Sc (fun vs H Q E h => ?_) (fun cdv A outer s H vs Q E hr h => ?_)
  · obtain ⟨F, ds, _, _, r, l, _⟩ := h
    rw [r.length]; exact l
  · obtain ⟨F, ds, e, tb, r, l, h⟩ := h
    refine ⟨_, hb cdv A outer s H E (less K H F) hr, F, [], _, [], Core.start e tb, slots_start r.vals, ?_⟩
    unfold asP exitP at h
    match q : b (mkSl N.length (ds.map .val)) [] with
    | none => rw [q] at h; exact h
    | some (.nx, sl', st') =>
      rw [q] at h
      exact fun F' rho' H' s' e1 p1 c1 S1 => h F' H' e1 c1.same (c1.all e e1) c1.fresh c1.tb .non .non
    | some (.bk, sl', st') => rw [q] at h; exact h.elim
    | some (.ct, sl', st') => rw [q] at h; exact h.elim
    | some (.xc z, sl', st') =>
      rw [q] at h
      exact fun F' rho' H' s' e1 p1 c1 S1 cls dd xr => h F' H' e1 c1.same (c1.all e e1) c1.fresh c1.tb cls dd xr
    | some (.rt s, sl', st') =>
      rw [q] at h
      intro F' rho' H' s' e1 p1 c1 S1 v rv
      dsimp only at h
      match q2 : deepD 6 st' s with
      | none => rw [q2] at h; exact h.elim
      | some d =>
        rw [q2] at h
        exact h (shut F' rho' H') H' (e1.trans shut_same) (shut_in c1) (c1.all e e1) (less_fresh (shut_tb c1) (shut_apart c1)) (shut_tb c1) v (deep_ok c1 6 rv q2)
theorem fn_O (Fn : FunD K x qual (defArgs stm) (defBody stm) (defScope stm) dvs kws f fd) (Sc : FnScope N ps (defScope stm)) (hb : Body P w K mg base N qual stm f k b) : FnOk P w K mg base (L2.CX P w) (k + 1) f fd ps (spO K mg ps.length (asK N.length b)) := by
  refine Fn.ok Sc (fun vs H Q E h => ?_) (fun cdv A outer s H vs Q E hr h => ?_)
  · obtain ⟨B, F, rho, st, ss, _, r, l, _⟩ := h
    rw [r.length]; exact l
  · obtain ⟨B, F, rho, st, ss, c, r, l, h⟩ := h
    refine ⟨_, hb cdv A outer s H E B hr, F, rho, _, st, c, slots_start r, ?_⟩
    unfold asK exitK at h
    match q : b (mkSl N.length ss) st with
    | none => rw [q] at h; exact h
    | some (.nx, sl', st') =>
      rw [q] at h
      exact fun F' rho' H' s' e1 p1 c1 S1 => h F' rho' H' e1 p1 c1 .non (.val .non)
    | some (.bk, sl', st') => rw [q] at h; exact h.elim
    | some (.ct, sl', st') => rw [q] at h; exact h.elim
    | some (.xc z, sl', st') =>
      rw [q] at h
      exact fun F' rho' H' s' e1 p1 c1 S1 cls dd xr => h F' rho' H' e1 p1 c1 cls dd xr
    | some (.rt s, sl', st') =>
      rw [q] at h
      exact fun F' rho' H' s' e1 p1 c1 S1 v rv => h F' rho' H' e1 p1 c1 v rv
end
end Cl
namespace L2
open PySem PySem.Spec PyProof.Rows
section
variable {X : Cx} {CX : CXT} {k : Nat} {f C : Addr} {fd : FuncData} {ps : List Str} {sp : Sp} {dvs : List V} {ds : List Value} {E : St → XK} {x m : Str} {p pos apos : Pos} {e o : Expr} {es : List Expr} {ta : TE} {t : TA}
/-- o.m(e, ..), what is raised wished for at the slots -/
def tMethSD (C : Addr) (m : Str) (sp : Sp) (dvs : List V) (E : St → XK) (ta : TE) (t : TA) : TE := fun σ H Q => ta σ H fun x H1 => ∃ a dx fs, x = .ref a ∧ H1 a = some (.ins C dx fs) ∧ fs.lookup m = none ∧
  t σ H1 fun vs H2 => sp (x :: (vs ++ dvs)) H2 Q (E σ)
theorem pe_methSD {pl : Sem Bool} (he : PE X o ta) (c : Cls X.K C) (hm : Meth X.K C m f) (F : FnOk X.prog X.w X.K X.mg X.base CX k f fd ps sp) (hr : Room k X.A) (hb : Binds X.K fd ps ds) (hd : Vals dvs ds) (hx : ∀ σ, PassesAt CX X σ (E σ)) (ha : PA X (e :: es) t)
    (hst : starEach (e :: es) X.env = (false, eval e X.env) :: starEach es X.env := by rfl) (hpl : (backTo pos (starEach es X.env)).any (·.1) = false := by rfl)
    (ht : eval (.Call (.Attribute o m apos) (e :: es) [] pos) X.env = (do
      let ov ← eval o X.env
      standAt apos.atName
      let (f, first) ← holding [ov] (getMethod ov m pl)
      callWith pos f first (backTo pos (starEach (e :: es) X.env)) (backToKw pos (keywordEach [] X.env))) := by rfl) :
    PE X (.Call (.Attribute o m apos) (e :: es) [] pos) (tMethSD C m sp dvs E ta t) := by
  refine ⟨fun pins s σ H Q I h => ?_⟩
  refine PySem.W.methodCall_KW (pl := pl) (thn (he.run pins s σ H _ I h) fun u s1 ⟨x, H1, I1, rx, a, dx, fs, ex, ea, l, q⟩ => ?_) ht
  subst ex
  obtain rfl : u = Value.ref a := rx
  refine getmeth_ok I1 ea c hm l ?_
  refine PySem.W.callWith_K (first := [.ref a]) (h₀ := X.base) I.ok.mod.kin hm.kp (thn (ha.run pos pins s1 σ H1 _ I1 q) fun us s2 ⟨vs, H2, I2, r, q2⟩ => ⟨I2.kIn, ?_⟩) hst hpl
  exact run_fnSD (us := .ref a :: us) (vs := .ref a :: vs) F hr hb hd (hx σ) I2 (.cons rfl r) q2
theorem pe_methSD0 {pl : Sem Bool} (he : PE X o ta) (c : Cls X.K C) (hm : Meth X.K C m f) (F : FnOk X.prog X.w X.K X.mg X.base CX k f fd ps sp) (hr : Room k X.A) (hb : Binds X.K fd ps ds) (hd : Vals dvs ds) (hx : ∀ σ, PassesAt CX X σ (E σ))
    (ht : eval (.Call (.Attribute o m apos) [] [] pos) X.env = (do
      let ov ← eval o X.env
      standAt apos.atName
      let (f, first) ← holding [ov] (getMethod ov m pl)
      callWith pos f first (backTo pos (starEach [] X.env)) (backToKw pos (keywordEach [] X.env))) := by rfl) :
    PE X (.Call (.Attribute o m apos) [] [] pos) (tMethSD C m sp dvs E ta tNil) := by
  refine ⟨fun pins s σ H Q I h => ?_⟩
  refine PySem.W.methodCall_KW (pl := pl) (thn (he.run pins s σ H _ I h) fun u s1 ⟨x, H1, I1, rx, a, dx, fs, ex, ea, l, q⟩ => ?_) ht
  subst ex
  obtain rfl : u = Value.ref a := rx
  refine getmeth_ok I1 ea c hm l ?_
  exact PySem.W.callWith_K0 (first := [.ref a]) I1.kIn hm.kp (run_fnSD (us := [.ref a]) (vs := [.ref a]) F hr hb hd (hx σ) I1 (.cons rfl .nil) q)
/-- C(..), what is raised wished for at the slots -/
def tMakeSD (C : Addr) (sp : Sp) (dvs : List V) (E : St → XK) (t : TA) : TE := fun σ H Q => t σ H fun vs H1 => ∀ x dx, H1 x = none → H1 dx = none → dx ≠ x →
  sp (.ref x :: (vs ++ dvs)) (upd (upd H1 dx (.own x)) x (.ins C dx [])) (fun v H2 => v = .non ∧ Q (.ref x) H2) (E σ)
theorem run_makeSD {pins : List (Addr × Obj)} {σ : St} {H : Hp} {s : Shared} {Q : VK} {us : List Value} {vs : List V} (M : Mk X.K C f) (F : FnOk X.prog X.w X.K X.mg X.base CX k f fd ps sp) (hr : Room (k + 1) X.A) (hb : Binds X.K fd ps ds) (hd : Vals dvs ds)
    (hx : PassesAt CX X σ (E σ)) (I : Inv X pins σ H s) (r : Vals vs us)
    (h : ∀ x dx, H x = none → H dx = none → dx ≠ x → sp (.ref x :: (vs ++ dvs)) (upd (upd H dx (.own x)) x (.ins C dx [])) (fun v H2 => v = .non ∧ Q (.ref x) H2) (E σ)) :
    wpAny (model X.prog X.w) X.A (call (.ref C) us) (EP X pins σ Q) X.xe s := by
  have hq := h (s.heap.objs.size + 1) s.heap.objs.size (I.hok.fresh (Nat.le_succ _)) (I.hok.fresh (Nat.le_refl _)) (Nat.ne_of_lt (Nat.lt_succ_self _))
  have I2 := Inv.made (C := C) I
  have r2 : Vals (V.ref (s.heap.objs.size + 1) :: (vs ++ dvs)) (Value.ref (s.heap.objs.size + 1) :: (us ++ ds)) := .cons rfl (r.append hd)
  have hl : (Value.ref (s.heap.objs.size + 1) :: us ++ ds).length = ps.length := by
    have e := r2.length
    rw [F.len _ _ _ _ hq] at e
    exact e.symm
  refine wpAny_call (make_map (f := f) I.kIn M.makes M.init (beq_iff_eq.mp M.fn) (codeAny_mono (F.run _ X.stack _ _ ⟨Value.ref (s.heap.objs.size + 1) :: us, []⟩ (Value.ref (s.heap.objs.size + 1) :: (us ++ ds)) _ _ (E σ) (hr.make C us [])
    (I2.env0.make C us []) (hb _ (Value.ref (s.heap.objs.size + 1) :: us) I2.kIn hl) r2 hq) fun r s' hq' => ?_))
  cases r with
  | error e => exact hx pins _ _ e s' I2 hq'
  | ok fl =>
    cases fl with
    | ret u =>
      obtain ⟨v, H', I3, rv, ev, q3⟩ := I2.after hq'
      subst ev
      exact ⟨rv, ⟨V.ref (s.heap.objs.size + 1), H', I3, rfl, q3⟩⟩
    | next => exact False.elim hq'
    | brk => exact False.elim hq'
    | cont => exact False.elim hq'
theorem pe_makeSD (M : Mk X.K C f) (F : FnOk X.prog X.w X.K X.mg X.base CX k f fd ps sp) (hr : Room (k + 1) X.A) (hg : Gl X x) (hm : X.mg x = some (.ref C)) (hb : Binds X.K fd ps ds) (hd : Vals dvs ds) (hx : ∀ σ, PassesAt CX X σ (E σ))
    (ha : PA X (e :: es) t) (hdb : (x == ("__debug__" : Str)) = false := by decide) (he : starEach (e :: es) X.env = (false, eval e X.env) :: starEach es X.env := by rfl) (hpl : (backTo pos (starEach es X.env)).any (·.1) = false := by rfl) :
    PE X (.Call (.Name x p) (e :: es) [] pos) (tMakeSD C sp dvs E t) := by
  refine ⟨fun pins s σ H Q I h => ?_⟩
  refine wpAny_Call_Name_kw (ld_glob I hg hm ?_ hdb)
  refine PySem.W.callWith_K (h₀ := X.base) I.ok.mod.kin M.kp (thn (ha.run pos pins s σ H _ I h) fun us s1 ⟨vs, H1, I1, r, q⟩ => ⟨I1.kIn, ?_⟩) he hpl
  exact run_makeSD M F hr hb hd (hx σ) I1 r q
end
end L2

namespace Cl
open PySem L2
/-! ### calls by data -/
@[simp] def gCallP (n : Nat) (f : PF) (dds : List D) (ss : List S) : M S := (toDs ss).bind fun ds => fun st => if (ds ++ dds).length = n then (match f (ds ++ dds) with
  | none => none
  | some (.ok d) => some (.ok (.val d), st)
  | some (.error x) => some (.error x, st)) else none
@[simp] def gCallO (n : Nat) (f : OF) (dds : List D) (ss : List S) : M S := fun st => if (ss ++ dds.map S.val).length = n then f (ss ++ dds.map S.val) st else none
section
variable {K : PySem.W.Frag} {mg : Str → Option Value} {B F : Hp} {rho : List Addr} {st : List O} {H : Hp} {vs dvs : List V} {ss : List S} {dds : List D} {n : Nat} {Q : VK} {E : XK}
theorem callP_post {f : PF} (c : Core K mg B F rho st H) (rs : RepSs K mg F rho vs ss) (rd : ∀ F, Reps K mg F dvs dds) (h : Post K mg B (fun F' rho' H' d => ∀ v, RepS K mg F' rho' v d → Q v H') (fun c d H' => E c d H') F rho (gCallP n f dds ss st)) :
    spP K mg n f (vs ++ dvs) H Q E := by
  obtain ⟨F1, st1, ds, e1, c1, r1, st2, c2, e2, p2, h2⟩ := toDs_ok c rs h.bind
  split at h2
  · rename_i hl
    refine ⟨F1, ds ++ dds, c2.same, c2.tb, r1.append (rd F1), hl, ?_⟩
    match q : f (ds ++ dds) with
    | none => rw [q] at h2; exact h2.elim
    | some (.ok d) => rw [q] at h2; exact fun F' H' e e' e3 fr tb v rv => h2 F' rho H' e (Pre.refl _) (c2.grow e e' e3 fr tb) v (.val rv)
    | some (.error x) => rw [q] at h2; exact fun F' H' e e' e3 fr tb cls dd xr => h2 F' rho H' e (Pre.refl _) (c2.grow e e' e3 fr tb) cls dd xr
  · exact h2.elim
theorem callO_post {f : OF} (c : Core K mg B F rho st H) (rs : RepSs K mg F rho vs ss) (rd : ∀ F, Reps K mg F dvs dds) (h : Post K mg B (fun F' rho' H' d => ∀ v, RepS K mg F' rho' v d → Q v H') (fun c d H' => E c d H') F rho (gCallO n f dds ss st)) :
    spO K mg n f (vs ++ dvs) H Q E := by
  unfold gCallO at h
  split at h
  · rename_i hl
    exact ⟨B, F, rho, st, _, c, rs.append (rd F).vals, hl, h⟩
  · exact h.elim
end
section
variable {X : Cx} {B : Hp} {W : WX} {k n : Nat} {fa C : Addr} {fd : FuncData} {ps : List Str} {dvs : List V} {dsv : List Value} {dds : List D} {x m : Str} {p pos apos : Pos} {e o : Expr} {es : List Expr} {fs : MA} {fo : ME} {f : PF} {g : OF}
theorem qe_callP (Fn : FnOk X.prog X.w X.K X.mg X.base (L2.CX X.prog X.w) k fa fd ps (spP X.K X.mg n f)) (hr : Room k X.A) (hm : X.mg x = some (.ref fa)) (hk : PySem.W.keepIn X.K (.ref fa) = true) (hb : Binds X.K fd ps dsv) (hd : Vals dvs dsv) (rd : ∀ F, Reps X.K X.mg F dvs dds) (tk : Takes X W)
    (ha : QA X B W (e :: es) fs) (hg : Gl X x := by rfl) (hdb : (x == ("__debug__" : Str)) = false := by decide) (he : starEach (e :: es) X.env = (false, eval e X.env) :: starEach es X.env := by rfl) (hpl : (backTo pos (starEach es X.env)).any (·.1) = false := by rfl) :
    QE X B W (.Call (.Name x p) (e :: es) [] pos) (eArgs (gCallP n f dds) fs) :=
  PEimp (pe_callSD Fn hr hg hm hk hb hd (fun σ => passAt tk σ) ha hdb he hpl) fun s H Q q => args_of q fun F rho st H vs ds c rs p => callP_post c rs rd p
theorem qe_callO (Fn : FnOk X.prog X.w X.K X.mg X.base (L2.CX X.prog X.w) k fa fd ps (spO X.K X.mg n g)) (hr : Room k X.A) (hm : X.mg x = some (.ref fa)) (hk : PySem.W.keepIn X.K (.ref fa) = true) (hb : Binds X.K fd ps dsv) (hd : Vals dvs dsv) (rd : ∀ F, Reps X.K X.mg F dvs dds) (tk : Takes X W)
    (ha : QA X B W (e :: es) fs) (hg : Gl X x := by rfl) (hdb : (x == ("__debug__" : Str)) = false := by decide) (he : starEach (e :: es) X.env = (false, eval e X.env) :: starEach es X.env := by rfl) (hpl : (backTo pos (starEach es X.env)).any (·.1) = false := by rfl) :
    QE X B W (.Call (.Name x p) (e :: es) [] pos) (eArgs (gCallO n g dds) fs) :=
  PEimp (pe_callSD Fn hr hg hm hk hb hd (fun σ => passAt tk σ) ha hdb he hpl) fun s H Q q => args_of q fun F rho st H vs ds c rs p => callO_post c rs rd p
end

/-! ### attributes -/
/-- the attributes of an instance of one of the classes ns -/
@[simp] def insOf (ns : List Str) : S → List O → Option (List (Str × S))
  | .val (.ins n fs), _ => if n ∈ ns then some (fs.map fun p => (p.1, .val p.2)) else none
  | .obj k, st => match st[k]? with
    | some (.ins n fs) => if n ∈ ns then some fs else none
    | _ => none
  | _, _ => none
section
variable {K : PySem.W.Frag} {mg : Str → Option Value} {B F : Hp} {rho : List Addr} {st : List O} {H : Hp} {v : V} {d : S} {ns : List Str}
theorem RepF.vals : ∀ {xs : List (Str × V)} {us : List (Str × D)}, RepF K mg F xs us → RepSF K mg F rho xs (us.map fun p => (p.1, .val p.2))
  | _, _, .nil => .nil
  | _, _, .cons r t => .cons (.val r) (RepF.vals t)
theorem ins_at {fs : List (Str × S)} (c : Core K mg B F rho st H) (r : RepS K mg F rho v d) (h : insOf ns d st = some fs) :
    ∃ a n C dx fvs, v = .ref a ∧ n ∈ ns ∧ mg n = some (.ref C) ∧ H a = some (.ins C dx fvs) ∧ RepSF K mg F rho fvs fs := by
  cases r with
  | @obj k a q =>
    match e : st[k]? with
    | some (.ins n l) =>
      simp only [insOf, e] at h
      split at h
      · rename_i hn
        cases h
        obtain ⟨_, C, dx, fvs, hm, x, y⟩ := c.own k a _ q e
        exact ⟨a, n, C, dx, fvs, rfl, hn, hm, x, y⟩
      · cases h
    | some (.frz _) => simp only [insOf, e] at h; cases h
    | some (.lst _) => simp only [insOf, e] at h; cases h
    | some (.dct _) => simp only [insOf, e] at h; cases h
    | none => simp only [insOf, e] at h; cases h
  | val r =>
    cases r with
    | @ins a C dx n fvs fs' hm x y =>
      simp only [insOf] at h
      split at h
      · rename_i hn
        cases h
        exact ⟨a, n, C, dx, fvs, rfl, hn, hm, c.same _ _ x, y.vals⟩
      · cases h
    | _ => cases h
end
/-- of the classes ns: plain, and without an attribute f of their own -/
def ClsF (K : PySem.W.Frag) (mg : Str → Option Value) (ns : List Str) (f : Str) : Prop := ∀ n ∈ ns, ∀ C, mg n = some (.ref C) → Cls K C ∧ NoAttr K C f
@[simp] def gFld (ns : List Str) (f : Str) (x : S) : M S := fun st => match insOf ns x st with
  | some fs => match fs.lookup f with
    | some s => some (.ok (rsvS s st), st)
    | none => none
  | none => none
@[simp] def eFld (ns : List Str) (f : Str) (a : ME) : ME := fun sl => (a sl).bind (gFld ns f)
section
variable {K : PySem.W.Frag} {mg : Str → Option Value} {B : Hp} {W : WX}
/-- an expression, then something by its value -/
theorem one_of {fa : ME} {g : Sl → S → M S} {s : St} {H : Hp} {Q : VK} {R : V → Hp → Prop} (h : tE K mg B W (fun sl => (fa sl).bind (g sl)) s H Q)
    (hR : ∀ F rho sl st H x dx, Core K mg B F rho st H → Slots K mg F rho s sl → RepS K mg F rho x dx → Post K mg B (fun F' rho' H' d => ∀ v, RepS K mg F' rho' v d → Q v H') (fun c d H' => W c d s H') F rho (g sl dx st) → R x H) :
    tE K mg B W fa s H R := by
  obtain ⟨F, rho, sl, st, c, S, h⟩ := h
  refine ⟨F, rho, sl, st, c, S, h.bind.mono (Same.refl _) (Pre.refl _) (fun F1 r1 H1 dx e1 p1 h1 x rx => ?_) fun _ _ _ z => z⟩
  obtain ⟨st1, c1, _, _, h1⟩ := h1
  exact hR F1 r1 sl st1 H1 x dx c1 (S.mono e1 p1) rx h1
end
section
variable {X : Cx} {B : Hp} {W : WX} {e : Expr} {fa : ME} {f : Str} {pos : Pos} {ns : List Str}
theorem qe_fld (hc : ClsF X.K X.mg ns f) (he : QE X B W e fa) (hb : attributeBase e f X.env (eval e X.env) = eval e X.env := by rfl) : QE X B W (.Attribute e f pos) (eFld ns f fa) := by
  refine PEimp (pe_fld he hb) fun s H Q q => one_of q fun F rho sl st H x dx c S rx h => ?_
  unfold gFld at h
  match e1 : insOf ns dx st with
  | none => rw [e1] at h; exact h.elim
  | some fs =>
    rw [e1] at h
    dsimp only at h
    match e2 : fs.lookup f with
    | none => rw [e2] at h; exact h.elim
    | some d =>
      rw [e2] at h
      obtain ⟨a, n, C, dx', fvs, ev, hn, hm, hH, rf⟩ := ins_at c rx e1
      obtain ⟨v, hv, rv⟩ := rf.lookup e2
      exact ⟨a, C, dx', fvs, v, ev, hH, (hc n hn C hm).1, (hc n hn C hm).2, hv, h.done c v (rsv_ok c rv)⟩
/-- o.f = value, o of the store -/
@[simp] def sFldSet (ns : List Str) (f : Str) (o v : ME) : MS := sBind v fun y => sBind o fun x => fun sl st => match x with
  | .obj k => match st[k]? with
    | some (.ins n fs) => if n ∈ ns ∧ fs.length < 1000 then some (.nx, sl, st.set k (.ins n (putD f y fs))) else none
    | _ => none
  | _ => none
theorem putD_rep {K : PySem.W.Frag} {mg : Str → Option Value} {F : Hp} {rho : List Addr} {v : V} {d : S} (r : RepS K mg F rho v d) : ∀ {vs : List (Str × V)} {ds : List (Str × S)}, RepSF K mg F rho vs ds → RepSF K mg F rho (putF f v vs) (putD f d ds)
  | _, _, .nil => .cons r .nil
  | _, _, .cons (f := g) q t => by
    unfold putF putD
    by_cases h : g = f
    · rw [if_pos h, if_pos h, h]; exact .cons r t
    · rw [if_neg h, if_neg h]; exact .cons q (putD_rep r t)
theorem qs_fld {o value : Expr} {fo fv : ME} {pos' : Pos} (hc : ClsF X.K X.mg ns f) (ho : QE X B W o fo) (hv : QE X B W value fv) (hs : swapsWith value (some (.Attribute o f pos')) pos.line X.env = pure false := by rfl) : QS X B W (.Assign [.Attribute o f pos'] value pos) (sFldSet ns f fo fv) := by
  refine PSimp (ps_fld ho hv hs) fun N s H h => stm_of h fun F rho sl st H y dy c S ry p => ?_
  refine ⟨F, rho, sl, st, c, S, (PostS.bind S p).mono (Same.refl _) (Pre.refl _) (fun F1 r1 H1 dx e1 p1 h1 x rx => ?_) fun _ _ _ z => z⟩
  obtain ⟨st1, c1, _, _, h1⟩ := h1
  cases rx with
  | val _ => exact h1.elim
  | @obj k a q =>
    dsimp only at h1
    match e : st1[k]? with
    | some (.ins n fs) =>
      rw [e] at h1
      dsimp only at h1
      split at h1
      · rename_i hn
        obtain ⟨hF, C, dx, fvs, hm, hH, rf⟩ := c1.own k a _ q e
        refine ⟨a, C, dx, fvs, rfl, hH, (hc n hn.1 C hm).1, (hc n hn.1 C hm).2, by rw [rf.length]; exact hn.2, ?_⟩
        exact h1.nx (c1.write q hF ⟨hF, C, dx, _, hm, upd_same, putD_rep (ry.mono e1 p1) rf⟩) (S.mono e1 p1)
      · exact h1.elim
    | some (.frz _) => rw [e] at h1; exact h1.elim
    | some (.lst _) => rw [e] at h1; exact h1.elim
    | some (.dct _) => rw [e] at h1; exact h1.elim
    | none => rw [e] at h1; exact h1.elim
end
end Cl
namespace Cl
open PySem L2
@[simp] def chkM (ns : List Str) (m : Str) (x : S) : M Unit := fun st => match insOf ns x st with
  | some fs => if (fs.lookup m).isNone = true then some (.ok (), st) else none
  | none => none
@[simp] def eMeth (ns : List Str) (m : Str) (g : List S → M S) (a : ME) (fs : MA) : ME := fun sl => (a sl).bind fun x => (chkM ns m x).bind fun _ => (fs sl).bind fun ss => g (x :: ss)
section
variable {K : PySem.W.Frag} {mg : Str → Option Value} {B : Hp} {W : WX}
theorem meth_of {c m : Str} {C : Addr} {fa : ME} {fs : MA} {g : List S → M S} {s : St} {H : Hp} {Q : VK} {R : V → List V → Hp → Prop} (hc : mg c = some (.ref C)) (h : tE K mg B W (eMeth [c] m g fa fs) s H Q)
    (hR : ∀ F rho st H x dx vs ds, Core K mg B F rho st H → RepS K mg F rho x dx → RepSs K mg F rho vs ds → Post K mg B (fun F' rho' H' d => ∀ v, RepS K mg F' rho' v d → Q v H') (fun c d H' => W c d s H') F rho (g (dx :: ds) st) → R x vs H) :
    tE K mg B W fa s H fun x H1 => ∃ a dx fv, x = .ref a ∧ H1 a = some (.ins C dx fv) ∧ fv.lookup m = none ∧ tA K mg B W fs s H1 fun vs H2 => R x vs H2 := by
  refine one_of h fun F rho sl st H x dx c' S' rx hp => ?_
  unfold M.bind chkM at hp
  match e1 : insOf [c] dx st with
  | none => rw [e1] at hp; exact hp.elim
  | some fl =>
    rw [e1] at hp
    dsimp only at hp
    by_cases hn : (fl.lookup m).isNone = true
    · rw [if_pos hn] at hp
      dsimp only at hp
      obtain ⟨a, n, C', dx', fvs, ev, hn', hm, hH, rf⟩ := ins_at c' rx e1
      have en : n = c := by simpa using hn'
      subst en
      rw [hc] at hm; cases hm
      refine ⟨a, dx', fvs, ev, hH, rf.lookup_none (Option.isNone_iff_eq_none.mp hn), ?_⟩
      have h' : Post K mg B (fun F' rho' H' d => ∀ v, RepS K mg F' rho' v d → Q v H') (fun c d H' => W c d s H') F rho (((fs sl).bind fun ss => g (dx :: ss)) st) := hp
      refine ⟨F, rho, sl, st, c', S', h'.bind.mono (Same.refl _) (Pre.refl _) (fun F1 r1 H1 ds e1 p1 h1 vs rs => ?_) fun _ _ _ z => z⟩
      obtain ⟨st1, c1, _, _, h1⟩ := h1
      exact hR F1 r1 st1 H1 x dx vs ds c1 (rx.mono e1 p1) rs h1
    · rw [if_neg hn] at hp; exact hp.elim
end
section
variable {X : Cx} {B : Hp} {W : WX} {k n : Nat} {fa C : Addr} {fd : FuncData} {ps : List Str} {dvs : List V} {dsv : List Value} {dds : List D} {x c m : Str} {p pos apos : Pos} {e o : Expr} {es : List Expr} {fs : MA} {fo : ME} {f : PF} {g : OF} {pl : Sem Bool}
theorem qe_methP (hc : X.mg c = some (.ref C)) (cl : Cls X.K C) (hm : Meth X.K C m fa) (Fn : FnOk X.prog X.w X.K X.mg X.base (L2.CX X.prog X.w) k fa fd ps (spP X.K X.mg n f)) (hr : Room k X.A) (hb : Binds X.K fd ps dsv) (hd : Vals dvs dsv) (rd : ∀ F, Reps X.K X.mg F dvs dds) (tk : Takes X W)
    (ho : QE X B W o fo) (ha : QA X B W (e :: es) fs) (hst : starEach (e :: es) X.env = (false, eval e X.env) :: starEach es X.env := by rfl) (hpl : (backTo pos (starEach es X.env)).any (·.1) = false := by rfl)
    (ht : eval (.Call (.Attribute o m apos) (e :: es) [] pos) X.env = (do
      let ov ← eval o X.env
      standAt apos.atName
      let (f, first) ← holding [ov] (getMethod ov m pl)
      callWith pos f first (backTo pos (starEach (e :: es) X.env)) (backToKw pos (keywordEach [] X.env))) := by rfl) :
    QE X B W (.Call (.Attribute o m apos) (e :: es) [] pos) (eMeth [c] m (gCallP n f dds) fo fs) :=
  PEimp (pe_methSD (pl := pl) ho cl hm Fn hr hb hd (fun σ => passAt tk σ) ha hst hpl ht) fun s H Q q => meth_of hc q fun F rho st H x dx vs ds c' rx rs p => callP_post c' (.cons rx rs) rd p
theorem qe_methO (hc : X.mg c = some (.ref C)) (cl : Cls X.K C) (hm : Meth X.K C m fa) (Fn : FnOk X.prog X.w X.K X.mg X.base (L2.CX X.prog X.w) k fa fd ps (spO X.K X.mg n g)) (hr : Room k X.A) (hb : Binds X.K fd ps dsv) (hd : Vals dvs dsv) (rd : ∀ F, Reps X.K X.mg F dvs dds) (tk : Takes X W)
    (ho : QE X B W o fo) (ha : QA X B W (e :: es) fs) (hst : starEach (e :: es) X.env = (false, eval e X.env) :: starEach es X.env := by rfl) (hpl : (backTo pos (starEach es X.env)).any (·.1) = false := by rfl)
    (ht : eval (.Call (.Attribute o m apos) (e :: es) [] pos) X.env = (do
      let ov ← eval o X.env
      standAt apos.atName
      let (f, first) ← holding [ov] (getMethod ov m pl)
      callWith pos f first (backTo pos (starEach (e :: es) X.env)) (backToKw pos (keywordEach [] X.env))) := by rfl) :
    QE X B W (.Call (.Attribute o m apos) (e :: es) [] pos) (eMeth [c] m (gCallO n g dds) fo fs) :=
  PEimp (pe_methSD (pl := pl) ho cl hm Fn hr hb hd (fun σ => passAt tk σ) ha hst hpl ht) fun s H Q q => meth_of hc q fun F rho st H x dx vs ds c' rx rs p => callO_post c' (.cons rx rs) rd p
theorem tA_nil {K : PySem.W.Frag} {mg : Str → Option Value} {s : St} {H : Hp} {R : List V → Hp → Prop} (h : tA K mg B W aNil s H R) : tNil s H R := by
  obtain ⟨F, rho, sl, st, c, S', h⟩ := h
  exact h F rho H (Same.refl _) (Pre.refl _) c [] .nil
theorem qe_methP0 (hc : X.mg c = some (.ref C)) (cl : Cls X.K C) (hm : Meth X.K C m fa) (Fn : FnOk X.prog X.w X.K X.mg X.base (L2.CX X.prog X.w) k fa fd ps (spP X.K X.mg n f)) (hr : Room k X.A) (hb : Binds X.K fd ps dsv) (hd : Vals dvs dsv) (rd : ∀ F, Reps X.K X.mg F dvs dds) (tk : Takes X W)
    (ho : QE X B W o fo)
    (ht : eval (.Call (.Attribute o m apos) [] [] pos) X.env = (do
      let ov ← eval o X.env
      standAt apos.atName
      let (f, first) ← holding [ov] (getMethod ov m pl)
      callWith pos f first (backTo pos (starEach [] X.env)) (backToKw pos (keywordEach [] X.env))) := by rfl) :
    QE X B W (.Call (.Attribute o m apos) [] [] pos) (eMeth [c] m (gCallP n f dds) fo aNil) :=
  PEimp (pe_methSD0 (pl := pl) ho cl hm Fn hr hb hd (fun σ => passAt tk σ) ht) fun s H Q q => by
    obtain ⟨F, rho, sl, st, c', S', h⟩ := meth_of (R := fun x vs H => spP X.K X.mg n f (x :: (vs ++ dvs)) H Q (WE W s)) hc q fun F rho st H x dx vs ds c' rx rs p => callP_post c' (.cons rx rs) rd p
    exact ⟨F, rho, sl, st, c', S', h.mono (Same.refl _) (Pre.refl _) (fun F1 r1 H1 d e1 p1 h1 v rv => let ⟨a, dx, fv, x1, x2, x3, x4⟩ := h1 v rv; ⟨a, dx, fv, x1, x2, x3, tA_nil x4⟩) fun _ _ _ z => z⟩
theorem qe_methO0 (hc : X.mg c = some (.ref C)) (cl : Cls X.K C) (hm : Meth X.K C m fa) (Fn : FnOk X.prog X.w X.K X.mg X.base (L2.CX X.prog X.w) k fa fd ps (spO X.K X.mg n g)) (hr : Room k X.A) (hb : Binds X.K fd ps dsv) (hd : Vals dvs dsv) (rd : ∀ F, Reps X.K X.mg F dvs dds) (tk : Takes X W)
    (ho : QE X B W o fo)
    (ht : eval (.Call (.Attribute o m apos) [] [] pos) X.env = (do
      let ov ← eval o X.env
      standAt apos.atName
      let (f, first) ← holding [ov] (getMethod ov m pl)
      callWith pos f first (backTo pos (starEach [] X.env)) (backToKw pos (keywordEach [] X.env))) := by rfl) :
    QE X B W (.Call (.Attribute o m apos) [] [] pos) (eMeth [c] m (gCallO n g dds) fo aNil) :=
  PEimp (pe_methSD0 (pl := pl) ho cl hm Fn hr hb hd (fun σ => passAt tk σ) ht) fun s H Q q => by
    obtain ⟨F, rho, sl, st, c', S', h⟩ := meth_of (R := fun x vs H => spO X.K X.mg n g (x :: (vs ++ dvs)) H Q (WE W s)) hc q fun F rho st H x dx vs ds c' rx rs p => callO_post c' (.cons rx rs) rd p
    exact ⟨F, rho, sl, st, c', S', h.mono (Same.refl _) (Pre.refl _) (fun F1 r1 H1 d e1 p1 h1 v rv => let ⟨a, dx, fv, x1, x2, x3, x4⟩ := h1 v rv; ⟨a, dx, fv, x1, x2, x3, tA_nil x4⟩) fun _ _ _ z => z⟩
end

/-! ### a new instance -/
@[simp] def gMakeM (n : Nat) (f : PF) (dds : List D) (ss : List S) : M S := (toDs ss).bind fun ds => fun st => if (ds ++ dds).length + 1 = n then (match f (ds ++ dds) with
  | none => none
  | some (.ok d) => some (.ok (.val d), st)
  | some (.error x) => some (.error x, st)) else none
@[simp] def gMakeO (c : Str) (n : Nat) (g : OF) (dds : List D) (ss : List S) : M S := fun st => if (ss ++ dds.map S.val).length + 1 = n then (match g (.obj st.length :: (ss ++ dds.map S.val)) (st ++ [.ins c []]) with
  | some (.ok (.val .non), st') => some (.ok (.obj st.length), st')
  | some (.error x, st') => some (.error x, st')
  | _ => none) else none
section
variable {K : PySem.W.Frag} {mg : Str → Option Value} {B F : Hp} {rho : List Addr} {st : List O} {H : Hp} {vs dvs : List V} {ss : List S} {dds : List D} {n : Nat} {Q : VK} {E : XK} {c : Str} {C : Addr}
theorem makeM_post {f : PF} (hC : mg c = some (.ref C)) (cc : Core K mg B F rho st H) (rs : RepSs K mg F rho vs ss) (rd : ∀ F, Reps K mg F dvs dds) (h : Post K mg B (fun F' rho' H' d => ∀ v, RepS K mg F' rho' v d → Q v H') (fun c d H' => E c d H') F rho (gMakeM n f dds ss st)) :
    ∀ x dx, H x = none → H dx = none → dx ≠ x → spM K mg c n f (.ref x :: (vs ++ dvs)) (upd (upd H dx (.own x)) x (.ins C dx [])) (fun v H2 => v = .non ∧ Q (.ref x) H2) E := by
  intro x dx hx hdx hne
  obtain ⟨F1, st1, ds, e1, c1, r1, st2, c2, e2, p2, h2⟩ := toDs_ok cc rs h.bind
  split at h2
  · rename_i hl
    have fx : F1 x = none := c2.same.free hx
    have fdx : F1 dx = none := c2.same.free hdx
    have up : ∀ (b : Addr) (o : HO), H b = some o → upd (upd H dx (.own x)) x (.ins C dx []) b = some o := fun b o q => by
      rw [upd_ne (ne_of_none q hx), upd_ne (ne_of_none q hdx)]; exact q
    have down : ∀ (b : Addr), b ≠ x → upd (upd H dx (.own x)) x (.ins C dx []) b = none → H b = none := fun b nb q => by
      rw [upd_ne nb] at q
      by_cases z : b = dx
      · rw [z]; exact hdx
      · rw [upd_ne z] at q; exact q
    refine ⟨F1, ds ++ dds, x, vs ++ dvs, rfl, fun b o q => up b o (c2.same b o q), fun P q i => ⟨(c2.tb P q i).1, (c2.tb P q i).2.ext up⟩, fx, ⟨C, dx, hC, upd_same⟩, r1.append (rd F1), hl, ?_⟩
    have key : ∀ F' H', Same F1 F' → Same F' H' → (∀ b o, b ≠ x → upd (upd H dx (.own x)) x (.ins C dx []) b = some o → (¬ ∃ q, IsTab K b q) → H' b = some o) → (∀ b, b ≠ x → F' b ≠ none → F1 b ≠ none ∨ upd (upd H dx (.own x)) x (.ins C dx []) b = none) → Tabs K F' H' → Core K mg B F' rho st2 H' := fun F' H' s1 s2 s3 s4 tb =>
      c2.grow s1 s2 (fun b o q nt => s3 b o (ne_of_none q hx) (up b o q) nt) (fun b q => by
        by_cases z : b = x
        · rw [z]; exact .inr hx
        · rcases s4 b z q with y | y
          · exact .inl y
          · exact .inr (down b z y)) tb
    match q : f (ds ++ dds) with
    | none => rw [q] at h2; exact h2.elim
    | some (.ok d) => rw [q] at h2; exact fun F' H' s1 s2 s3 s4 tb rv => ⟨rfl, h2 F' rho H' s1 (Pre.refl _) (key F' H' s1 s2 s3 s4 tb) _ (.val rv)⟩
    | some (.error y) => rw [q] at h2; exact fun F' H' s1 s2 s3 s4 tb cls dd xr => h2 F' rho H' s1 (Pre.refl _) (key F' H' s1 s2 s3 s4 tb) cls dd xr
  · exact h2.elim
theorem makeO_post {g : OF} (hC : mg c = some (.ref C)) (cc : Core K mg B F rho st H) (rs : RepSs K mg F rho vs ss) (rd : ∀ F, Reps K mg F dvs dds) (h : Post K mg B (fun F' rho' H' d => ∀ v, RepS K mg F' rho' v d → Q v H') (fun c d H' => E c d H') F rho (gMakeO c n g dds ss st)) :
    ∀ x dx, H x = none → H dx = none → dx ≠ x → spO K mg n g (.ref x :: (vs ++ dvs)) (upd (upd H dx (.own x)) x (.ins C dx [])) (fun v H2 => v = .non ∧ Q (.ref x) H2) E := by
  intro x dx hx hdx hne
  unfold gMakeO at h
  split at h
  · rename_i hl
    have hx' : upd H dx (.own x) x = none := by rw [upd_ne (Ne.symm hne)]; exact hx
    have c1 : Core K mg B F rho st (upd H dx (.own x)) := cc.junk hdx
    have c2 : Core K mg B F (rho ++ [x]) (st ++ [.ins c []]) (upd (upd H dx (.own x)) x (.ins C dx [])) := c1.new hx' ⟨c1.same.free hx', C, dx, [], hC, upd_same, .nil⟩
    have hat : (rho ++ [x])[st.length]? = some x := by rw [← cc.len, List.getElem?_append_right (Nat.le_refl _), Nat.sub_self]; rfl
    refine ⟨B, F, rho ++ [x], st ++ [.ins c []], .obj st.length :: (ss ++ dds.map S.val), c2, .cons (.obj hat) ((rs.mono (Same.refl _) (Pre.app _ _)).append (rd F).vals), by simpa using hl, ?_⟩
    match q : g (.obj st.length :: (ss ++ dds.map S.val)) (st ++ [.ins c []]) with
    | none => rw [q] at h; exact h.elim
    | some (.ok (.val d), st') =>
      rw [q] at h ⊢
      cases d with
      | non =>
        intro F' rho' H' s1 p1 c3 v rv
        (cases rv with
          | val rv => cases rv; exact ⟨rfl, h F' rho' H' s1 ((Pre.app _ _).trans p1) c3 _ (.obj (p1 _ _ hat))⟩)
      | _ => exact h.elim
    | some (.ok (.obj k), st') => rw [q] at h; exact h.elim
    | some (.error y, st') =>
      rw [q] at h ⊢
      exact fun F' rho' H' s1 p1 c3 cls dd xr => h F' rho' H' s1 ((Pre.app _ _).trans p1) c3 cls dd xr
  · exact h.elim
end
section
variable {X : Cx} {B : Hp} {W : WX} {k n : Nat} {fa C : Addr} {fd : FuncData} {ps : List Str} {dvs : List V} {dsv : List Value} {dds : List D} {x : Str} {p pos : Pos} {e : Expr} {es : List Expr} {fs : MA} {f : PF} {g : OF}
theorem qe_makeM (Mk' : Mk X.K C fa) (Fn : FnOk X.prog X.w X.K X.mg X.base (L2.CX X.prog X.w) k fa fd ps (spM X.K X.mg x n f)) (hr : Room (k + 1) X.A) (hm : X.mg x = some (.ref C)) (hb : Binds X.K fd ps dsv) (hd : Vals dvs dsv) (rd : ∀ F, Reps X.K X.mg F dvs dds) (tk : Takes X W)
    (ha : QA X B W (e :: es) fs) (hg : Gl X x := by rfl) (hdb : (x == ("__debug__" : Str)) = false := by decide) (he : starEach (e :: es) X.env = (false, eval e X.env) :: starEach es X.env := by rfl) (hpl : (backTo pos (starEach es X.env)).any (·.1) = false := by rfl) :
    QE X B W (.Call (.Name x p) (e :: es) [] pos) (eArgs (gMakeM n f dds) fs) :=
  PEimp (pe_makeSD Mk' Fn hr hg hm hb hd (fun σ => passAt tk σ) ha hdb he hpl) fun s H Q q => args_of q fun F rho st H vs ds c rs p => makeM_post hm c rs rd p
theorem qe_makeO (Mk' : Mk X.K C fa) (Fn : FnOk X.prog X.w X.K X.mg X.base (L2.CX X.prog X.w) k fa fd ps (spO X.K X.mg n g)) (hr : Room (k + 1) X.A) (hm : X.mg x = some (.ref C)) (hb : Binds X.K fd ps dsv) (hd : Vals dvs dsv) (rd : ∀ F, Reps X.K X.mg F dvs dds) (tk : Takes X W)
    (ha : QA X B W (e :: es) fs) (hg : Gl X x := by rfl) (hdb : (x == ("__debug__" : Str)) = false := by decide) (he : starEach (e :: es) X.env = (false, eval e X.env) :: starEach es X.env := by rfl) (hpl : (backTo pos (starEach es X.env)).any (·.1) = false := by rfl) :
    QE X B W (.Call (.Name x p) (e :: es) [] pos) (eArgs (gMakeO x n g dds) fs) :=
  PEimp (pe_makeSD Mk' Fn hr hg hm hb hd (fun σ => passAt tk σ) ha hdb he hpl) fun s H Q q => args_of q fun F rho st H vs ds c rs p => makeO_post hm c rs rd p
end
/-! ### an __init__ whose instance is never changed behind it -/
@[simp] def exitM (r : Option (Fl × Sl × List O)) : Option (Except XD D) := match r with
  | some (.nx, _, st) => (deepD 6 st (.obj 0)).map .ok
  | some (.rt (.val .non), _, st) => (deepD 6 st (.obj 0)).map .ok
  | some (.xc x, _, _) => some (.error x)
  | _ => none
@[simp] def asM (c : Str) (n : Nat) (b : MS) : PF := fun ds => exitM (b (mkSl n (.obj 0 :: ds.map .val)) [.ins c []])
section
variable {P : Program} {w : World} {K : PySem.W.Frag} {mg : Str → Option Value} {base : Heap} {x qual c : Str} {stm : Stmt} {f : Addr} {fd : FuncData} {N ps : List Str} {k : Nat} {b : MS} {dvs : List V} {kws : List (Str × V)}
open Classical in
theorem fn_M (Fn : FunD K x qual (defArgs stm) (defBody stm) (defScope stm) dvs kws f fd) (Sc : FnScope N ps (defScope stm)) (hb : Body P w K mg base N qual stm f k b) : FnOk P w K mg base (L2.CX P w) (k + 1) f fd ps (spM K mg c ps.length (asM c N.length b)) := by
  refine Fn.ok Sc (fun vs H Q E h => ?_) (fun cdv A outer s H vs Q E hr h => ?_)
  · obtain ⟨F, ds, a, us, rfl, _, _, _, _, r, l, _⟩ := h
    rw [List.length_cons, r.length]; exact l
  · obtain ⟨F, ds, a, us, rfl, e, tb, fa, ⟨C, dx, hC, hH⟩, r, l, h⟩ := h
    have c0 : Core K mg (fun b => if F b = none ∧ b ≠ a ∧ (¬ ∃ q, IsTab K b q) then H b else none) F [a] [.ins c []] H := by
      refine ⟨e, fun b o q => ?_, fun b q => ?_, fun k b q => ?_, by simp, rfl, fun k b o q1 q2 => ?_, fun k b q => ?_, fun P q i => ⟨if_neg (fun z => z.2.2 ⟨q, i⟩), tb P q i⟩⟩
      · split at q
        · exact q
        · cases q
      · rw [if_neg (fun z => q z.1)]
      · have : b = a := by
          cases k with
          | zero => simpa using q.symm
          | succ k => simp at q
        rw [if_neg (fun z => z.2.1 this)]
      · cases k with
        | zero => simp at q1 q2; subst q1; subst q2; exact ⟨fa, C, dx, [], hC, hH, .nil⟩
        | succ k => simp at q1
      · cases k with
        | zero => simp at q; subst q; exact ⟨_, hH, rfl⟩
        | succ k => simp at q
    have keep : ∀ {F' rho' st' H'}, Same F F' → Core K mg (fun b => if F b = none ∧ b ≠ a ∧ (¬ ∃ q, IsTab K b q) then H b else none) F' rho' st' H' → ∀ b o, b ≠ a → H b = some o → (¬ ∃ q, IsTab K b q) → H' b = some o := fun {F' rho' st' H'} e1 c1 b o nb q nt => by
      cases z : F b with
      | some u =>
        have := e b u z
        rw [q] at this; cases this
        exact c1.same b o (e1 b o z)
      | none => exact c1.frame b o (by rw [if_pos ⟨z, nb, nt⟩]; exact q)
    have new : ∀ {F2 H2 : Hp}, Tabs K F2 H2 → ∀ b, b ≠ a → F2 b ≠ none → (fun b => if F b = none ∧ b ≠ a ∧ (¬ ∃ q, IsTab K b q) then H b else none) b = none → F b ≠ none ∨ H b = none := fun t b nb f2 q => by
      dsimp only at q
      split at q
      · exact .inr q
      · rename_i z; exact .inl fun y => z ⟨y, nb, fun ⟨q2, i⟩ => f2 (t _ _ i).1⟩
    have rs : RepSs K mg F [a] (.ref a :: us) (.obj 0 :: ds.map .val) := .cons (.obj rfl) r.vals
    refine ⟨_, hb cdv A outer s H E _ hr, F, [a], _, _, c0, slots_start rs, ?_⟩
    unfold asM exitM at h
    have fin : ∀ {F' rho' st' H' d}, Same F F' → Pre [a] rho' → Core K mg (fun b => if F b = none ∧ b ≠ a ∧ (¬ ∃ q, IsTab K b q) then H b else none) F' rho' st' H' → deepD 6 st' (.obj 0) = some d →
        Same F (shut F' rho' H') ∧ Same (shut F' rho' H') H' ∧ (∀ b o, b ≠ a → H b = some o → (¬ ∃ q, IsTab K b q) → H' b = some o) ∧ (∀ b, b ≠ a → shut F' rho' H' b ≠ none → F b ≠ none ∨ H b = none) ∧ Tabs K (shut F' rho' H') H' ∧ Rep K mg (shut F' rho' H') (.ref a) d := fun {F' rho' st' H' d} e1 p1 c1 q2 =>
      ⟨e1.trans shut_same, shut_in c1, keep e1 c1, fun b nb q => new (shut_tb c1) b nb q (shut_apart c1 b q), shut_tb c1, deep_ok c1 6 (.obj (p1 0 a rfl)) q2⟩
    match q : b (mkSl N.length (.obj 0 :: ds.map .val)) [.ins c []] with
    | none => rw [q] at h; exact h.elim
    | some (.nx, sl', st') =>
      rw [q] at h
      intro F' rho' H' s' e1 p1 c1 S1
      dsimp only at h
      match q2 : deepD 6 st' (.obj 0) with
      | none => rw [q2] at h; exact h.elim
      | some d =>
        rw [q2] at h
        obtain ⟨a1, a2, a3, a4, a6, a5⟩ := fin e1 p1 c1 q2
        exact h _ _ a1 a2 a3 a4 a6 a5
    | some (.bk, sl', st') => rw [q] at h; exact h.elim
    | some (.ct, sl', st') => rw [q] at h; exact h.elim
    | some (.xc z, sl', st') =>
      rw [q] at h
      exact fun F' rho' H' s' e1 p1 c1 S1 cls dd xr => h F' H' e1 c1.same (keep e1 c1) (fun b nb q => new c1.tb b nb q (c1.apart b q)) c1.tb cls dd xr
    | some (.rt (.obj j), sl', st') => rw [q] at h; exact h.elim
    | some (.rt (.val d0), sl', st') =>
      rw [q] at h
      cases d0 with
      | non =>
        intro F' rho' H' s' e1 p1 c1 S1 v rv
        cases rv with
        | val rv =>
          cases rv
          dsimp only at h
          match q2 : deepD 6 st' (.obj 0) with
          | none => rw [q2] at h; exact h.elim
          | some d =>
            rw [q2] at h
            obtain ⟨a1, a2, a3, a4, a6, a5⟩ := fin e1 p1 c1 q2
            exact h _ _ a1 a2 a3 a4 a6 a5
      | _ => exact h.elim
end
end Cl
namespace Cl
open PySem L2
theorem OpR_or {X : Cx} {f : Value → Value → Sem Value} {r r' : R2} (h : OpR X f r) (h' : OpR X f r') : OpR X f (fun x y H Q => r x y H Q ∨ r' x y H Q) := fun pins s σ H x y v u Q I rx ry q => by
  rcases q with q | q
  · exact h pins s σ H x y v u Q I rx ry q
  · exact h' pins s σ H x y v u Q I rx ry q
@[simp] abbrev ok1 (d : D) (st : List O) : Option (Except XD S × List O) := some (.ok (.val d), st)
section
variable {K : PySem.W.Frag} {mg : Str → Option Value}
/-- two ints -/
@[simp] def gI (C : Int → Int → Bool) (g : Int → Int → D) : S → S → M S
  | .val (.int i), .val (.int j) => fun st => if C i j = true then ok1 (g i j) st else none
  | _, _ => M.stuck
theorem os_I {C : Int → Int → Prop} {Cb : Int → Int → Bool} {g : Int → Int → V} {gd : Int → Int → D} (hC : ∀ i j, Cb i j = true → C i j) (hg : ∀ F i j, Rep K mg F (g i j) (gd i j)) : OpS K mg (rI C g) (gI Cb gd) := by
  intro W B F rho st H x y dx dy Q c rx ry h
  cases rx with
  | obj _ => exact h.elim
  | val rx =>
    cases rx with
    | int i =>
      cases ry with
      | obj _ => exact h.elim
      | val ry =>
        cases ry with
        | int j =>
          simp only [gI] at h
          split at h
          · rename_i hc
            exact ⟨i, j, rfl, rfl, hC i j hc, h.done c _ (.val (hg F i j))⟩
          · exact h.elim
        | _ => exact h.elim
    | _ => exact h.elim
theorem os_I0 {g : Int → Int → V} {gd : Int → Int → D} (hg : ∀ F i j, Rep K mg F (g i j) (gd i j)) : OpS K mg (rI0 g) (gI (fun _ _ => true) gd) := by
  intro W B F rho st H x y dx dy Q c rx ry h
  obtain ⟨i, j, a, b, _, q⟩ := os_I (K := K) (mg := mg) (C := fun _ _ => True) (Cb := fun _ _ => true) (g := g) (gd := gd) (fun _ _ _ => trivial) hg W B F rho st H x y dx dy Q c rx ry h
  exact ⟨i, j, a, b, q⟩
abbrev gSub := gI (fun _ _ => true) fun i j => .int (i - j)
abbrev gLt := gI (fun _ _ => true) fun i j => .bl (decide (i < j))
abbrev gLe := gI (fun _ _ => true) fun i j => .bl (decide (i ≤ j))
abbrev gGt := gI (fun _ _ => true) fun i j => .bl (decide (j < i))
abbrev gGe := gI (fun _ _ => true) fun i j => .bl (decide (j ≤ i))
abbrev gMod := gI (fun _ j => decide (0 < j)) fun i j => .int (i % j)
abbrev gDiv := gI (fun _ j => decide (0 < j ∧ j < 1073741824)) fun i j => .int (i / j)
abbrev gPow := gI (fun i j => decide (0 ≤ j ∧ j ≤ 1000000 ∧ i.natAbs < 2 ^ 64)) fun i j => .int (i ^ j.toNat)
abbrev gMulI := gI (fun i j => decide ((-(2 ^ 64) < i ∧ i < 2 ^ 64) ∨ (-(2 ^ 64) < j ∧ j < 2 ^ 64))) fun i j => .int (i * j)
theorem os_sub : OpS K mg (rI0 fun i j => .int (i - j)) gSub := os_I0 fun _ _ _ => .int _
theorem os_lt : OpS K mg (rI0 fun i j => .bl (decide (i < j))) gLt := os_I0 fun _ _ _ => .bl _
theorem os_le : OpS K mg (rI0 fun i j => .bl (decide (i ≤ j))) gLe := os_I0 fun _ _ _ => .bl _
theorem os_gt : OpS K mg (rI0 fun i j => .bl (decide (j < i))) gGt := os_I0 fun _ _ _ => .bl _
theorem os_ge : OpS K mg (rI0 fun i j => .bl (decide (j ≤ i))) gGe := os_I0 fun _ _ _ => .bl _
theorem os_mod : OpS K mg (rI (fun _ j => 0 < j) fun i j => .int (i % j)) gMod := os_I (fun _ _ h => of_decide_eq_true h) fun _ _ _ => .int _
theorem os_div : OpS K mg (rI CDiv fun i j => .int (i / j)) gDiv := os_I (fun i j h => of_decide_eq_true (p := 0 < j ∧ j < 1073741824) h) fun _ _ _ => .int _
theorem os_pow : OpS K mg (rI CPow fun i j => .int (i ^ j.toNat)) gPow := os_I (fun i j h => of_decide_eq_true (p := 0 ≤ j ∧ j ≤ 1000000 ∧ i.natAbs < 2 ^ 64) h) fun _ _ _ => .int _
theorem os_mulI : OpS K mg (rI CMul fun i j => .int (i * j)) gMulI := os_I (fun i j h => of_decide_eq_true (p := (-(2 ^ 64) < i ∧ i < 2 ^ 64) ∨ (-(2 ^ 64) < j ∧ j < 2 ^ 64)) h) fun _ _ _ => .int _

/-! ### + -/
/-- two lists, joined to data -/
def gCat (x y : S) : M S := fun st => match lstOf x st, lstOf y st with
  | some xs, some ys => match datas (xs ++ ys) with
    | some ds => if ds.length ≤ sizeLine then ok1 (.lst ds) st else none
    | none => none
  | _, _ => none
/-- .. to a new list of the store -/
def gCatO (x y : S) : M S := fun st => match lstOf x st, lstOf y st with
  | some xs, some ys => if (xs ++ ys).length ≤ sizeLine then some (.ok (.obj st.length), st ++ [.lst (xs ++ ys)]) else none
  | _, _ => none
theorem os_cat : OpS K mg rCat gCat := by
  intro W B F rho st H x y dx dy Q c rx ry h
  unfold gCat at h
  match e1 : lstOf dx st, e2 : lstOf dy st with
  | none, _ => rw [e1] at h; exact h.elim
  | some xs, none => rw [e1, e2] at h; exact h.elim
  | some xs, some ys =>
    rw [e1, e2] at h
    dsimp only at h
    obtain ⟨a, va, rfl, ha, ra⟩ := lst_at c rx e1
    obtain ⟨b, vb, rfl, hb, rb⟩ := lst_at c ry e2
    match e3 : datas (xs ++ ys) with
    | none => rw [e3] at h; exact h.elim
    | some ds =>
      rw [e3] at h
      dsimp only at h
      split at h
      · rename_i hz
        have rr := (ra.append rb).datas e3
        refine ⟨a, b, va, vb, rfl, rfl, ha, hb, by rw [← List.length_append, rr.length]; exact hz, fun p hp => ?_⟩
        exact h (upd F p (.lst (va ++ vb))) rho _ (same_upd (c.same.free hp)) (Pre.refl _) (c.alloc hp) _ (.val (.lst upd_same (rr.mono (same_upd (c.same.free hp)))))
      · exact h.elim
theorem os_catO : OpS K mg rCat gCatO := by
  intro W B F rho st H x y dx dy Q c rx ry h
  unfold gCatO at h
  match e1 : lstOf dx st, e2 : lstOf dy st with
  | none, _ => rw [e1] at h; exact h.elim
  | some xs, none => rw [e1, e2] at h; exact h.elim
  | some xs, some ys =>
    rw [e1, e2] at h
    dsimp only at h
    obtain ⟨a, va, rfl, ha, ra⟩ := lst_at c rx e1
    obtain ⟨b, vb, rfl, hb, rb⟩ := lst_at c ry e2
    split at h
    · rename_i hz
      have rr := ra.append rb
      refine ⟨a, b, va, vb, rfl, rfl, ha, hb, by rw [← List.length_append, rr.length]; exact hz, fun p hp => ?_⟩
      refine h F (rho ++ [p]) _ (Same.refl _) (Pre.app _ _) (c.new hp ⟨c.same.free hp, _, upd_same, rr.mono (Same.refl _) (Pre.app _ _)⟩) _ (.obj ?_)
      rw [← c.len, List.getElem?_append_right (Nat.le_refl _), Nat.sub_self]; rfl
    · exact h.elim
def rAdd (K : PySem.W.Frag) : R2 := fun x y H Q => rI0 (fun i j => .int (i + j)) x y H Q ∨ (∃ i j, x = .str i ∧ y = .str j ∧ i.length + j.length ≤ sizeLine ∧ Q (.str (i ++ j)) H) ∨ rCatA K x y H Q ∨ rCat x y H Q
theorem op_addA {X : Cx} : OpR X (binaryOp .Add) (rAdd X.K) := OpR_or op_add (OpR_or op_add_str (OpR_or op_catA op_cat))
def gAdd : S → S → M S
  | .val (.int i), .val (.int j) => fun st => ok1 (.int (i + j)) st
  | .val (.str a), .val (.str b) => fun st => if a.length + b.length ≤ sizeLine then ok1 (.str (a ++ b)) st else none
  | .val (.tup a), .val (.tup b) => fun st => if a.length + b.length ≤ sizeLine then ok1 (.tup (a ++ b)) st else none
  | x, y => gCat x y
theorem os_addT {W : Value → Option Addr → Hp → Prop} {B F : Hp} {rho : List Addr} {st : List O} {H : Hp} {x y : V} {a b : List D} {Q : VK} (c : Core K mg B F rho st H) (rx : Rep K mg F x (.tup a)) (ry : Rep K mg F y (.tup b))
    (h : Post K mg B (fun F' rho' H' d => ∀ v, RepS K mg F' rho' v d → Q v H') W F rho (if a.length + b.length ≤ sizeLine then ok1 (.tup (a ++ b)) st else none)) : rCatA K x y H Q := by
  split at h
  · rename_i hz
    cases rx with
    | @tup p va _ ha ra =>
      cases ry with
      | @tup q vb _ hb rb =>
        refine ⟨p, q, va, vb, rfl, rfl, SqT_mono c.same ha, SqT_mono c.same hb, by rw [ra.length, rb.length]; exact hz, fun e => ?_, fun n e => ?_, fun n1 n2 r hr => ?_⟩
        · subst e; cases ra; exact h.done c _ (.val (.tup hb (by simpa using rb)))
        · subst e; cases rb; exact h.done c _ (.val (.tup ha (by simpa using ra)))
        · exact h (upd F r (.tup (va ++ vb))) rho _ (same_upd (c.same.free hr)) (Pre.refl _) (c.alloc hr) _ (.val (.tup (SqT.of upd_same) ((ra.append rb).mono (same_upd (c.same.free hr)))))
  · exact h.elim
theorem os_add : OpS K mg (rAdd K) gAdd := by
  intro W B F rho st H x y dx dy Q c rx ry h
  unfold gAdd at h
  split at h
  · rename_i i j
    cases rx with | val rx => cases rx; cases ry with | val ry => cases ry; exact .inl ⟨i, j, rfl, rfl, h.done c _ (.val (.int _))⟩
  · rename_i i j
    cases rx with
    | val rx =>
      cases rx
      cases ry with
      | val ry =>
        cases ry
        split at h
        · rename_i hz
          exact .inr (.inl ⟨i, j, rfl, rfl, hz, h.done c _ (.val (.str _))⟩)
        · exact h.elim
  · rename_i a b
    cases rx with
    | val rx => cases ry with
      | val ry => exact .inr (.inr (.inl (os_addT c rx ry h)))
  · exact .inr (.inr (.inr (os_cat W B F rho st H x y _ _ Q c rx ry h)))
end
end Cl
namespace Cl
open PySem L2
mutual
def toP : D → Option PyData
  | .non => some .none
  | .bl b => some (.bool b)
  | .int i => some (.int i)
  | .str x => some (.str x)
  | .tup l => (toPs l).map .tuple
  | .lst l => (toPs l).map .list
  | _ => none
def toPs : List D → Option (List PyData)
  | [] => some []
  | d :: r => match toP d, toPs r with
    | some a, some b => some (a :: b)
    | _, _ => none
end
section
variable {K : PySem.W.Frag} {mg : Str → Option Value} {B F : Hp} {rho : List Addr} {st : List O} {H : Hp}
mutual
theorem toP_ok (e : Same F H) : ∀ {v : V} {d : D} {p : PyData}, Rep K mg F v d → toP d = some p → Dp K H v p
  | _, _, _, .non, h => by unfold toP at h; cases h; exact .non
  | _, _, _, .bl b, h => by unfold toP at h; cases h; exact .bl b
  | _, _, _, .int b, h => by unfold toP at h; cases h; exact .int b
  | _, _, _, .str b, h => by unfold toP at h; cases h; exact .str b
  | _, _, _, .tup a b, h => by
    unfold toP at h
    obtain ⟨l, h2, rfl⟩ := Option.map_eq_some_iff.mp h
    exact .tup (SqT_mono e a) (toPs_ok e b h2)
  | _, _, _, .lst a b, h => by
    unfold toP at h
    obtain ⟨l, h2, rfl⟩ := Option.map_eq_some_iff.mp h
    exact .lst (SqL.of (e _ _ a)) (toPs_ok e b h2)
  | _, _, _, .scr a b, h => by unfold toP at h; cases h
  | _, _, _, .ins a b _, h => by unfold toP at h; cases h
  | _, _, _, .dct a b, h => by unfold toP at h; cases h
  | _, _, _, .vv a, h => by unfold toP at h; cases h
theorem toPs_ok (e : Same F H) : ∀ {v : List V} {d : List D} {p : List PyData}, Reps K mg F v d → toPs d = some p → DpAll K H v p
  | _, _, _, .nil, h => by unfold toPs at h; cases h; exact .nil
  | _, _, _, .cons (d := d) (ds := ds) r t, h => by
    unfold toPs at h
    match e1 : toP d, e2 : toPs ds with
    | some a, some b => rw [e1, e2] at h; cases h; exact .cons (toP_ok e r e1) (toPs_ok e t e2)
    | none, _ => rw [e1] at h; cases h
    | some a, none => rw [e1, e2] at h; cases h
end
def toPS (s : S) (st : List O) : Option PyData := match s with
  | .val d => toP d
  | .obj _ => match lstOf s st with
    | some l => (datas l).bind fun ds => (toPs ds).map .list
    | none => none
theorem toPS_ok {v : V} {s : S} {p : PyData} (c : Core K mg B F rho st H) (r : RepS K mg F rho v s) (h : toPS s st = some p) : Dp K H v p := by
  cases r with
  | val r => exact toP_ok c.same r h
  | @obj k a q =>
    unfold toPS at h
    dsimp only at h
    match e : lstOf (.obj k) st with
    | none => rw [e] at h; cases h
    | some l =>
      rw [e] at h
      dsimp only at h
      obtain ⟨a', vs, ea, hH, rs⟩ := lst_at c (.obj q) e
      cases ea
      obtain ⟨ds, h1, h2⟩ := Option.bind_eq_some_iff.mp h
      obtain ⟨ps, h3, rfl⟩ := Option.map_eq_some_iff.mp h2
      exact .lst (SqL.of hH) (toPs_ok c.same (rs.datas h1) h3)
def gEqB (neg : Bool) (x y : S) : M S := fun st => match toPS x st, toPS y st with
  | some a, some b => if SeqAt.shaped a = true ∧ SeqAt.shaped b = true then ok1 (.bl (if neg = true then !PyData.eqv a b else PyData.eqv a b)) st else none
  | _, _ => none
abbrev gEq := gEqB false
abbrev gNe := gEqB true
theorem os_eq : OpS K mg (rEqD K) gEq := by
  intro W B F rho st H x y dx dy Q c rx ry h
  unfold gEq gEqB at h
  match e1 : toPS dx st, e2 : toPS dy st with
  | none, _ => rw [e1] at h; exact h.elim
  | some xs, none => rw [e1, e2] at h; exact h.elim
  | some a, some b =>
    rw [e1, e2] at h
    dsimp only at h
    split at h
    · rename_i hs
      exact ⟨a, b, toPS_ok c rx e1, toPS_ok c ry e2, hs.1, hs.2, h.done c _ (.val (.bl _))⟩
    · exact h.elim
theorem os_ne : OpS K mg (rNeD K) gNe := by
  intro W B F rho st H x y dx dy Q c rx ry h
  unfold gNe gEqB at h
  match e1 : toPS dx st, e2 : toPS dy st with
  | none, _ => rw [e1] at h; exact h.elim
  | some xs, none => rw [e1, e2] at h; exact h.elim
  | some a, some b =>
    rw [e1, e2] at h
    dsimp only at h
    split at h
    · rename_i hs
      exact ⟨a, b, toPS_ok c rx e1, toPS_ok c ry e2, hs.1, hs.2, h.done c _ (.val (.bl _))⟩
    · exact h.elim
/-! ### is None -/
def isNonS : S → Option Bool
  | .val .non => some true
  | .val (.vv _) => none
  | _ => some false
def gIsN (neg : Bool) (x y : S) : M S := fun st => match y, isNonS x with
  | .val .non, some b => ok1 (.bl (if neg = true then !b else b)) st
  | _, _ => none
theorem isNon_ok {x : V} {dx : S} {b : Bool} (rx : RepS K mg F rho x dx) (h : isNonS dx = some b) : decide (x = .non) = b := by
  cases rx with
  | obj _ => cases h; rfl
  | val rx => cases rx <;> cases h <;> rfl
theorem os_isN : OpS K mg (fun x y H Q => y = .non ∧ Q (.bl (decide (x = .non))) H) (gIsN false) := by
  intro W B F rho st H x y dx dy Q c rx ry h
  unfold gIsN at h
  split at h
  · rename_i b e
    cases ry with
    | val ry => cases ry; exact ⟨rfl, by rw [isNon_ok rx e]; exact h.done c _ (.val (.bl _))⟩
  · exact h.elim
theorem os_notN : OpS K mg (fun x y H Q => y = .non ∧ Q (.bl (!decide (x = .non))) H) (gIsN true) := by
  intro W B F rho st H x y dx dy Q c rx ry h
  unfold gIsN at h
  split at h
  · rename_i b e
    cases ry with
    | val ry => cases ry; exact ⟨rfl, by rw [isNon_ok rx e]; exact h.done c _ (.val (.bl _))⟩
  · exact h.elim
/-! ### in -/
def flatP : PyData → Bool
  | .none => true
  | .bool _ => true
  | .int _ => true
  | .str _ => true
  | _ => false
theorem flat_eqv {x : V} {p : PyData} (h : Dp K H x p) (f : flatP p = true) : flatV x = true := by
  cases h <;> first | rfl | cases f
theorem eqV_eqv {x y : V} {p q : PyData} (hx : Dp K H x p) (hy : Dp K H y q) (fx : flatP p = true) (fy : flatP q = true) : eqV x y = PyData.eqv p q := by
  cases hx <;> cases fx <;> cases hy <;> cases fy <;> simp [eqV, PyData.eqv]
theorem all_flat : ∀ {xs : List V} {ps : List PyData}, DpAll K H xs ps → ps.all flatP = true → xs.all flatV = true
  | _, _, .nil, _ => rfl
  | _, _, .cons a b, h => by
    simp only [List.all_cons, Bool.and_eq_true] at h ⊢
    exact ⟨flat_eqv a h.1, all_flat b h.2⟩
theorem any_flat {x : V} {p : PyData} (hx : Dp K H x p) (fx : flatP p = true) : ∀ {xs : List V} {ps : List PyData}, DpAll K H xs ps → ps.all flatP = true → inV x xs = ps.any fun z => PyData.eqv z p
  | _, _, .nil, _ => rfl
  | _, _, .cons a b, h => by
    simp only [List.all_cons, Bool.and_eq_true] at h
    unfold inV
    simp only [List.any_cons]
    rw [eqV_eqv a hx h.1 fx]
    have := any_flat hx fx b h.2
    unfold inV at this
    rw [this]
def gInB (neg : Bool) (x y : S) : M S := fun st => match x, y with
  | .val (.str c), .val (.str z) => match c.cps.toList with
    | [k] => ok1 (.bl (if neg = true then !decide (k ∈ z.cps.toList) else decide (k ∈ z.cps.toList))) st
    | _ => none
  | x, y => match toPS x st, (seqOf y st).bind datas with
    | some a, some ds => match toPs ds with
      | some bs => if (flatP a = true ∧ bs.all flatP = true) ∨ ((lstOf y st).isSome = true ∧ SeqAt.shaped a = true ∧ SeqAt.shaped (.list bs) = true) then ok1 (.bl (if neg = true then !(bs.any fun z => PyData.eqv z a) else bs.any fun z => PyData.eqv z a)) st else none
      | none => none
    | _, _ => none
def rInA (K : PySem.W.Frag) : R2 := fun x y H Q => (∃ (c : Nat) (z : Str), x = .str ⟨#[c]⟩ ∧ y = .str z ∧ Q (.bl (decide (c ∈ z.cps.toList))) H) ∨ rIn K false x y H Q ∨ rInD K x y H Q
def rNotInA (K : PySem.W.Frag) : R2 := fun x y H Q => (∃ (c : Nat) (z : Str), x = .str ⟨#[c]⟩ ∧ y = .str z ∧ Q (.bl (!decide (c ∈ z.cps.toList))) H) ∨ rIn K true x y H Q ∨ rNotInD K x y H Q
theorem op_inA {X : Cx} (hu : X.A.units + 65 < cLine) : OpR X (compareOp .In) (rInA X.K) := OpR_or op_in_sign (OpR_or op_in_seq (op_inD hu))
theorem op_notInA {X : Cx} (hu : X.A.units + 65 < cLine) : OpR X (compareOp .NotIn) (rNotInA X.K) := OpR_or op_notIn_sign (OpR_or op_notIn_seq (op_notInD hu))
theorem in_parts {neg : Bool} {W : Value → Option Addr → Hp → Prop} {x y : V} {dx dy : S} {Q : VK} (c : Core K mg B F rho st H) (rx : RepS K mg F rho x dx) (ry : RepS K mg F rho y dy)
    (h : Post K mg B (fun F' rho' H' d => ∀ v, RepS K mg F' rho' v d → Q v H') W F rho (gInB neg dx dy st)) :
    (∃ (k : Nat) (z : Str), x = .str ⟨#[k]⟩ ∧ y = .str z ∧ Q (.bl (if neg = true then !decide (k ∈ z.cps.toList) else decide (k ∈ z.cps.toList))) H) ∨
    (∃ p xs, y = .ref p ∧ (SqL K H p xs ∨ SqT K H p xs) ∧ flatV x = true ∧ xs.all flatV = true ∧ Q (.bl (if neg = true then !inV x xs else inV x xs)) H) ∨
    (∃ d ds, Dp K H x d ∧ Dp K H y (.list ds) ∧ SeqAt.shaped d = true ∧ SeqAt.shaped (.list ds) = true ∧ Q (.bl (if neg = true then !(ds.any fun z => PyData.eqv z d) else ds.any fun z => PyData.eqv z d)) H) := by
  unfold gInB at h
  split at h
  · rename_i cs z
    cases rx with
    | val rx =>
      cases rx
      cases ry with
      | val ry =>
        cases ry
        match e : cs.cps.toList with
        | [k] =>
          rw [e] at h
          refine .inl ⟨k, z, ?_, rfl, h.done c _ (.val (.bl _))⟩
          have : cs = ⟨#[k]⟩ := by
            obtain ⟨⟨l⟩⟩ := cs
            have e' : l = [k] := e
            rw [e']
          rw [this]
        | [] => rw [e] at h; exact h.elim
        | _ :: _ :: _ => rw [e] at h; exact h.elim
  · match e1 : toPS dx st, e2 : (seqOf dy st).bind datas with
    | none, _ => rw [e1] at h; exact h.elim
    | some a, none => rw [e1, e2] at h; exact h.elim
    | some a, some ds =>
      rw [e1, e2] at h
      dsimp only at h
      match e3 : toPs ds with
      | none => rw [e3] at h; exact h.elim
      | some bs =>
        rw [e3] at h
        dsimp only at h
        obtain ⟨ss, h1, h2⟩ := Option.bind_eq_some_iff.mp e2
        have hx := toPS_ok c rx e1
        split at h
        · rename_i hc
          rcases hc with ⟨f1, f2⟩ | ⟨l1, s1, s2⟩
          · obtain ⟨p, vs, rfl, hs, rs⟩ := seq_at c ry h1
            have hys := toPs_ok c.same (rs.datas h2) e3
            refine .inr (.inl ⟨p, vs, rfl, hs, flat_eqv hx f1, all_flat hys f2, ?_⟩)
            rw [any_flat hx f1 hys f2]
            exact h.done c _ (.val (.bl _))
          · obtain ⟨ls, e4⟩ := Option.isSome_iff_exists.mp l1
            obtain ⟨p, vs, rfl, hH, rs⟩ := lst_at c ry e4
            have es : seqOf dy st = some ls := by
              cases dy with
              | obj k => exact e4
              | val d => cases d <;> first | exact e4 | cases e4
            rw [h1] at es
            cases es
            exact .inr (.inr ⟨a, bs, hx, .lst (SqL.of hH) (toPs_ok c.same (rs.datas h2) e3), s1, s2, h.done c _ (.val (.bl _))⟩)
        · exact h.elim
theorem os_in : OpS K mg (rInA K) (gInB false) := by
  intro W B F rho st H x y dx dy Q c rx ry h
  rcases in_parts c rx ry h with q | q | q
  · exact .inl q
  · exact .inr (.inl q)
  · exact .inr (.inr q)
theorem os_notIn : OpS K mg (rNotInA K) (gInB true) := by
  intro W B F rho st H x y dx dy Q c rx ry h
  rcases in_parts c rx ry h with q | q | q
  · exact .inl q
  · exact .inr (.inl q)
  · exact .inr (.inr q)
/-! ### x[i] -/
theorem atI_rep {vs : List V} {ss : List S} {i : Int} {s : S} (rs : RepSs K mg F rho vs ss) (h : atI ss i = some s) : ∃ v, atI vs i = some v ∧ RepS K mg F rho v s := by
  unfold atI at h ⊢
  rw [rs.length]
  obtain ⟨j, h1, h2⟩ := Option.bind_eq_some_iff.mp h
  obtain ⟨v, h3, h4⟩ := rs.get h2
  exact ⟨v, by rw [h1]; exact h3, h4⟩
def gIx (x y : S) : M S := fun st => match x, y with
  | .val (.str z), .val (.int i) => if z.length ≤ sizeLine then (match atI z.cps.toList i with
    | some c => ok1 (.str ⟨#[c]⟩) st
    | none => none) else none
  | x, .val (.int i) => match seqOf x st with
    | some ss => match atI ss i with
      | some s => some (.ok (rsvS s st), st)
      | none => none
    | none => none
  | _, _ => none
theorem os_ix : OpS K mg (rIx K) gIx := by
  intro W B F rho st H x y dx dy Q c rx ry h
  unfold gIx at h
  split at h
  · rename_i z i
    cases rx with
    | val rx =>
      cases rx
      cases ry with
      | val ry =>
        cases ry
        split at h
        · rename_i hz
          match e : atI z.cps.toList i with
          | some k => rw [e] at h; exact .inr (.inr ⟨z, i, k, rfl, rfl, hz, e, h.done c _ (.val (.str _))⟩)
          | none => rw [e] at h; exact h.elim
        · exact h.elim
  · rename_i i _
    cases ry with
    | val ry =>
      cases ry
      match e1 : seqOf dx st with
      | none => rw [e1] at h; exact h.elim
      | some ss =>
        rw [e1] at h
        dsimp only at h
        match e2 : atI ss i with
        | none => rw [e2] at h; exact h.elim
        | some s =>
          rw [e2] at h
          obtain ⟨p, vs, rfl, hs, rs⟩ := seq_at c rx e1
          obtain ⟨v, h3, h4⟩ := atI_rep rs e2
          rcases hs with hs | hs
          · exact .inl ⟨p, vs, i, v, rfl, rfl, hs, h3, h.done c _ (rsv_ok c h4)⟩
          · exact .inr (.inl ⟨p, vs, i, v, rfl, rfl, hs, h3, h.done c _ (rsv_ok c h4)⟩)
  · exact h.elim
end
end Cl
namespace L2
open PySem PySem.Spec PyProof.Rows
section
variable {X : Cx} {tg : Expr}
/-- a list, a tuple or a text walked -/
def iSeq (K : PySem.W.Frag) (tl : TE) : TI := fun σ H R => tl σ H fun x H1 => (∃ a, x = .ref a ∧ (∃ xs, SqL K H1 a xs) ∧ R (Itl K a) H1) ∨ (∃ a, x = .ref a ∧ (∃ xs, SqT K H1 a xs) ∧ R (Itt K a) H1) ∨ (∃ z, x = .str z ∧ R (Its z) H1)
theorem pi_seq {l : Expr} {tl : TE} (hl : PE X l tl) : PI X tg l (iSeq X.K tl) := by
  refine ⟨fun pins s σ H R I h => ?_⟩
  refine thn (hl.run pins s σ H _ I h) fun v s1 ⟨x, H1, I1, r1, q1⟩ => ?_
  rcases q1 with ⟨a, e, ⟨xs, hq⟩, q⟩ | ⟨a, e, ⟨xs, hq⟩, q⟩ | ⟨z, e, q⟩
  · subst e
    cases r1
    obtain ⟨its, rv, p, hz⟩ := I1.list hq
    refine wpAny_pyIter_list p.isList ?_
    refine ⟨s1.heap.objs.size, [s1.heap.objs.size], _, _, H1, rfl, I1.kept (t' := s1.toks) fun b o e => Heap.get?_push_of_some _ e, turn_list a _, ⟨_, Heap.get?_push_size _ rfl, rfl, rfl⟩, fun b hb => ?_, q⟩
    have e : b = s1.heap.objs.size := by simpa using hb
    subst e
    exact I1.fpOk (Nat.le_refl _) (I1.hok.fresh (Nat.le_refl _))
  · subst e
    cases r1
    obtain ⟨its, rv, p, hz⟩ := I1.tuple hq
    refine wpAny_pyIter_tuple (show s1.heap.IsTuple a its.toArray from p) ?_
    refine ⟨s1.heap.objs.size, [s1.heap.objs.size], _, _, H1, rfl, I1.kept (t' := s1.toks) fun b o e => Heap.get?_push_of_some _ e, turn_tuple a _, ⟨_, Heap.get?_push_size _ rfl, rfl, rfl⟩, fun b hb => ?_, q⟩
    have e : b = s1.heap.objs.size := by simpa using hb
    subst e
    exact I1.fpOk (Nat.le_refl _) (I1.hok.fresh (Nat.le_refl _))
  · subst e
    obtain ⟨t, rfl⟩ := r1
    cases ha : z.cps.all (· < 128)
    · exact wpAny_pyIter_wide ha (pi_one (tk := s1.toks) I1 _ (turn_str _ z t "str_iterator" (.inr rfl)) ⟨_, Heap.get?_push_size _ rfl, rfl, rfl⟩ q)
    · exact wpAny_pyIter_ascii ha (pi_one (tk := s1.toks) I1 _ (turn_str _ z t "str_ascii_iterator" (.inl rfl)) ⟨_, Heap.get?_push_size _ rfl, rfl, rfl⟩ q)
end
end L2
namespace Cl
open PySem L2
/-- what a loop walks: the items, and what must stay true of the store meanwhile -/
abbrev Its' := List S × (List O → Prop)
abbrev MI := Sl → M Its'
section
variable (K : PySem.W.Frag) (mg : Str → Option Value)
structure JOk (F : Hp) (rho : List Addr) (J : It) (w : Its') : Prop where
  go : ∀ B F1 rho1 st1 H1 (i : Nat), Same F F1 → Pre rho rho1 → Core K mg B F1 rho1 st1 H1 → w.2 st1 → i < w.1.length → J.go i H1 ∧ ∀ x H', J.yld i H1 x H' → ∃ F2, Same F1 F2 ∧ Core K mg B F2 rho1 st1 H' ∧ ∀ d, w.1[i]? = some d → RepS K mg F2 rho1 x d
  stop : ∀ B F1 rho1 st1 H1, Same F F1 → Pre rho rho1 → Core K mg B F1 rho1 st1 H1 → w.2 st1 → J.stop w.1.length H1
variable (B : Hp)
def tI (W : WX) (fi : MI) : TI := fun s H R => ∃ F rho sl st, Core K mg B F rho st H ∧ Slots K mg F rho s sl ∧ Post K mg B (fun F' rho' H' w => ∀ J, JOk K mg F' rho' J w → R J H') (fun c d H' => W c d s H') F rho (fi sl st)
abbrev MG := S → Sl → List O → Option (Sl × List O)
abbrev MGs := List S → Sl → List O → Option (Sl × List O)
def PostG (F : Hp) (rho : List Addr) (Q : St → Hp → Prop) (m : Option (Sl × List O)) : Prop := match m with
  | none => False
  | some (sl', st') => ∀ F' rho' H' s', Same F F' → Pre rho rho' → Core K mg B F' rho' st' H' → Slots K mg F' rho' s' sl' → Q s' H'
def tG (g : MG) : TG := fun v s H Q => ∃ F rho sl st d, Core K mg B F rho st H ∧ Slots K mg F rho s sl ∧ RepS K mg F rho v d ∧ PostG K mg B F rho Q (g d sl st)
def tGs (g : MGs) : TGs := fun vs s H Q => ∃ F rho sl st ds, Core K mg B F rho st H ∧ Slots K mg F rho s sl ∧ RepSs K mg F rho vs ds ∧ PostG K mg B F rho Q (g ds sl st)
end
abbrev QI (X : Cx) (B : Hp) (W : WX) (tg iter : Expr) (f : MI) : Prop := PI X tg iter (tI X.K X.mg B W f)
abbrev QG (X : Cx) (B : Hp) (tg : Expr) (g : MG) : Prop := PG X tg (tG X.K X.mg B g)
abbrev QGs (X : Cx) (B : Hp) (tgs : List Expr) (g : MGs) : Prop := PGs X tgs (tGs X.K X.mg B g)
section
variable {X : Cx} {tg iter : Expr}
theorem PIimp {t t' : TI} (h : PI X tg iter t) (i : ∀ s H R, t' s H R → t s H R) : PI X tg iter t' := ⟨fun pins s σ H R I q => h.run pins s σ H R I (i _ _ _ q)⟩
theorem PGimp {t t' : TG} (h : PG X tg t) (i : ∀ v s H R, t' v s H R → t v s H R) : PG X tg t' := ⟨fun pins s σ H v u Q I r q => h.run pins s σ H v u Q I r (i _ _ _ _ q)⟩
theorem PGsimp {tgs : List Expr} {t t' : TGs} (h : PGs X tgs t) (i : ∀ v s H R, t' v s H R → t v s H R) : PGs X tgs t' := ⟨fun pins s σ H v u Q I r q => h.run pins s σ H v u Q I r (i _ _ _ _ q)⟩
end
/-! ### targets -/
@[simp] def tgName (i : Nat) : MG := fun d sl st => some (sl.set i (some d), st)
@[simp] def tgNil : MGs := fun ds sl st => match ds with
  | [] => some (sl, st)
  | _ => none
@[simp] def tgCons (g : MG) (gs : MGs) : MGs := fun ds sl st => match ds with
  | d :: r => match g (rsvS d st) sl st with
    | some (sl1, st1) => gs r sl1 st1
    | none => none
  | [] => none
@[simp] def tgTup (n : Nat) (gs : MGs) : MG := fun d sl st => match d with
  | .val (.tup ds) => if ds.length = n then gs (ds.map .val) sl st else none
  | _ => none
section
variable {X : Cx} {B : Hp} {pos : Pos}
theorem qg_name {i : Nat} {x : Str} (hN : X.N.Nodup) (hi : X.N[i]? = some x := by rfl) (hx : Loc X.env.scope x := by first | exact Or.inl rfl | exact Or.inr rfl) (hf : X.fn x = true ∨ X.env.scope.names.lookup x = some .local := by first | exact .inl rfl | exact .inr rfl | assumption) : QG X B (.Name x pos) (tgName i) :=
  PGimp (pg_name hN hi hx hf) fun v s H R ⟨F, rho, sl, st, d, c, S', r, h⟩ => h F rho H _ (Same.refl _) (Pre.refl _) c (S'.set r i)
theorem qgs_nil : QGs X B [] tgNil := PGsimp pgs_nil fun vs s H R ⟨F, rho, sl, st, ds, c, S', r, h⟩ => by
  cases r with
  | nil => exact ⟨rfl, h F rho H _ (Same.refl _) (Pre.refl _) c S'⟩
  | cons _ _ => exact h.elim
theorem qgs_cons {e : Expr} {es : List Expr} {g : MG} {gs : MGs} (h1 : QG X B e g) (h2 : QGs X B es gs) (hs : (assignEach (e :: es) X.env).map (·.2) = assign e X.env :: (assignEach es X.env).map (·.2) := by rfl) : QGs X B (e :: es) (tgCons g gs) := by
  refine PGsimp (pgs_cons h1 h2 hs) fun vs s H R ⟨F, rho, sl, st, ds, c, S', r, h⟩ => ?_
  cases r with
  | nil => exact h.elim
  | @cons v d vs ds r t =>
    refine ⟨v, vs, rfl, F, rho, sl, st, _, c, S', rsv_ok c r, ?_⟩
    unfold tgCons at h
    dsimp only at h
    match e1 : g (rsvS d st) sl st with
    | none => rw [e1] at h; exact h.elim
    | some (sl1, st1) =>
      rw [e1] at h
      dsimp only at h
      refine fun F' rho' H' s' e p c' S'' => ⟨F', rho', sl1, st1, ds, c', S'', t.mono e p, ?_⟩
      match e2 : gs ds sl1 st1 with
      | none => rw [e2] at h; exact h.elim
      | some (sl2, st2) => rw [e2] at h; exact fun F2 r2 H2 s2 ee pp => h F2 r2 H2 s2 (e.trans ee) (p.trans pp)
theorem qg_tup {es : List Expr} {k n : Nat} {gs : MGs} (hc : X.calm = true) (h : QGs X B es gs) (hn : (assignEach es X.env).length = n := by rfl) (hst : (assignEach es X.env).findIdx? (·.1) = none := by rfl) : QG X B (.Tuple es k pos) (tgTup n gs) := by
  refine PGimp (pg_tup hc h hn hst) fun v s H R ⟨F, rho, sl, st, d, c, S', r, h⟩ => ?_
  unfold tgTup at h
  split at h
  · rename_i ds
    split at h
    · rename_i hl
      cases r with
      | val r =>
        cases r with
        | tup a b => exact ⟨_, _, rfl, SqT_mono c.same a, by rw [b.length]; exact hl, F, rho, sl, st, _, c, S', b.vals, h⟩
    · exact h.elim
  · exact h.elim
end
/-! ### for -/
open Classical in
noncomputable def forL (C : List O → Prop) (g : MG) (b : MS) : List S → Sl → List O → Option (Fl × Sl × List O)
  | [], sl, st => if C st then some (.nx, sl, st) else none
  | d :: ds, sl, st => if C st then (match g d sl st with
    | none => none
    | some (sl1, st1) => match b sl1 st1 with
      | some (.nx, sl2, st2) => forL C g b ds sl2 st2
      | some (.ct, sl2, st2) => forL C g b ds sl2 st2
      | some (.bk, sl2, st2) => some (.nx, sl2, st2)
      | r => r) else none
@[simp] noncomputable def sFor (fi : MI) (g : MG) (b : MS) : MS := sBind fi fun w => forL w.2 g b w.1
section
variable {X : Cx} {B : Hp} {W : WX} {tg iter : Expr} {body : List Stmt} {fi : MI} {g : MG} {fb : MS} {pos : Pos}
theorem qs_for (hp : PassesOwn (model X.prog X.w) X.A X.env X.xe) (hc : X.calm = true) (hi : QI X B W tg iter fi) (hg : QG X B tg g) (hb : QSs X B W body fb) (hs : ∀ x, foldedSetIterable iter X.env x = pure x := by intro _; rfl) : QS X B W (.For tg iter body [] pos) (sFor fi g fb) := by
  refine PSimp (ps_for hp hc hi hg hb hs) fun N s H h => ?_
  obtain ⟨F, rho, sl, st, c, S', h⟩ := h
  refine ⟨F, rho, sl, st, c, S', (PostS.bind S' h).mono (Same.refl _) (Pre.refl _) (fun F1 r1 H1 w e1 p1 h1 J hJ => ?_) fun _ _ _ z => z⟩
  obtain ⟨st1, c1, _, _, h1⟩ := h1
  refine ⟨fun i m s' H' => i + m = w.1.length ∧ ∃ F2 rho2 sl2 st2, Same F1 F2 ∧ Pre r1 rho2 ∧ Core X.K X.mg B F2 rho2 st2 H' ∧ Slots X.K X.mg F2 rho2 s' sl2 ∧ PostS X.K X.mg B W N F2 rho2 (forL w.2 g fb (w.1.drop i) sl2 st2),
    ⟨w.1.length, by omega, F1, r1, sl, st1, Same.refl _, Pre.refl _, c1, S'.mono e1 p1, h1⟩, ?_⟩
  rintro i m s2 H2 ⟨hm, F2, rho2, sl2, st2, e2, p2, c2, S2, h2⟩
  by_cases hi' : i < w.1.length
  · right
    have hd : w.1.drop i = w.1[i] :: w.1.drop (i + 1) := List.drop_eq_getElem_cons hi'
    rw [hd, forL] at h2
    split at h2
    · rename_i hC
      obtain ⟨j1, j2⟩ := hJ.go B F2 rho2 st2 H2 i e2 p2 c2 hC hi'
      refine ⟨j1, fun s' H' => i + 1 + (m - 1) = w.1.length ∧ ∃ F2 rho2 sl2 st2, Same F1 F2 ∧ Pre r1 rho2 ∧ Core X.K X.mg B F2 rho2 st2 H' ∧ Slots X.K X.mg F2 rho2 s' sl2 ∧ PostS X.K X.mg B W N F2 rho2 (forL w.2 g fb (w.1.drop (i + 1)) sl2 st2),
        fun s' H' z => ⟨m - 1, by omega, z⟩, fun x H' hy => ?_⟩
      obtain ⟨F3, e3, c3, r3⟩ := j2 x H' hy
      refine ⟨F3, rho2, sl2, st2, w.1[i], c3, S2.mono e3 (Pre.refl _), r3 _ (List.getElem?_eq_getElem hi'), ?_⟩
      match q : g w.1[i] sl2 st2 with
      | none => rw [q] at h2; exact h2.elim
      | some (sl3, st3) =>
        rw [q] at h2
        dsimp only at h2
        intro F4 rho4 H4 s4 e4 p4 c4 S4
        refine ⟨F4, rho4, sl3, st3, c4, S4, ?_⟩
        have h3 := PostS.mono h2 (e3.trans e4) p4
        match q2 : fb sl3 st3 with
        | none => rw [q2] at h3; exact h3
        | some (.nx, sl5, st5) => rw [q2] at h3; exact fun F5 r5 H5 s5 e5 p5 c5 S5 => ⟨by omega, F5, r5, sl5, st5, ((e2.trans e3).trans e4).trans e5, (p2.trans p4).trans p5, c5, S5, PostS.mono h3 e5 p5⟩
        | some (.ct, sl5, st5) => rw [q2] at h3; exact fun F5 r5 H5 s5 e5 p5 c5 S5 => ⟨by omega, F5, r5, sl5, st5, ((e2.trans e3).trans e4).trans e5, (p2.trans p4).trans p5, c5, S5, PostS.mono h3 e5 p5⟩
        | some (.bk, sl5, st5) => rw [q2] at h3; exact fun F5 r5 H5 s5 e5 p5 c5 S5 => h3 F5 r5 H5 s5 e5 p5 c5 S5
        | some (.rt d, sl5, st5) => rw [q2] at h3; exact fun F5 r5 H5 s5 e5 p5 c5 S5 => h3 F5 r5 H5 s5 e5 p5 c5 S5
        | some (.xc d, sl5, st5) => rw [q2] at h3; exact fun F5 r5 H5 s5 e5 p5 c5 S5 => h3 F5 r5 H5 s5 e5 p5 c5 S5
    · exact h2.elim
  · left
    have hi2 : i = w.1.length := by omega
    subst hi2
    rw [List.drop_length, forL] at h2
    split at h2
    · rename_i hC
      exact ⟨hJ.stop B F2 rho2 st2 H2 e2 p2 c2 hC, h2.nx c2 S2⟩
    · exact h2.elim
end
end Cl
namespace Cl
open PySem L2
@[simp] def always : List O → Prop := fun _ => True
def gIter : S → M Its'
  | .val (.str z) => fun st => some (.ok (z.cps.toList.map fun c => .val (.str ⟨#[c]⟩), always), st)
  | .val (.tup l) => fun st => some (.ok (l.map .val, always), st)
  | .val (.lst l) => fun st => some (.ok (l.map .val, always), st)
  | .val (.scr l) => fun st => some (.ok (l.map .val, always), st)
  | .obj k => fun st => match st[k]? with
    | some (.lst ss) => some (.ok (ss, fun st => st[k]? = some (.lst ss)), st)
    | _ => none
  | _ => fun _ => none
section
variable {K : PySem.W.Frag} {mg : Str → Option Value} {B F : Hp} {rho : List Addr} {st : List O} {H : Hp}
theorem jok_list {a : Addr} {vs : List V} {ss : List S} {C : List O → Prop} (hL : ∀ B F1 rho1 st1 H1, Same F F1 → Pre rho rho1 → Core K mg B F1 rho1 st1 H1 → C st1 → ∃ vs, SqL K H1 a vs ∧ RepSs K mg F1 rho1 vs ss) : JOk K mg F rho (Itl K a) (ss, C) := by
  refine ⟨fun B F1 rho1 st1 H1 i e p c hC hi => ?_, fun B F1 rho1 st1 H1 e p c hC => ?_⟩
  · obtain ⟨vs, hs, rs⟩ := hL B F1 rho1 st1 H1 e p c hC
    have hi2 : i < vs.length := by rw [rs.length]; exact hi
    refine ⟨⟨vs, vs[i], hs, List.getElem?_eq_getElem hi2⟩, fun x H' ⟨eH, hx⟩ => ?_⟩
    subst eH
    refine ⟨F1, Same.refl _, c, fun d hd => ?_⟩
    obtain ⟨v, h1, h2⟩ := rs.get hd
    have h3 := hx vs hs
    rw [h1] at h3; cases h3
    exact h2
  · obtain ⟨vs, hs, rs⟩ := hL B F1 rho1 st1 H1 e p c hC
    exact ⟨vs, hs, by rw [rs.length]; exact Nat.le_refl _⟩
theorem jok_tup {a : Addr} {vs : List V} {ds : List D} (hT : SqT K F a vs) (rs : Reps K mg F vs ds) : JOk K mg F rho (Itt K a) (ds.map .val, always) := by
  refine ⟨fun B F1 rho1 st1 H1 i e p c hC hi => ?_, fun B F1 rho1 st1 H1 e p c hC => ?_⟩
  · have hs : SqT K H1 a vs := SqT_mono (e.trans c.same) hT
    have hi2 : i < vs.length := by rw [rs.length]; simpa using hi
    refine ⟨⟨vs, vs[i], hs, List.getElem?_eq_getElem hi2⟩, fun x H' ⟨eH, hx⟩ => ?_⟩
    subst eH
    refine ⟨F1, Same.refl _, c, fun d hd => ?_⟩
    obtain ⟨v, h1, h2⟩ := (rs.vals (rho := rho)).get hd
    have h3 := hx vs hs
    rw [h1] at h3; cases h3
    exact h2.mono e p
  · exact ⟨vs, SqT_mono (e.trans c.same) hT, by rw [rs.length]; simp⟩
theorem jok_str {z : Str} : JOk K mg F rho (Its z) (z.cps.toList.map fun c => .val (.str ⟨#[c]⟩), always) := by
  refine ⟨fun B F1 rho1 st1 H1 i e p c hC hi => ?_, fun B F1 rho1 st1 H1 e p c hC => ?_⟩
  · refine ⟨show i < z.cps.size by simpa using hi, fun x H' ⟨eH, k, hk, hx⟩ => ?_⟩
    subst eH
    refine ⟨F1, Same.refl _, c, fun d hd => ?_⟩
    rw [List.getElem?_map] at hd
    have : z.cps.toList[i]? = some k := by simpa using hk
    rw [this] at hd
    cases hd
    rw [hx]
    exact .val (.str _)
  · show z.cps.size ≤ _
    simp
theorem jok_rng {lo : Int} {n : Nat} : JOk K mg F rho (Itr lo n) ((List.range n).map fun i => .val (.int (lo + (i : Nat))), always) := by
  refine ⟨fun B F1 rho1 st1 H1 i e p c hC hi => ?_, fun B F1 rho1 st1 H1 e p c hC => ?_⟩
  · have hi2 : i < n := by simpa using hi
    refine ⟨hi2, fun x H' ⟨eH, hx⟩ => ?_⟩
    subst eH
    refine ⟨F1, Same.refl _, c, fun d hd => ?_⟩
    rw [List.getElem?_map, List.getElem?_range hi2] at hd
    cases hd
    rw [hx]
    exact .val (.int _)
  · show n ≤ _
    simp
/-- an expression, then what it is to a loop -/
theorem it_of {W : WX} {fa : ME} {g : S → M Its'} {s : St} {H : Hp} {R : It → Hp → Prop} {R' : V → Hp → Prop} (h : tI K mg B W (fun sl => (fa sl).bind g) s H R)
    (hR : ∀ F rho st H x dx, Core K mg B F rho st H → RepS K mg F rho x dx → Post K mg B (fun F' rho' H' w => ∀ J, JOk K mg F' rho' J w → R J H') (fun c d H' => W c d s H') F rho (g dx st) → R' x H) : tE K mg B W fa s H R' := by
  obtain ⟨F, rho, sl, st, c, S', h⟩ := h
  refine ⟨F, rho, sl, st, c, S', h.bind.mono (Same.refl _) (Pre.refl _) (fun F1 r1 H1 dx e1 p1 h1 x rx => ?_) fun _ _ _ z => z⟩
  obtain ⟨st1, c1, _, _, h1⟩ := h1
  exact hR F1 r1 st1 H1 x dx c1 rx h1
theorem its_of {W : WX} {fa : MA} {g : List S → M Its'} {s : St} {H : Hp} {R : It → Hp → Prop} {R' : List V → Hp → Prop} (h : tI K mg B W (fun sl => (fa sl).bind g) s H R)
    (hR : ∀ F rho st H x dx, Core K mg B F rho st H → RepSs K mg F rho x dx → Post K mg B (fun F' rho' H' w => ∀ J, JOk K mg F' rho' J w → R J H') (fun c d H' => W c d s H') F rho (g dx st) → R' x H) : tA K mg B W fa s H R' := by
  obtain ⟨F, rho, sl, st, c, S', h⟩ := h
  refine ⟨F, rho, sl, st, c, S', h.bind.mono (Same.refl _) (Pre.refl _) (fun F1 r1 H1 dx e1 p1 h1 x rx => ?_) fun _ _ _ z => z⟩
  obtain ⟨st1, c1, _, _, h1⟩ := h1
  exact hR F1 r1 st1 H1 x dx c1 rx h1
end
@[simp] def iOf (a : ME) : MI := fun sl => (a sl).bind gIter
def gRange1 : List S → M Its'
  | [.val (.int j)] => fun st => if -(2 ^ 62) ≤ j ∧ j < 2 ^ 62 then some (.ok ((List.range j.toNat).map fun i => .val (.int (0 + (i : Nat))), always), st) else none
  | _ => M.stuck
def gRange2 : List S → M Its'
  | [.val (.int i), .val (.int j)] => fun st => if -(2 ^ 62) ≤ i ∧ i < 2 ^ 62 ∧ -(2 ^ 62) ≤ j ∧ j < 2 ^ 62 then some (.ok ((List.range (j - i).toNat).map fun k => .val (.int (i + (k : Nat))), always), st) else none
  | _ => M.stuck
@[simp] def iArgs (g : List S → M Its') (a : MA) : MI := fun sl => (a sl).bind g
/-- enumerate of a list of data -/
def enumD (n : Nat) : List D → List D
  | [] => []
  | d :: r => .tup [.int (n : Nat), d] :: enumD (n + 1) r
def gEnum : List S → M Its'
  | [x] => fun st => match lstOf x st with
    | some ss => (datas ss).map fun ds => (.ok ((enumD 0 ds).map .val, fun st' => lstOf x st' = some ss), st)
    | none => none
  | _ => M.stuck
theorem enumD_get : ∀ {ds : List D} {n i : Nat} {d : D}, (enumD n ds)[i]? = some d → ∃ e, ds[i]? = some e ∧ d = .tup [.int ((n + i : Nat) : Int), e]
  | [], _, _, _, h => by simp [enumD] at h
  | e :: r, n, 0, d, h => by simp [enumD] at h; exact ⟨e, rfl, by rw [← h]; rfl⟩
  | e :: r, n, i + 1, d, h => by
    obtain ⟨e', h1, h2⟩ := enumD_get (n := n + 1) (i := i) (d := d) (ds := r) (by simpa [enumD] using h)
    exact ⟨e', by simpa using h1, by rw [h2]; congr 3; omega⟩
theorem enumD_length : ∀ {ds : List D} {n : Nat}, (enumD n ds).length = ds.length
  | [], _ => rfl
  | _ :: _, _ => by simp [enumD, enumD_length]
section
variable {X : Cx} {B : Hp} {W : WX} {tg e : Expr} {es : List Expr} {fa : ME} {fs : MA} {pos p : Pos}
theorem qi_seq (he : QE X B W e fa) : QI X B W tg e (iOf fa) := by
  refine PIimp (pi_seq he) fun s H R h => it_of h fun F rho st H x dx c rx q => ?_
  cases rx with
  | @obj k a hk =>
    simp only [gIter] at q
    match e1 : st[k]? with
    | some (.lst ss) =>
      rw [e1] at q
      obtain ⟨_, vs, hH, rs⟩ := c.own k a _ hk e1
      refine .inl ⟨a, rfl, ⟨vs, SqL.of hH⟩, q F rho H (Same.refl _) (Pre.refl _) c _ (jok_list (vs := vs) fun B F1 r1 st1 H1 e2 p2 c2 hC => ?_)⟩
      obtain ⟨_, vs', hH', rs'⟩ := c2.own k a _ (p2 _ _ hk) hC
      exact ⟨vs', SqL.of hH', rs'⟩
    | some (.frz _) => rw [e1] at q; exact q.elim
    | some (.ins _ _) => rw [e1] at q; exact q.elim
    | some (.dct _) => rw [e1] at q; exact q.elim
    | none => rw [e1] at q; exact q.elim
  | val rx =>
    cases rx with
    | str z => exact .inr (.inr ⟨z, rfl, q F rho H (Same.refl _) (Pre.refl _) c _ jok_str⟩)
    | tup a b => exact .inr (.inl ⟨_, rfl, ⟨_, SqT_mono c.same a⟩, q F rho H (Same.refl _) (Pre.refl _) c _ (jok_tup a b)⟩)
    | @lst a vs ds hF b => exact .inl ⟨_, rfl, ⟨_, SqL.of (c.same _ _ hF)⟩, q F rho H (Same.refl _) (Pre.refl _) c _ (jok_list (vs := vs) fun B F1 r1 st1 H1 e2 p2 c2 hC => ⟨vs, SqL.of (c2.same _ _ (e2 _ _ hF)), b.vals.mono e2 p2⟩)⟩
    | @scr a vs ds hF b => exact .inl ⟨_, rfl, ⟨_, c.same.seq hF⟩, q F rho H (Same.refl _) (Pre.refl _) c _ (jok_list (vs := vs) fun B F1 r1 st1 H1 e2 p2 c2 hC => ⟨vs, (e2.trans c2.same).seq hF, b.vals.mono e2 p2⟩)⟩
    | _ => exact q.elim
theorem qi_range1 (hm : X.mg "range" = none) (ha : QA X B W [e] fs) (hg : Gl X "range" := by rfl) (hs : starEach [e] X.env = [(false, eval e X.env)] := by rfl) : QI X B W tg (.Call (.Name "range" p) [e] [] pos) (iArgs gRange1 fs) := by
  refine PIimp (pi_range1 hg hm ha hs) fun s H R h => its_of h fun F rho st H x dx c rx q => ?_
  cases rx with
  | nil => exact q.elim
  | cons r t =>
    cases t with
    | cons _ _ => cases r with
      | obj _ => exact q.elim
      | val r => cases r <;> exact q.elim
    | nil =>
      cases r with
      | obj _ => exact q.elim
      | val r =>
        cases r with
        | int j =>
          simp only [gRange1] at q
          split at q
          · rename_i hb
            exact ⟨j, rfl, hb.1, hb.2, q F rho H (Same.refl _) (Pre.refl _) c _ jok_rng⟩
          · exact q.elim
        | _ => exact q.elim
theorem qi_range2 {e2 : Expr} (hm : X.mg "range" = none) (ha : QA X B W [e, e2] fs) (hg : Gl X "range" := by rfl) (hs : starEach [e, e2] X.env = [(false, eval e X.env), (false, eval e2 X.env)] := by rfl) (hs2 : starEach [e2] X.env = [(false, eval e2 X.env)] := by rfl) :
    QI X B W tg (.Call (.Name "range" p) [e, e2] [] pos) (iArgs gRange2 fs) := by
  refine PIimp (pi_range2 hg hm ha hs hs2) fun s H R h => its_of h fun F rho st H x dx c rx q => ?_
  cases rx with
  | nil => exact q.elim
  | cons r t =>
    cases t with
    | nil => cases r with
      | obj _ => exact q.elim
      | val r => cases r <;> exact q.elim
    | cons r2 t2 =>
      cases r with
      | obj _ => exact q.elim
      | val r =>
        cases r with
        | int i =>
          cases r2 with
          | obj _ => exact q.elim
          | val r2 =>
            cases r2 with
            | int j =>
              cases t2 with
              | cons _ _ => exact q.elim
              | nil =>
                simp only [gRange2] at q
                split at q
                · rename_i hb
                  exact ⟨i, j, rfl, hb, q F rho H (Same.refl _) (Pre.refl _) c _ jok_rng⟩
                · exact q.elim
            | _ => exact q.elim
        | _ => exact q.elim
theorem jok_enum {K : PySem.W.Frag} {mg : Str → Option Value} {F : Hp} {rho : List Addr} {a : Addr} {ds : List D} {C : List O → Prop} (hL : ∀ B F1 rho1 st1 H1, Same F F1 → Pre rho rho1 → Core K mg B F1 rho1 st1 H1 → C st1 → ∃ vs, SqL K H1 a vs ∧ Reps K mg F1 vs ds) : JOk K mg F rho (Ite K a) ((enumD 0 ds).map .val, C) := by
  refine ⟨fun B F1 rho1 st1 H1 i e p c hC hi => ?_, fun B F1 rho1 st1 H1 e p c hC => ?_⟩
  · obtain ⟨vs, hs, rs⟩ := hL B F1 rho1 st1 H1 e p c hC
    have hi2 : i < vs.length := by rw [rs.length]; simpa [enumD_length] using hi
    refine ⟨⟨vs, vs[i], hs, List.getElem?_eq_getElem hi2⟩, fun x H' ⟨T, y, ex, hT, eH, hy⟩ => ?_⟩
    subst eH
    subst ex
    refine ⟨upd F1 T (.tup [.int (i : Nat), y]), same_upd (c.same.free hT), c.alloc hT, fun d hd => ?_⟩
    rw [List.getElem?_map] at hd
    obtain ⟨d', h1, rfl⟩ := Option.map_eq_some_iff.mp hd
    obtain ⟨e', h2, rfl⟩ := enumD_get h1
    obtain ⟨v, h3, h4⟩ := rs.get h2
    have h5 := hy vs hs
    rw [h3] at h5; cases h5
    refine .val (.tup (SqT.of upd_same) (.cons ?_ (.cons (h4.mono (same_upd (c.same.free hT))) .nil)))
    rw [Nat.zero_add]
    exact .int _
  · obtain ⟨vs, hs, rs⟩ := hL B F1 rho1 st1 H1 e p c hC
    exact ⟨vs, hs, by rw [rs.length]; simp [enumD_length]⟩
theorem qi_enum {elts : List Expr} {kk : Nat} {tpos : Pos} (hm : X.mg "enumerate" = none) (ha : QA X B W [e] fs) (hg : Gl X "enumerate" := by rfl) (hs : starEach [e] X.env = [(false, eval e X.env)] := by rfl) :
    QI X B W (.Tuple elts kk tpos) (.Call (.Name "enumerate" p) [e] [] pos) (iArgs gEnum fs) := by
  refine PIimp (pi_enum hg hm ha hs) fun s H R h => its_of h fun F rho st H x dx c rx q => ?_
  cases rx with
  | nil => exact q.elim
  | @cons _ d0 _ _ r t =>
    cases t with
    | cons _ _ => exact q.elim
    | nil =>
      simp only [gEnum] at q
      match e1 : lstOf d0 st with
      | none => rw [e1] at q; exact q.elim
      | some ss =>
        rw [e1] at q
        dsimp only at q
        match e2 : datas ss with
        | none => rw [e2] at q; exact q.elim
        | some ds =>
          rw [e2] at q
          obtain ⟨a, vs, rfl, hH, rs⟩ := lst_at c r e1
          refine ⟨a, vs, rfl, SqL.of hH, q F rho H (Same.refl _) (Pre.refl _) c _ (jok_enum fun B F1 r1 st1 H1 e3 p3 c3 hC => ?_)⟩
          obtain ⟨a', vs', ea, hH', rs'⟩ := lst_at c3 (r.mono e3 p3) hC
          cases ea
          exact ⟨vs', SqL.of hH', rs'.datas e2⟩
end
end Cl
namespace Cl
open PySem L2
/-! ### frames that grow by one thing -/
section
variable {K : PySem.W.Frag} {mg : Str → Option Value} {B F : Hp} {rho : List Addr} {st : List O} {H : Hp} {p : Addr}
theorem Core.frameIn {u : HO} (c : Core K mg B F rho st H) (h : H p = none) : Core K mg (upd B p u) F rho st (upd H p u) := by
  have hp : F p = none := c.same.free h
  have c1 := c.junk (u := u) h
  refine ⟨c1.same, same_upd2 c.frame, fun b q => ?_, fun k b e => ?_, c1.nd, c1.len, c1.own, c1.liv, c.tabs.mono (fun b o e _ => by rw [upd_ne (ne_of_none e h)]; exact e) (fun b o e _ z => by rw [upd_ne (ne_of_none e h)]; exact z) fun _ _ _ _ z => z⟩
  · rw [upd_ne (fun z => q (by rw [z]; exact hp))]; exact c.apart b q
  · rw [upd_ne (fun z => c.live k b e (by rw [z]; exact h))]; exact c.off k b e
theorem Core.frameW {u u' : HO} (c : Core K mg (upd B p u) F rho st H) (hu : okO u = true := by rfl) : Core K mg (upd B p u') F rho st (upd H p u') := by
  have hp : F p = none := by
    cases q : F p with
    | none => rfl
    | some o => have := c.apart p (by rw [q]; exact fun z => by cases z); rw [upd_same] at this; cases this
  have off : ∀ (k : Nat) (b : Addr), rho[k]? = some b → b ≠ p := fun k b e z => by
    have := c.off k b e; rw [z, upd_same] at this; cases this
  have notp : ∀ {b : Addr} {o : HO}, H b = some o → okO o = false → b ≠ p := fun {b o} e n z => by
    have e2 := c.frame p u upd_same
    rw [← z, e] at e2; cases e2; rw [n] at hu; cases hu
  refine ⟨same_upd1 c.same hp, ?_, fun b q => ?_, fun k b e => ?_, c.nd, c.len, fun k b o e1 e2 => ?_, fun k b e => ?_, c.tabs.mono (fun b o e n => by rw [upd_ne (notp e n)]; exact e) (fun b o e n z => by rw [upd_ne (notp e n)] at z ⊢; exact z) fun _ _ _ _ z => z⟩
  · intro b o q
    by_cases z : b = p
    · subst z; rw [upd_same] at q ⊢; exact q
    · rw [upd_ne z] at q ⊢; exact c.frame b o (by rw [upd_ne z]; exact q)
  · have nb : b ≠ p := fun z => q (by rw [z]; exact hp)
    have := c.apart b q
    rw [upd_ne nb] at this ⊢; exact this
  · have := c.off k b e
    rw [upd_ne (off k b e)] at this ⊢; exact this
  · exact (c.own k b o e1 e2).mono (Same.refl _) (Pre.refl _) (fun z => z) (fun u z => by rw [upd_ne (off k b e1)]; exact z)
  · rw [upd_ne (off k b e)]; exact c.liv k b e
theorem Core.frameOut {u : HO} (c : Core K mg (upd B p u) F rho st H) (hB : B p = none) : Core K mg B F rho st H := by
  refine ⟨c.same, fun b o q => c.frame b o (by rw [upd_ne (fun z => by rw [z, hB] at q; cases q)]; exact q), fun b q => ?_, fun k b e => ?_, c.nd, c.len, c.own, c.liv, fun P q i => ⟨?_, (c.tabs P q i).2⟩⟩
  · have := c.apart b q
    by_cases z : b = p
    · rw [z]; exact hB
    · rw [upd_ne z] at this; exact this
  · have := c.off k b e
    by_cases z : b = p
    · rw [z]; exact hB
    · rw [upd_ne z] at this; exact this
  · have := (c.tabs P q i).1
    by_cases z : P = p
    · rw [z]; exact hB
    · rw [upd_ne z] at this; exact this
theorem Core.frameAt {u : HO} (c : Core K mg (upd B p u) F rho st H) : H p = some u := c.frame p u upd_same
theorem Core.frameF {u : HO} (c : Core K mg (upd B p u) F rho st H) : F p = none := by
  cases q : F p with
  | none => rfl
  | some o => have := c.apart p (by rw [q]; exact fun z => by cases z); rw [upd_same] at this; cases this
/-- what was framed is frozen -/
theorem Core.frameFrz {u : HO} (c : Core K mg (upd B p u) F rho st H) (hB : B p = none) : Core K mg B (upd F p u) rho st H := by
  have hp := c.frameF
  have c1 := c.frameOut hB
  have off : ∀ (k : Nat) (b : Addr), rho[k]? = some b → b ≠ p := fun k b e z => by
    have := c.off k b e; rw [z, upd_same] at this; cases this
  refine ⟨fun b o q => ?_, c1.frame, fun b q => ?_, c1.off, c1.nd, c1.len, fun k b o e1 e2 => ?_, c1.liv, fun P q i => ⟨(c1.tabs P q i).1, ?_, (c1.tabs P q i).2.2⟩⟩
  · by_cases z : b = p
    · subst z; rw [upd_same] at q; cases q; exact c.frameAt
    · rw [upd_ne z] at q; exact c1.same b o q
  · by_cases z : b = p
    · rw [z]; exact hB
    · rw [upd_ne z] at q; exact c1.apart b q
  · exact (c1.own k b o e1 e2).mono (same_upd hp) (Pre.refl _) (fun z => by rw [upd_ne (off k b e1)]; exact z) (fun u z => z)
  · have np : P ≠ p := fun z => by have := (c.tabs P q i).1; rw [z, upd_same] at this; cases this
    rw [upd_ne np]; exact (c1.tabs P q i).2.1
/-- .. is an object of the store -/
theorem Core.frameObj {u : HO} {o : O} (c : Core K mg (upd B p u) F rho st H) (hB : B p = none) (ho : ORep K mg F (rho ++ [p]) H p o) (hu : okO u = true := by rfl) : Core K mg B F (rho ++ [p]) (st ++ [o]) H := by
  have hp := c.frameF
  have c1 := c.frameOut hB
  have np : ∀ (k : Nat) (b : Addr), rho[k]? = some b → b ≠ p := fun k b e z => by
    have := c.off k b e; rw [z, upd_same] at this; cases this
  have at_ : ∀ (k : Nat) (b : Addr), (rho ++ [p])[k]? = some b → (k < rho.length ∧ rho[k]? = some b) ∨ (k = rho.length ∧ b = p) := fun k b e => by
    by_cases hk : k < rho.length
    · rw [List.getElem?_append_left hk] at e; exact .inl ⟨hk, e⟩
    · have hk' : k = rho.length := by
        have := (List.getElem?_eq_some_iff.mp e).1
        rw [List.length_append] at this; simp at this; omega
      subst hk'
      rw [List.getElem?_append_right (Nat.le_refl _), Nat.sub_self] at e
      cases e
      exact .inr ⟨rfl, rfl⟩
  refine ⟨c1.same, c1.frame, c1.apart, fun k b e => ?_, ?_, ?_, fun k b q e1 e2 => ?_, fun k b e => ?_, c1.tabs⟩
  · rcases at_ k b e with ⟨_, e⟩ | ⟨_, rfl⟩
    · exact c1.off k b e
    · exact hB
  · refine List.nodup_append.mpr ⟨c1.nd, by simp, fun x hx y hy => ?_⟩
    obtain ⟨k, hk⟩ := List.getElem?_of_mem hx
    have : y = p := by simpa using hy
    rw [this]; exact np k x hk
  · rw [List.length_append, List.length_append, c1.len]; rfl
  · rcases at_ k b e1 with ⟨hk, e⟩ | ⟨rfl, rfl⟩
    · rw [List.getElem?_append_left (by rw [← c1.len]; exact hk)] at e2
      exact (c1.own k b q e e2).mono (Same.refl _) (Pre.app _ _) (fun z => z) (fun u z => z)
    · rw [c1.len, List.getElem?_append_right (Nat.le_refl _), Nat.sub_self] at e2
      cases e2
      exact ho
  · rcases at_ k b e with ⟨_, e⟩ | ⟨_, rfl⟩
    · exact c1.liv k b e
    · exact ⟨u, c.frameAt, hu⟩
end
/-! ### slots of a comprehension -/
@[simp] def wipeS (sl : Sl) : List Nat → Sl
  | [] => sl
  | v :: vs => (wipeS sl vs).set v none
theorem wipe_get (s : St) (vs : List Nat) (j : Nat) : (wipe s vs)[j]? = if j ∈ vs ∧ j < s.length then some none else s[j]? := by
  induction vs with
  | nil => simp [wipe]
  | cons v vs ih =>
    unfold wipe
    by_cases hj : j = v
    · subst hj
      by_cases hl : j < s.length
      · rw [List.getElem?_set_self (by rw [wipe_length]; exact hl), if_pos ⟨List.mem_cons_self, hl⟩]
      · rw [if_neg (fun z => hl z.2), List.getElem?_eq_none (by rw [List.length_set, wipe_length]; omega), List.getElem?_eq_none (by omega)]
    · rw [List.getElem?_set_ne (Ne.symm hj), ih]
      simp [hj]
theorem wipeS_length (s : Sl) (vs : List Nat) : (wipeS s vs).length = s.length := by
  induction vs with
  | nil => rfl
  | cons v vs ih => unfold wipeS; rw [List.length_set, ih]
theorem wipeS_get (s : Sl) (vs : List Nat) (j : Nat) : (wipeS s vs)[j]? = if j ∈ vs ∧ j < s.length then some none else s[j]? := by
  induction vs with
  | nil => simp [wipeS]
  | cons v vs ih =>
    unfold wipeS
    by_cases hj : j = v
    · subst hj
      by_cases hl : j < s.length
      · rw [List.getElem?_set_self (by rw [wipeS_length]; exact hl), if_pos ⟨List.mem_cons_self, hl⟩]
      · rw [if_neg (fun z => hl z.2), List.getElem?_eq_none (by rw [List.length_set, wipeS_length]; omega), List.getElem?_eq_none (by omega)]
    · rw [List.getElem?_set_ne (Ne.symm hj), ih]
      simp [hj]
theorem wipe_set (s : St) {vs : List Nat} {i : Nat} (hi : i ∈ vs) (x : Option V) : wipe (s.set i x) vs = wipe s vs := by
  apply List.ext_getElem?
  intro j
  rw [wipe_get, wipe_get, List.length_set]
  by_cases h : j ∈ vs ∧ j < s.length
  · rw [if_pos h, if_pos h]
  · rw [if_neg h, if_neg h]
    by_cases hj : j = i
    · subst hj
      have : ¬ j < s.length := fun z => h ⟨hi, z⟩
      rw [List.getElem?_eq_none (by rw [List.length_set]; omega), List.getElem?_eq_none (by omega)]
    · rw [List.getElem?_set_ne (Ne.symm hj)]
theorem Slots.wipe {K : PySem.W.Frag} {mg : Str → Option Value} {F : Hp} {rho : List Addr} {s : St} {sl : Sl} (S' : Slots K mg F rho s sl) (vs : List Nat) : Slots K mg F rho (L2.wipe s vs) (wipeS sl vs) := by
  refine ⟨by rw [wipe_length, wipeS_length, S'.len], fun j d q => ?_⟩
  rw [wipeS_get] at q
  rw [wipe_get]
  by_cases h : j ∈ vs ∧ j < sl.length
  · rw [if_pos h] at q; cases q
  · rw [if_neg h] at q
    rw [S'.len, if_neg h]
    exact S'.get j d q
/-- a comprehension's target: it stores in its own slots alone -/
structure CG (K : PySem.W.Frag) (mg : Str → Option Value) (vs : List Nat) (t : TG) (g : MG) : Prop where
  run : ∀ (B F : Hp) (rho : List Addr) (st : List O) (H : Hp) (v : V) (d : S) (s : St) (sl sl' : Sl) (st' : List O) (Q : St → Hp → Prop), Core K mg B F rho st H → Slots K mg F rho s sl → RepS K mg F rho v d → g d sl st = some (sl', st') →
    (∀ s', Slots K mg F rho s' sl' → L2.wipe s' vs = L2.wipe s vs → Q s' H) → t v s H Q
  stay : ∀ d sl st sl' st', g d sl st = some (sl', st') → st' = st
structure CGs (K : PySem.W.Frag) (mg : Str → Option Value) (vs : List Nat) (t : TGs) (g : MGs) : Prop where
  run : ∀ (B F : Hp) (rho : List Addr) (st : List O) (H : Hp) (us : List V) (ds : List S) (s : St) (sl sl' : Sl) (st' : List O) (Q : St → Hp → Prop), Core K mg B F rho st H → Slots K mg F rho s sl → RepSs K mg F rho us ds → g ds sl st = some (sl', st') →
    (∀ s', Slots K mg F rho s' sl' → L2.wipe s' vs = L2.wipe s vs → Q s' H) → t us s H Q
  stay : ∀ ds sl st sl' st', g ds sl st = some (sl', st') → st' = st
section
variable {K : PySem.W.Frag} {mg : Str → Option Value} {vs : List Nat}
theorem cg_name {i : Nat} (hi : i ∈ vs) : CG K mg vs (gName i) (tgName i) := by
  refine ⟨fun B F rho st H v d s sl sl' st' Q c S' r e h => ?_, fun d sl st sl' st' e => by cases e; rfl⟩
  cases e
  exact h _ (S'.set r i) (wipe_set s hi _)
theorem cgs_nil : CGs K mg vs gNil tgNil := by
  refine ⟨fun B F rho st H us ds s sl sl' st' Q c S' r e h => ?_, fun ds sl st sl' st' e => ?_⟩
  · cases r with
    | nil => cases e; exact ⟨rfl, h _ S' rfl⟩
    | cons _ _ => cases e
  · cases ds with
    | nil => cases e; rfl
    | cons _ _ => cases e
theorem cgs_cons {t : TG} {g : MG} {ts : TGs} {gs : MGs} (h1 : CG K mg vs t g) (h2 : CGs K mg vs ts gs) : CGs K mg vs (gCons t ts) (tgCons g gs) := by
  refine ⟨fun B F rho st H us ds s sl sl' st' Q c S' r e h => ?_, fun ds sl st sl' st' e => ?_⟩
  · cases r with
    | nil => cases e
    | @cons v d us ds r rs =>
      unfold tgCons at e
      dsimp only at e
      match q : g (rsvS d st) sl st with
      | none => rw [q] at e; cases e
      | some (sl1, st1) =>
        rw [q] at e
        dsimp only at e
        have := h1.stay _ _ _ _ _ q
        subst this
        refine ⟨v, us, rfl, h1.run B F rho _ H v _ s sl sl1 _ _ c S' (rsv_ok c r) q fun s1 S1 w1 => ?_⟩
        exact h2.run B F rho _ H us ds s1 sl1 sl' st' Q c S1 rs e fun s2 S2 w2 => h s2 S2 (w2.trans w1)
  · cases ds with
    | nil => cases e
    | cons d ds =>
      unfold tgCons at e
      dsimp only at e
      match q : g (rsvS d st) sl st with
      | none => rw [q] at e; cases e
      | some (sl1, st1) =>
        rw [q] at e
        exact (h2.stay _ _ _ _ _ e).trans (h1.stay _ _ _ _ _ q)
theorem cg_tup {n : Nat} {ts : TGs} {gs : MGs} (h : CGs K mg vs ts gs) : CG K mg vs (L2.gTup K n ts) (tgTup n gs) := by
  refine ⟨fun B F rho st H v d s sl sl' st' Q c S' r e k => ?_, fun d sl st sl' st' e => ?_⟩
  · unfold tgTup at e
    split at e
    · rename_i ds
      split at e
      · rename_i hl
        cases r with
        | val r => cases r with
          | tup a b => exact ⟨_, _, rfl, SqT_mono c.same a, by rw [b.length]; exact hl, h.run B F rho st H _ _ s sl sl' st' Q c S' b.vals e k⟩
      · cases e
    · cases e
  · unfold tgTup at e
    split at e
    · split at e
      · exact h.stay _ _ _ _ _ e
      · cases e
    · cases e
end
/-! ### list comprehensions -/
open Classical in
/-- the turns: what is made so far, the slots at each turn's start -/
noncomputable def lcL (C : List O → Prop) (g : MG) (t : MT) (e : ME) (sl : Sl) : List S → List D → List O → Option (List D × List O)
  | [], acc, st => if C st then some (acc, st) else none
  | d :: ds, acc, st => if C st then (match g d sl st with
    | none => none
    | some (sl1, st1) => match t sl1 st1 with
      | some (.ok false, st2) => lcL C g t e sl ds acc st2
      | some (.ok true, st2) => (match (e sl1).bind toD st2 with
        | some (.ok y, st3) => if acc.length < sizeLine then lcL C g t e sl ds (acc ++ [y]) st3 else none
        | _ => none)
      | _ => none) else none
@[simp] noncomputable def eLc (vs : List Nat) (fi : MI) (g : MG) (t : MT) (e : ME) : ME := fun sl => (fi sl).bind fun w => fun st => (lcL w.2 g t e (wipeS sl vs) w.1 [] st).map fun r => (.ok (.val (.lst r.1)), r.2)
@[simp] def tTrue : MT := fun _ => M.pure true
abbrev W0 : WX := fun _ _ _ _ => False
section
variable {K : PySem.W.Frag} {mg : Str → Option Value} {B : Hp} {W : WX}
/-- the reading of a comprehension that makes data -/
theorem lc_data {fi : MI} {g : MG} {t : MT} {e : ME} {vs : List Nat} {tg : TG} {s : St} {H : Hp} {Q : VK} (cg : CG K mg vs tg g) (h : tE K mg B W (eLc vs fi g t e) s H Q) :
    tLc (tI K mg B W fi) tg (fun s H Q => ∃ B, tT K mg B W0 t s H Q) (fun s H Q => ∃ B, tE K mg B W0 e s H Q) vs s H Q := by
  obtain ⟨F, rho, sl, st, c, S', h⟩ := h
  refine ⟨F, rho, sl, st, c, S', h.bind.mono (Same.refl _) (Pre.refl _) (fun F1 r1 H1 w e1 p1 h1 J hJ => ?_) fun _ _ _ z => z⟩
  obtain ⟨st1, c1, _, _, h1⟩ := h1
  intro D hD
  have hB : B D = none := c1.frame.free hD
  have S1 := (S'.mono e1 p1).wipe vs
  -- the end that is wanted
  let Fin : Hp → List Addr → Option (List Cl.D × List O) → Prop := fun F2 r2 m => Post K mg B (fun F' rho' H' d => ∀ v, RepS K mg F' rho' v d → Q v H') (fun c d H' => W c d s H') F2 r2 (m.map fun r => (.ok (.val (.lst r.1)), r.2))
  have Finm : ∀ {F2 r2 F3 r3 m}, Fin F2 r2 m → Same F2 F3 → Pre r2 r3 → Fin F3 r3 m := fun {F2 r2 F3 r3 m} z e p => Post.mono z e p (fun _ _ _ _ _ _ y => y) (fun _ _ _ y => y)
  refine ⟨fun i m H' => i + m = w.1.length ∧ ∃ F2 r2 st2 acc accV, Same F1 F2 ∧ Pre r1 r2 ∧ Core K mg (upd B D (.lst accV)) F2 r2 st2 H' ∧ Reps K mg F2 accV acc ∧ Fin F2 r2 (lcL w.2 g t e (wipeS sl vs) (w.1.drop i) acc st2),
    ⟨w.1.length, by omega, F1, r1, st1, [], [], Same.refl _, Pre.refl _, c1.frameIn hD, .nil, h1⟩, ?_⟩
  rintro i m H2 ⟨hm, F2, r2, st2, acc, accV, e2, p2, c2, ra, h2⟩
  by_cases hi : i < w.1.length
  · right
    have hd : w.1.drop i = w.1[i] :: w.1.drop (i + 1) := List.drop_eq_getElem_cons hi
    rw [hd, lcL] at h2
    split at h2
    · rename_i hC
      obtain ⟨j1, j2⟩ := hJ.go _ F2 r2 st2 H2 i e2 p2 c2 hC hi
      refine ⟨j1, fun H' => i + 1 + (m - 1) = w.1.length ∧ ∃ F2 r2 st2 acc accV, Same F1 F2 ∧ Pre r1 r2 ∧ Core K mg (upd B D (.lst accV)) F2 r2 st2 H' ∧ Reps K mg F2 accV acc ∧ Fin F2 r2 (lcL w.2 g t e (wipeS sl vs) (w.1.drop (i + 1)) acc st2),
        fun H' z => ⟨m - 1, by omega, z⟩, fun x H' hy => ?_⟩
      obtain ⟨F3, e3, c3, r3⟩ := j2 x H' hy
      match q : g w.1[i] (wipeS sl vs) st2 with
      | none => rw [q] at h2; exact h2.elim
      | some (sl3, st3) =>
        rw [q] at h2
        dsimp only at h2
        have est := cg.stay _ _ _ _ _ q
        subst est
        refine cg.run _ F3 r2 _ H' x _ (L2.wipe s vs) (wipeS sl vs) sl3 _ _ c3 (S1.mono (e2.trans e3) p2) (r3 _ (List.getElem?_eq_getElem hi)) q fun s4 S4 w4 => ?_
        have ww : L2.wipe (L2.wipe s vs) vs = L2.wipe s vs := by
          apply List.ext_getElem?
          intro j
          rw [wipe_get, wipe_get, wipe_length]
          by_cases z : j ∈ vs ∧ j < s.length
          · rw [if_pos z, if_pos z]
          · rw [if_neg z]
        refine ⟨w4.trans ww, upd B D (.lst accV), F3, r2, sl3, _, c3, S4, ?_⟩
        match q2 : t sl3 st3 with
        | none => rw [q2] at h2; exact h2.elim
        | some (.error z, st4) => rw [q2] at h2; exact h2.elim
        | some (.ok false, st4) =>
          rw [q2] at h2
          intro F4 r4 H4 e4 p4 c4
          refine iteF ⟨by omega, F4, r4, st4, acc, accV, (e2.trans e3).trans e4, p2.trans p4, c4, ra.mono (e3.trans e4), Finm h2 (e3.trans e4) p4⟩
        | some (.ok true, st4) =>
          rw [q2] at h2
          dsimp only at h2
          intro F4 r4 H4 e4 p4 c4
          refine iteT ⟨upd B D (.lst accV), F4, r4, sl3, st4, c4, S4.mono e4 p4, ?_⟩
          -- the element
          have S4' := S4.mono e4 p4
          match q3 : e sl3 st4 with
          | none => simp only [M.bind, q3] at h2; exact h2.elim
          | some (.error z, st5) => simp only [M.bind, q3] at h2; exact h2.elim
          | some (.ok y, st5) =>
            simp only [M.bind, q3] at h2
            intro F5 r5 H5 e5 p5 c5 v rv
            match q4 : toD y st5 with
            | none => rw [q4] at h2; exact h2.elim
            | some (.error z, st6) => rw [q4] at h2; exact h2.elim
            | some (.ok dy, st6) =>
              rw [q4] at h2
              dsimp only at h2
              split at h2
              · rename_i hz
                have hp : Post K mg (upd B D (.lst accV)) (fun _ _ _ _ => True) (fun _ _ _ => True) F5 r5 (toD y st5) := by rw [q4]; exact fun _ _ _ _ _ _ => trivial
                obtain ⟨F6, st6', d6, e6, c6, r6, _, q6⟩ := toD_ok c5 rv hp
                rw [q4] at q6
                cases q6
                have ee := ((e3.trans e4).trans e5).trans e6
                refine ⟨accV, c6.frameAt, by rw [ra.length]; exact hz, by omega, F6, r5, _, acc ++ [_], accV ++ [v], (e2.trans ee), (p2.trans p4).trans p5, c6.frameW, (ra.mono ee).append (.cons r6 .nil), Finm h2 ee (p4.trans p5)⟩
              · exact h2.elim
    · exact h2.elim
  · left
    have hi2 : i = w.1.length := by omega
    subst hi2
    rw [List.drop_length, lcL] at h2
    split at h2
    · rename_i hC
      refine ⟨hJ.stop _ F2 r2 st2 H2 e2 p2 c2 hC, ?_⟩
      exact h2 (upd F2 D (.lst accV)) r2 H2 (same_upd c2.frameF) (Pre.refl _) (c2.frameFrz hB) _ (.val (.lst upd_same (ra.mono (same_upd c2.frameF))))
    · exact h2.elim
end
end Cl
namespace Cl
open PySem L2
section
variable {X : Cx} {B : Hp} {W : WX} {elt tg iter : Expr} {ifs : List Expr} {scope : Scope} {own : List (Str × Nat)} {pos : Pos} {fi : MI} {g : MG} {t : TG} {ft : MT} {fe : ME}
theorem PTs_ex {X : Cx} {W : WX} {ifs : List Expr} {ft : MT} (h : ∀ B, PTs X ifs (tT X.K X.mg B W ft)) : PTs X ifs (fun s H Q => ∃ B, tT X.K X.mg B W ft s H Q) := ⟨fun pins s σ H Q I ⟨B, q⟩ => (h B).run pins s σ H Q I q⟩
theorem PE_ex {X : Cx} {W : WX} {e : Expr} {fe : ME} (h : ∀ B, QE X B W e fe) : PE X e (fun s H Q => ∃ B, tE X.K X.mg B W fe s H Q) := ⟨fun pins s σ H Q I ⟨B, q⟩ => (h B).run pins s σ H Q I q⟩
abbrev QTs (X : Cx) (B : Hp) (W : WX) (ifs : List Expr) (f : MT) : Prop := PTs X ifs (tT X.K X.mg B W f)
theorem PTsimp {X : Cx} {ifs : List Expr} {t t' : TT} (h : PTs X ifs t) (i : ∀ s H Q, t' s H Q → t s H Q) : PTs X ifs t' := ⟨fun pins s σ H Q I q => h.run pins s σ H Q I (i _ _ _ q)⟩
theorem qts_nil {X : Cx} : QTs X B W [] tTrue := PTsimp pts_nil fun s H Q ⟨F, rho, sl, st, c, S', h⟩ => h.done c
theorem qts_one {X : Cx} {c : Expr} (h : QT X B W c ft) : QTs X B W [c] ft := pts_one h
theorem qe_lc (hc : X.calm = true) (hN : X.N.Nodup) (hi : QI X B W tg iter fi) (ok : BlkOk X.N X.env.scope scope own) (cg : CG X.K X.mg (own.map (·.2)) t g)
    (hg : ∀ (s : Shared) (H : Hp) (C : Addr) (cl : List (Str × Addr)) (fp : List Addr), PG (X.blk s H scope (compEnvC scope cl C X.env) fp) tg t)
    (ht : ∀ (B : Hp) (s : Shared) (H : Hp) (C : Addr) (cl : List (Str × Addr)) (fp : List Addr), QTs (X.blk s H scope (compEnvC scope cl C X.env) fp) B W0 ifs ft)
    (he : ∀ (B : Hp) (s : Shared) (H : Hp) (C : Addr) (cl : List (Str × Addr)) (fp : List Addr), QE (X.blk s H scope (compEnvC scope cl C X.env) fp) B W0 elt fe) (hs : ∀ x, foldedSetIterable iter X.env x = pure x := by intro _; rfl) :
    QE X B W (.ListComp elt [⟨tg, iter, ifs, 0⟩] scope pos) (eLc (own.map (·.2)) fi g ft fe) :=
  PEimp (pe_lc hc hN hi ok hg (fun s H C cl fp => PTs_ex fun B => ht B s H C cl fp) (fun s H C cl fp => PE_ex fun B => he B s H C cl fp) hs) fun s H Q q => lc_data cg q
theorem qs_setLc {i : Nat} {y : Str} {py spos : Pos} (hc : X.calm = true) (hN : X.N.Nodup) (hi : QI X B W tg iter fi) (ok : BlkOk X.N X.env.scope scope own) (cg : CG X.K X.mg (own.map (·.2)) t g)
    (hg : ∀ (s : Shared) (H : Hp) (C : Addr) (cl : List (Str × Addr)) (fp : List Addr), PG (X.blk s H scope (compEnvC scope cl C X.env) fp) tg t)
    (ht : ∀ (B : Hp) (s : Shared) (H : Hp) (C : Addr) (cl : List (Str × Addr)) (fp : List Addr), QTs (X.blk s H scope (compEnvC scope cl C X.env) fp) B W0 ifs ft)
    (he : ∀ (B : Hp) (s : Shared) (H : Hp) (C : Addr) (cl : List (Str × Addr)) (fp : List Addr), QE (X.blk s H scope (compEnvC scope cl C X.env) fp) B W0 elt fe)
    (hsw : swapsWith (.ListComp elt [⟨tg, iter, ifs, 0⟩] scope pos) (some (.Name y py)) spos.line X.env = pure true)
    (hy : X.N[i]? = some y := by rfl) (hyl : X.env.scope.names.lookup y = some .local := by rfl) (hs : ∀ x, foldedSetIterable iter X.env x = pure x := by intro _; rfl) :
    QS X B W (.Assign [.Name y py] (.ListComp elt [⟨tg, iter, ifs, 0⟩] scope pos) spos) (sSet i (eLc (own.map (·.2)) fi g ft fe)) :=
  PSimp (ps_setLc hc hN hy hyl hsw hi ok hg (fun s H C cl fp => PTs_ex fun B => ht B s H C cl fp) (fun s H C cl fp => PE_ex fun B => he B s H C cl fp) hs) fun N s H h => lc_data cg (stm_of h fun F rho sl st H v d c S' r p => p.nx c (S'.set r i))
end
/-! ### op= -/
def IpS (K : PySem.W.Frag) (mg : Str → Option Value) (r : TIp) (g : S → S → M S) : Prop := OpS K mg r g
@[simp] def sAug (i : Nat) (g : S → S → M S) (e : ME) : MS := fun sl st => match sl[i]? with
  | some (some x) => sBind (fun sl => (e sl).bind fun y => g (rsvS x st) y) (fun d sl st => some (.nx, sl.set i (some d), st)) sl st
  | _ => none
abbrev gAddI := gI (fun _ _ => true) fun i j => .int (i + j)
section
variable {K : PySem.W.Frag} {mg : Str → Option Value}
theorem is_add : IpS K mg (ipI fun i j => i + j) gAddI := fun W B F rho st H x y dx dy Q c rx ry h => os_I0 (g := fun i j => .int (i + j)) (fun _ _ _ => .int _) W B F rho st H x y dx dy Q c rx ry h
theorem is_sub : IpS K mg (ipI fun i j => i - j) gSub := fun W B F rho st H x y dx dy Q c rx ry h => os_I0 (g := fun i j => .int (i - j)) (fun _ _ _ => .int _) W B F rho st H x y dx dy Q c rx ry h
end
section
variable {X : Cx} {B : Hp} {W : WX} {e o : Expr} {fe fo : ME} {g : S → S → M S} {op : Operator} {ti : TIp} {pos pos' : Pos}
theorem qs_aug {i : Nat} {x : Str} (hN : X.N.Nodup) (ho : PIp X op ti) (hg : IpS X.K X.mg ti g) (he : QE X B W e fe) (hi : X.N[i]? = some x := by rfl) (hx : Loc X.env.scope x := by first | exact Or.inl rfl | exact Or.inr rfl) (hf : X.fn x = true ∨ X.env.scope.names.lookup x = some .local := by first | exact .inl rfl | exact .inr rfl | assumption) :
    QS X B W (.AugAssign (.Name x pos') op e pos) (sAug i g fe) := by
  refine PSimp (ps_aug hN hi hx he ho hf) fun N s H h => ?_
  obtain ⟨F, rho, sl, st, c, S', h⟩ := h
  unfold sAug at h
  match q : sl[i]? with
  | none => rw [q] at h; exact h.elim
  | some none => rw [q] at h; exact h.elim
  | some (some d) =>
    rw [q] at h
    dsimp only at h
    obtain ⟨v, hv, rv⟩ := S'.get i d q
    have rv := rsv_ok c rv
    refine ⟨v, hv, F, rho, sl, st, c, S', (PostS.bind S' h).bind.mono (Same.refl _) (Pre.refl _) (fun F1 r1 H1 dy e1 p1 h1 y ry => ?_) fun _ _ _ z => z⟩
    obtain ⟨st1, c1, _, _, h1⟩ := h1
    refine hg _ B F1 r1 st1 H1 v y _ dy _ c1 (rv.mono e1 p1) ry (h1.mono (Same.refl _) (Pre.refl _) (fun F2 r2 H2 d2 e2 p2 h2 z rz => ?_) fun _ _ _ z => z)
    obtain ⟨st2, c2, _, _, h2⟩ := h2
    exact h2.nx c2 ((S'.mono (e1.trans e2) (p1.trans p2)).set rz i)
/-- o.f op= e, o of the store -/
@[simp] def sFldAug (ns : List Str) (f : Str) (g : S → S → M S) (o v : ME) : MS := sBind o fun x => fun sl st => match x with
  | .obj k => match st[k]? with
    | some (.ins n fs) => if n ∈ ns ∧ fs.length < 1000 then (match fs.lookup f with
      | some d => sBind (fun sl => (v sl).bind fun y => g (rsvS d st) y) (fun z sl st' => match st'[k]? with
        | some (.ins n' fs') => if n' = n ∧ fs'.length < 1000 then some (.nx, sl, st'.set k (.ins n' (putD f z fs'))) else none
        | _ => none) sl st
      | none => none) else none
    | _ => none
  | _ => none
theorem qs_fldaug {f : Str} {ns : List Str} {value : Expr} {fv : ME} {tpos : Pos} (hc : ClsF X.K X.mg ns f) (hop : InOp X op ti) (hg : IpS X.K X.mg ti g) (ho : QE X B W o fo) (hv : QE X B W value fv) : QS X B W (.AugAssign (.Attribute o f tpos) op value pos) (sFldAug ns f g fo fv) := by
  refine PSimp (ps_fldaug ho hv hop) fun N s H h => stm_of h fun F rho sl st H x dx c S' rx p => ?_
  cases rx with
  | val _ => exact p.elim
  | @obj k a q =>
    dsimp only at p
    match e : st[k]? with
    | some (.ins n fs) =>
      rw [e] at p
      dsimp only at p
      split at p
      · rename_i hn
        match e2 : fs.lookup f with
        | none => rw [e2] at p; exact p.elim
        | some d =>
          rw [e2] at p
          dsimp only at p
          obtain ⟨hF, C, dx, fvs, hm, hH, rf⟩ := c.own k a _ q e
          obtain ⟨v, hv', rv⟩ := rf.lookup e2
          have rv := rsv_ok c rv
          refine ⟨a, C, dx, fvs, v, rfl, hH, (hc n hn.1 C hm).1, (hc n hn.1 C hm).2, hv', F, rho, sl, st, c, S', (PostS.bind S' p).bind.mono (Same.refl _) (Pre.refl _) (fun F1 r1 H1 dy e1 p1 h1 y ry => ?_) fun _ _ _ z => z⟩
          obtain ⟨st1, c1, _, _, h1⟩ := h1
          refine hg _ B F1 r1 st1 H1 v y _ dy _ c1 (rv.mono e1 p1) ry (h1.mono (Same.refl _) (Pre.refl _) (fun F2 r2 H2 d2 e3 p3 h2 z rz => ?_) fun _ _ _ z => z)
          obtain ⟨st2, c2, _, _, h2⟩ := h2
          match e4 : st2[k]? with
          | some (.ins n' fs') =>
            rw [e4] at h2
            dsimp only at h2
            split at h2
            · rename_i hn'
              have q2 := p3 _ _ (p1 _ _ q)
              obtain ⟨hF', C', dx', fvs', hm', hH', rf'⟩ := c2.own k a _ q2 e4
              rw [hn'.1, hm] at hm'
              cases hm'
              refine ⟨dx', fvs', hH', by rw [rf'.length]; exact hn'.2, ?_⟩
              exact h2.nx (c2.write q2 hF' ⟨hF', C, dx', _, by rw [hn'.1]; exact hm, upd_same, putD_rep rz rf'⟩) (S'.mono (e1.trans e3) (p1.trans p3))
            · exact h2.elim
          | some (.frz _) => rw [e4] at h2; exact h2.elim
          | some (.lst _) => rw [e4] at h2; exact h2.elim
          | some (.dct _) => rw [e4] at h2; exact h2.elim
          | none => rw [e4] at h2; exact h2.elim
      · exact p.elim
    | some (.frz _) => rw [e] at p; exact p.elim
    | some (.lst _) => rw [e] at p; exact p.elim
    | some (.dct _) => rw [e] at p; exact p.elim
    | none => rw [e] at p; exact p.elim
end
/-! ### o[i] = v, o a list of the store -/
def gSetL (x y z : S) : List O → Option (List O) := fun st => match x, y with
  | .obj k, .val (.int i) => match st[k]? with
    | some (.lst ss) => match ixN ss.length i with
      | some j => some (st.set k (.lst (ss.set j z)))
      | none => none
    | _ => none
  | _, _ => none
theorem setL_ok {K : PySem.W.Frag} {mg : Str → Option Value} {B F : Hp} {rho : List Addr} {st st' : List O} {H : Hp} {x y z : V} {dx dy dz : S} {Q : Hp → Prop} (c : Core K mg B F rho st H) (rx : RepS K mg F rho x dx) (ry : RepS K mg F rho y dy) (rz : RepS K mg F rho z dz)
    (h : gSetL dx dy dz st = some st') (k : ∀ H', Core K mg B F rho st' H' → Q H') : rSetL x y z H Q := by
  cases rx with
  | val _ => cases h
  | @obj n a q =>
    cases ry with
    | obj _ => cases h
    | val ry =>
      cases ry with
      | int i =>
        simp only [gSetL] at h
        match e : st[n]? with
        | some (.lst ss) =>
          rw [e] at h
          dsimp only at h
          match e2 : ixN ss.length i with
          | none => rw [e2] at h; cases h
          | some j =>
            rw [e2] at h
            cases h
            obtain ⟨hF, vs, hH, rs⟩ := c.own n a _ q e
            exact ⟨a, vs, i, j, rfl, rfl, hH, by rw [rs.length]; exact e2, k _ (c.write q hF ⟨hF, _, upd_same, rs.set rz j⟩)⟩
        | some (.frz _) => rw [e] at h; cases h
        | some (.ins _ _) => rw [e] at h; cases h
        | some (.dct _) => rw [e] at h; cases h
        | none => rw [e] at h; cases h
      | _ => cases h
@[simp] def sSetItem (o i v : ME) : MS := sBind (fun sl => (v sl).bind fun z => (o sl).bind fun x => (i sl).bind fun y => fun st => (gSetL x y z st).map fun st' => (.ok (), st')) fun _ => sNext
section
variable {X : Cx} {B : Hp} {W : WX} {o i e : Expr} {fo fi fe : ME} {pos pos' : Pos}
theorem qs_setItem (ho : QE X B W o fo) (hi : QE X B W i fi) (he : QE X B W e fe) (hs : swapsWithSole [.Subscript o i pos'] e pos.line X.env = pure false := by rfl) (hw : swappedStores [.Subscript o i pos'] e X.env = pure none := by rfl)
    (h1 : (assignEach [.Subscript o i pos'] X.env).map (·.2) = [assign (.Subscript o i pos') X.env] := by rfl)
    (ha : ∀ v, assign (.Subscript o i pos') X.env v = (do
      let ov ← holding [v] (eval o X.env)
      let iv ← holding [v, ov] (eval i X.env)
      standAt pos'
      holding [v, ov, iv] (setItem ov iv v)
      release [v, ov, iv] []) := by intro _; rfl) : QS X B W (.Assign [.Subscript o i pos'] e pos) (sSetItem fo fi fe) := by
  refine PSimp (ps_asg he (pg_sub ho hi set_list ha) hs hw h1) fun N s H h => ?_
  obtain ⟨F, rho, sl, st, c, S', h⟩ := h
  refine ⟨F, rho, sl, st, c, S', (PostS.bind S' h).bind.mono (Same.refl _) (Pre.refl _) (fun F1 r1 H1 dz e1 p1 h1 z rz => ?_) fun _ _ _ z => z⟩
  obtain ⟨st1, c1, _, _, h1⟩ := h1
  refine ⟨F1, r1, sl, st1, c1, S'.mono e1 p1, h1.bind.mono (Same.refl _) (Pre.refl _) (fun F2 r2 H2 dx e2 p2 h2 x rx => ?_) fun _ _ _ z => z⟩
  obtain ⟨st2, c2, _, _, h2⟩ := h2
  refine ⟨F2, r2, sl, st2, c2, S'.mono (e1.trans e2) (p1.trans p2), h2.bind.mono (Same.refl _) (Pre.refl _) (fun F3 r3 H3 dy e3 p3 h3 y ry => ?_) fun _ _ _ z => z⟩
  obtain ⟨st3, c3, _, _, h3⟩ := h3
  match q : gSetL dx dy dz st3 with
  | none => rw [q] at h3; exact h3.elim
  | some st4 =>
    rw [q] at h3
    refine setL_ok c3 (rx.mono e3 p3) ry (rz.mono (e2.trans e3) (p2.trans p3)) q fun H' c4 => ?_
    obtain ⟨st5, c5, _, _, h5⟩ := h3 F3 r3 H' (Same.refl _) (Pre.refl _) c4
    exact h5.nx c5 (S'.mono ((e1.trans e2).trans e3) ((p1.trans p2).trans p3))
end
/-! ### methods of built-in types -/
def MtS (K : PySem.W.Frag) (mg : Str → Option Value) (r : V → List V → Hp → VK → Prop) (g : S → List S → M S) : Prop :=
  ∀ (W : Value → Option Addr → Hp → Prop) (B F : Hp) (rho : List Addr) (st : List O) (H : Hp) (x : V) (vs : List V) (dx : S) (ds : List S) (Q : VK), Core K mg B F rho st H → RepS K mg F rho x dx → RepSs K mg F rho vs ds →
    Post K mg B (fun F' rho' H' d => ∀ v, RepS K mg F' rho' v d → Q v H') W F rho (g dx ds st) → r x vs H Q
@[simp] def chkT (T : String) (x : S) : M Unit := fun st => match x with
  | .val (.str _) => if T = "str" then some (.ok (), st) else none
  | x => match lstOf x st with
    | some _ => if T = "list" then some (.ok (), st) else none
    | none => none
@[simp] def eBM (T : String) (g : S → List S → M S) (o : ME) (fs : MA) : ME := fun sl => (o sl).bind fun x => (chkT T x).bind fun _ => (fs sl).bind fun ss => g x ss
theorem chkT_ok {K : PySem.W.Frag} {mg : Str → Option Value} {B F : Hp} {rho : List Addr} {st st' : List O} {H : Hp} {x : V} {dx : S} {T : String} {r : Except XD Unit} (c : Core K mg B F rho st H) (rx : RepS K mg F rho x dx) (h : chkT T dx st = some (r, st')) : tyV K T x H ∧ st' = st ∧ r = .ok () := by
  unfold chkT at h
  split at h
  · cases rx with
    | val rx =>
      cases rx
      split at h
      · rename_i e; cases h; exact ⟨e, rfl, rfl⟩
      · cases h
  · match e : lstOf dx st with
    | none => rw [e] at h; cases h
    | some l =>
      rw [e] at h
      dsimp only at h
      split at h
      · rename_i eT
        cases h
        obtain ⟨a, vs, rfl, hH, rs⟩ := lst_at c rx e
        exact ⟨.inl ⟨eT, vs, SqL.of hH⟩, rfl, rfl⟩
      · cases h
section
variable {X : Cx} {B : Hp} {W : WX} {o e : Expr} {es : List Expr} {fo : ME} {fs : MA} {name : Str} {apos cpos : Pos} {T id : String} {r : V → List V → Hp → VK → Prop} {g : S → List S → M S}
theorem qe_bm (pa : PlainAttrs T) (slot : Slot T name id) (hty : typeOf (.builtin id) = pure (.type "method_descriptor")) (hm : MtR X id r) (hg : MtS X.K X.mg r g) (ho : QE X B W o fo) (ha : QA X B W (e :: es) fs)
    (hbase : attributeBase o name X.env (eval o X.env) = eval o X.env := by rfl)
    (hfew : ((backTo cpos (starEach (e :: es) X.env)).all (fun x => !x.1) && (backToKw cpos (keywordEach [] X.env)).all (fun x => x.1.isSome)
      && decide ((e :: es).length + ([] : List Keyword).length + (if ([] : List Keyword).isEmpty then 0 else 1) < 30)) = true := by rfl)
    (hline : (apos.endLine == cpos.line) = true := by rfl) (hs : starEach (e :: es) X.env = (false, eval e X.env) :: starEach es X.env := by rfl) (hplain : (backTo cpos (starEach es X.env)).any (·.1) = false := by rfl) :
    QE X B W (.Call (.Attribute o name apos) (e :: es) [] cpos) (eBM T g fo fs) := by
  refine PEimp (pe_bm pa slot hty hm ho ha hbase hfew hline hs hplain) fun s H Q q => one_of q fun F rho sl st H x dx c S' rx h => ?_
  unfold M.bind at h
  match q1 : chkT T dx st with
  | none => rw [q1] at h; exact h.elim
  | some (rr, st') =>
    obtain ⟨ty, rfl, rfl⟩ := chkT_ok c rx q1
    rw [q1] at h
    have h' : Post X.K X.mg B (fun F' rho' H' d => ∀ v, RepS X.K X.mg F' rho' v d → Q v H') (fun c d H' => W c d s H') F rho (((fs sl).bind fun ss => g dx ss) st') := h
    refine ⟨ty, F, rho, sl, _, c, S', h'.bind.mono (Same.refl _) (Pre.refl _) (fun F1 r1 H1 ds e1 p1 h1 vs rs => ?_) fun _ _ _ z => z⟩
    obtain ⟨st1, c1, _, _, h1⟩ := h1
    exact hg _ B F1 r1 st1 H1 x vs dx ds Q c1 (rx.mono e1 p1) rs h1
theorem qe_bm0 (pa : PlainAttrs T) (slot : Slot T name id) (hty : typeOf (.builtin id) = pure (.type "method_descriptor")) (hm : MtR X id r) (hg : MtS X.K X.mg r g) (ho : QE X B W o fo)
    (hbase : attributeBase o name X.env (eval o X.env) = eval o X.env := by rfl) (hline : (apos.endLine == cpos.line) = true := by rfl) : QE X B W (.Call (.Attribute o name apos) [] [] cpos) (eBM T g fo aNil) := by
  refine PEimp (pe_bm0 pa slot hty hm ho hbase hline) fun s H Q q => one_of q fun F rho sl st H x dx c S' rx h => ?_
  unfold M.bind at h
  match q1 : chkT T dx st with
  | none => rw [q1] at h; exact h.elim
  | some (rr, st') =>
    obtain ⟨ty, rfl, rfl⟩ := chkT_ok c rx q1
    rw [q1] at h
    exact ⟨ty, hg _ B F rho _ H x [] dx [] Q c rx .nil h⟩
end
section
variable {K : PySem.W.Frag} {mg : Str → Option Value}
def gAppend : S → List S → M S
  | .obj k, [y] => fun st => match st[k]? with
    | some (.lst ss) => if ss.length < sizeLine then some (.ok (.val .non), st.set k (.lst (ss ++ [y]))) else none
    | _ => none
  | _, _ => M.stuck
theorem ms_append : MtS K mg rAppend gAppend := by
  intro W B F rho st H x vs dx ds Q c rx rs h
  cases rx with
  | val _ => exact h.elim
  | @obj k a q =>
    cases rs with
    | nil => exact h.elim
    | cons r t =>
      cases t with
      | cons _ _ => exact h.elim
      | nil =>
        simp only [gAppend] at h
        match e : st[k]? with
        | some (.lst ss) =>
          rw [e] at h
          dsimp only at h
          split at h
          · rename_i hz
            obtain ⟨hF, vs, hH, rs⟩ := c.own k a _ q e
            exact ⟨a, vs, _, rfl, rfl, hH, by rw [rs.length]; exact hz, h F rho _ (Same.refl _) (Pre.refl _) (c.write q hF ⟨hF, _, upd_same, rs.append (.cons r .nil)⟩) _ (.val .non)⟩
          · exact h.elim
        | some (.frz _) => rw [e] at h; exact h.elim
        | some (.ins _ _) => rw [e] at h; exact h.elim
        | some (.dct _) => rw [e] at h; exact h.elim
        | none => rw [e] at h; exact h.elim
end
end Cl
namespace Cl
open PySem L2
def CallS (K : PySem.W.Frag) (mg : Str → Option Value) (r : List V → Hp → VK → Prop) (g : List S → M S) : Prop :=
  ∀ (W : Value → Option Addr → Hp → Prop) (B F : Hp) (rho : List Addr) (st : List O) (H : Hp) (vs : List V) (ds : List S) (Q : VK), Core K mg B F rho st H → RepSs K mg F rho vs ds →
    Post K mg B (fun F' rho' H' d => ∀ v, RepS K mg F' rho' v d → Q v H') W F rho (g ds st) → r vs H Q
section
variable {X : Cx} {B : Hp} {W : WX} {x : Str} {e : Expr} {es : List Expr} {fs : MA} {p pos : Pos} {id T : String} {r : List V → Hp → VK → Prop} {g : List S → M S}
theorem qe_callB (hc : CallR X (.builtin id) r) (hg' : CallS X.K X.mg r g) (hm : X.mg x = none) (hv : bootBuiltins x = some (.builtin id)) (ha : QA X B W (e :: es) fs) (hg : Gl X x := by rfl) (hn : x ≠ "__name__" := by decide) (hdb : (x == ("__debug__" : Str)) = false := by decide)
    (he : starEach (e :: es) X.env = (false, eval e X.env) :: starEach es X.env := by rfl) (hpl : (backTo pos (starEach es X.env)).any (·.1) = false := by rfl) : QE X B W (.Call (.Name x p) (e :: es) [] pos) (eArgs g fs) :=
  PEimp (pe_callB hc hg hm hv ha hn hdb he hpl) fun s H Q q => args_of q fun F rho st H vs ds c rs h => hg' _ B F rho st H vs ds Q c rs h
theorem qe_callTy (hc : CallR X (.type T) r) (hg' : CallS X.K X.mg r g) (hm : X.mg x = none) (hv : bootBuiltins x = some (.type T)) (ha : QA X B W (e :: es) fs) (hg : Gl X x := by rfl) (hn : x ≠ "__name__" := by decide) (hdb : (x == ("__debug__" : Str)) = false := by decide)
    (he : starEach (e :: es) X.env = (false, eval e X.env) :: starEach es X.env := by rfl) (hpl : (backTo pos (starEach es X.env)).any (·.1) = false := by rfl) : QE X B W (.Call (.Name x p) (e :: es) [] pos) (eArgs g fs) :=
  PEimp (pe_callTy hc hg hm hv ha hn hdb he hpl) fun s H Q q => args_of q fun F rho st H vs ds c rs h => hg' _ B F rho st H vs ds Q c rs h
end
section
variable {K : PySem.W.Frag} {mg : Str → Option Value}
/-- a def of one argument -/
theorem cs_one {r : List V → Hp → VK → Prop} {g : S → M S} (h : ∀ (W : Value → Option Addr → Hp → Prop) (B F : Hp) (rho : List Addr) (st : List O) (H : Hp) (x : V) (dx : S) (Q : VK), Core K mg B F rho st H → RepS K mg F rho x dx →
    Post K mg B (fun F' rho' H' d => ∀ v, RepS K mg F' rho' v d → Q v H') W F rho (g dx st) → r [x] H Q) : CallS K mg r (fun ds => match ds with | [x] => g x | _ => M.stuck) := by
  intro W B F rho st H vs ds Q c rs q
  cases rs with
  | nil => exact q.elim
  | cons r t =>
    cases t with
    | nil => exact h W B F rho st H _ _ Q c r q
    | cons _ _ => exact q.elim
@[simp] abbrev g1 (g : S → M S) : List S → M S := fun ds => match ds with | [x] => g x | _ => M.stuck
/-! len -/
def rLenA (K : PySem.W.Frag) : List V → Hp → VK → Prop := fun xs H Q => (∃ p ys, xs = [.ref p] ∧ (SqL K H p ys ∨ SqT K H p ys) ∧ Q (.int ys.length) H) ∨ (∃ z, xs = [.str z] ∧ z.length ≤ sizeLine ∧ Q (.int z.length) H)
theorem call_lenA {X : Cx} : CallR X (.builtin "len") (rLenA X.K) := call_len_seq.or call_len_str
def gLen (x : S) : M S := fun st => match x with
  | .val (.str z) => if z.length ≤ sizeLine then ok1 (.int z.length) st else none
  | x => match seqOf x st with
    | some ss => ok1 (.int ss.length) st
    | none => none
theorem cs_len : CallS K mg (rLenA K) (g1 gLen) := cs_one fun W B F rho st H x dx Q c rx h => by
  unfold gLen at h
  split at h
  · rename_i z
    cases rx with
    | val rx =>
      cases rx
      split at h
      · rename_i hz
        exact .inr ⟨z, rfl, hz, h.done c _ (.val (.int _))⟩
      · exact h.elim
  · match e : seqOf dx st with
    | none => rw [e] at h; exact h.elim
    | some ss =>
      rw [e] at h
      obtain ⟨a, vs, rfl, hs, rs⟩ := seq_at c rx e
      exact .inl ⟨a, vs, rfl, hs, by rw [rs.length]; exact h.done c _ (.val (.int _))⟩
/-! str(n), int(text), abs(n) -/
def gStr : S → M S
  | .val (.int i) => fun st => if i.natAbs.log2 < 1920 then ok1 (.str (toString i)) st else none
  | _ => M.stuck
theorem cs_str : CallS K mg (fun xs H Q => ∃ i, xs = [.int i] ∧ i.natAbs.log2 < 1920 ∧ Q (.str (toString i)) H) (g1 gStr) := cs_one fun W B F rho st H x dx Q c rx h => by
  cases rx with
  | obj _ => exact h.elim
  | val rx =>
    cases rx with
    | int i =>
      simp only [gStr] at h
      split at h
      · rename_i hz; exact ⟨i, rfl, hz, h.done c _ (.val (.str _))⟩
      · exact h.elim
    | _ => exact h.elim
def gInt : S → M S
  | .val (.str a) => fun st => match PySem.intText? a with
    | some n => if a.length ≤ 640 then ok1 (.int n) st else none
    | none => none
  | .val (.int i) => fun st => ok1 (.int i) st
  | .val (.bl b) => fun st => ok1 (.int (if b then 1 else 0)) st
  | _ => M.stuck
def rIntA : List V → Hp → VK → Prop := fun xs H Q => (∃ a n, xs = [.str a] ∧ PySem.intText? a = some n ∧ a.length ≤ 640 ∧ Q (.int n) H) ∨ ((∃ i, xs = [.int i] ∧ Q (.int i) H) ∨ ∃ k, xs = [.bl k] ∧ Q (.int (if k then 1 else 0)) H)
theorem call_intA {X : Cx} : CallR X (.type "int") rIntA := call_int_str.or call_int1
theorem cs_int : CallS K mg rIntA (g1 gInt) := cs_one fun W B F rho st H x dx Q c rx h => by
  cases rx with
  | obj _ => exact h.elim
  | val rx =>
    cases rx with
    | str a =>
      simp only [gInt] at h
      match e : PySem.intText? a with
      | none => rw [e] at h; exact h.elim
      | some n =>
        rw [e] at h
        dsimp only at h
        split at h
        · rename_i hz; exact .inl ⟨a, n, rfl, e, hz, h.done c _ (.val (.int _))⟩
        · exact h.elim
    | int i => exact .inr (.inl ⟨i, rfl, h.done c _ (.val (.int _))⟩)
    | bl b => exact .inr (.inr ⟨b, rfl, h.done c _ (.val (.int _))⟩)
    | _ => exact h.elim
def gAbs : S → M S
  | .val (.int i) => fun st => ok1 (.int (if i < 0 then -i else i)) st
  | _ => M.stuck
theorem cs_abs : CallS K mg (fun xs H Q => ∃ i, xs = [.int i] ∧ Q (.int (if i < 0 then -i else i)) H) (g1 gAbs) := cs_one fun W B F rho st H x dx Q c rx h => by
  cases rx with
  | obj _ => exact h.elim
  | val rx =>
    cases rx with
    | int i => exact ⟨i, rfl, h.done c _ (.val (.int _))⟩
    | _ => exact h.elim
/-! list(x), tuple(x) -/
def gListO (x : S) : M S := fun st => match seqOf x st with
  | some ss => some (.ok (.obj st.length), st ++ [.lst ss])
  | none => none
def gList (x : S) : M S := fun st => match (seqOf x st).bind datas with
  | some ds => ok1 (.lst ds) st
  | none => none
theorem cs_listO : CallS K mg (fun xs H Q => ∃ p ys, xs = [.ref p] ∧ (SqL K H p ys ∨ SqT K H p ys) ∧ ∀ l, H l = none → Q (.ref l) (upd H l (.lst ys))) (g1 gListO) := cs_one fun W B F rho st H x dx Q c rx h => by
  unfold gListO at h
  match e : seqOf dx st with
  | none => rw [e] at h; exact h.elim
  | some ss =>
    rw [e] at h
    obtain ⟨a, vs, rfl, hs, rs⟩ := seq_at c rx e
    refine ⟨a, vs, rfl, hs, fun p hp => h F (rho ++ [p]) _ (Same.refl _) (Pre.app _ _) (c.new hp ⟨c.same.free hp, vs, upd_same, rs.mono (Same.refl _) (Pre.app _ _)⟩) _ (.obj ?_)⟩
    rw [← c.len, List.getElem?_append_right (Nat.le_refl _), Nat.sub_self]; rfl
theorem cs_list : CallS K mg (fun xs H Q => ∃ p ys, xs = [.ref p] ∧ (SqL K H p ys ∨ SqT K H p ys) ∧ ∀ l, H l = none → Q (.ref l) (upd H l (.lst ys))) (g1 gList) := cs_one fun W B F rho st H x dx Q c rx h => by
  unfold gList at h
  match e : (seqOf dx st).bind datas with
  | none => rw [e] at h; exact h.elim
  | some ds =>
    rw [e] at h
    obtain ⟨ss, h1, h2⟩ := Option.bind_eq_some_iff.mp e
    obtain ⟨a, vs, rfl, hs, rs⟩ := seq_at c rx h1
    exact ⟨a, vs, rfl, hs, fun p hp => h (upd F p (.lst vs)) rho _ (same_upd (c.same.free hp)) (Pre.refl _) (c.alloc hp) _ (.val (.lst upd_same ((rs.datas h2).mono (same_upd (c.same.free hp)))))⟩
def gTuple (x : S) : M S := fun st => match x with
  | .val (.tup l) => ok1 (.tup l) st
  | x => match (lstOf x st).bind datas with
    | some ds => ok1 (.tup ds) st
    | none => none
theorem cs_tuple : CallS K mg (fun xs H Q => ∃ p ys, xs = [.ref p] ∧ ((SqL K H p ys ∧ ∀ l, H l = none → Q (.ref l) (upd H l (.tup ys))) ∨ (SqT K H p ys ∧ Q (.ref p) H))) (g1 gTuple) := cs_one fun W B F rho st H x dx Q c rx h => by
  unfold gTuple at h
  split at h
  · cases rx with
    | val rx => cases rx with
      | tup a b => exact ⟨_, _, rfl, .inr ⟨SqT_mono c.same a, h.done c _ (.val (.tup a b))⟩⟩
  · match e : (lstOf dx st).bind datas with
    | none => rw [e] at h; exact h.elim
    | some ds =>
      rw [e] at h
      obtain ⟨ss, h1, h2⟩ := Option.bind_eq_some_iff.mp e
      obtain ⟨a, vs, rfl, hs, rs⟩ := lst_at c rx h1
      exact ⟨a, vs, rfl, .inl ⟨SqL.of hs, fun p hp => h (upd F p (.tup vs)) rho _ (same_upd (c.same.free hp)) (Pre.refl _) (c.alloc hp) _ (.val (.tup (SqT.of upd_same) ((rs.datas h2).mono (same_upd (c.same.free hp)))))⟩⟩
/-! sum, any, all of a list -/
def intsD : List D → Option (List Int)
  | [] => some []
  | .int i :: r => (intsD r).map (i :: ·)
  | _ => none
def boolsD : List D → Option (List Bool)
  | [] => some []
  | .bl i :: r => (boolsD r).map (i :: ·)
  | _ => none
theorem ints_ok {F : Hp} : ∀ {vs : List V} {ds : List D} {ns : List Int}, Reps K mg F vs ds → intsD ds = some ns → vs = ns.map V.int
  | _, _, _, .nil, h => by cases h; rfl
  | _, _, _, .cons r t, h => by
    cases r with
    | int i =>
      simp only [intsD, Option.map_eq_some_iff] at h
      obtain ⟨l, h1, rfl⟩ := h
      rw [ints_ok t h1]; rfl
    | _ => cases h
theorem bools_ok {F : Hp} : ∀ {vs : List V} {ds : List D} {ns : List Bool}, Reps K mg F vs ds → boolsD ds = some ns → vs = ns.map V.bl
  | _, _, _, .nil, h => by cases h; rfl
  | _, _, _, .cons r t, h => by
    cases r with
    | bl i =>
      simp only [boolsD, Option.map_eq_some_iff] at h
      obtain ⟨l, h1, rfl⟩ := h
      rw [bools_ok t h1]; rfl
    | _ => cases h
def gSum (x : S) : M S := fun st => match ((lstOf x st).bind datas).bind intsD with
  | some ns => ok1 (.int ns.sum) st
  | none => none
def gAnyAll (f : List Bool → Bool) (x : S) : M S := fun st => match ((lstOf x st).bind datas).bind boolsD with
  | some ns => ok1 (.bl (f ns)) st
  | none => none
theorem lst_ints {α : Type} {B F : Hp} {rho : List Addr} {st : List O} {H : Hp} {x : V} {dx : S} {f : List D → Option α} {ns : α} (c : Core K mg B F rho st H) (rx : RepS K mg F rho x dx) (h : ((lstOf dx st).bind datas).bind f = some ns) :
    ∃ a vs ds, x = .ref a ∧ H a = some (.lst vs) ∧ Reps K mg F vs ds ∧ f ds = some ns := by
  obtain ⟨ds, h1, h2⟩ := Option.bind_eq_some_iff.mp h
  obtain ⟨ss, h3, h4⟩ := Option.bind_eq_some_iff.mp h1
  obtain ⟨a, vs, e, hs, rs⟩ := lst_at c rx h3
  exact ⟨a, vs, ds, e, hs, rs.datas h4, h2⟩
theorem cs_sum : CallS K mg (rSum K) (g1 gSum) := cs_one fun W B F rho st H x dx Q c rx h => by
  unfold gSum at h
  match e : ((lstOf dx st).bind datas).bind intsD with
  | none => rw [e] at h; exact h.elim
  | some ns =>
    rw [e] at h
    obtain ⟨a, vs, ds, rfl, hs, rs, hn⟩ := lst_ints c rx e
    exact ⟨a, ns, rfl, by rw [← ints_ok rs hn]; exact SqL.of hs, h.done c _ (.val (.int _))⟩
theorem cs_any : CallS K mg (rAny K) (g1 (gAnyAll fun l => l.any id)) := cs_one fun W B F rho st H x dx Q c rx h => by
  unfold gAnyAll at h
  match e : ((lstOf dx st).bind datas).bind boolsD with
  | none => rw [e] at h; exact h.elim
  | some ns =>
    rw [e] at h
    obtain ⟨a, vs, ds, rfl, hs, rs, hn⟩ := lst_ints c rx e
    exact ⟨a, ns, rfl, by rw [← bools_ok rs hn]; exact SqL.of hs, h.done c _ (.val (.bl _))⟩
theorem cs_all : CallS K mg (rAll K) (g1 (gAnyAll fun l => l.all id)) := cs_one fun W B F rho st H x dx Q c rx h => by
  unfold gAnyAll at h
  match e : ((lstOf dx st).bind datas).bind boolsD with
  | none => rw [e] at h; exact h.elim
  | some ns =>
    rw [e] at h
    obtain ⟨a, vs, ds, rfl, hs, rs, hn⟩ := lst_ints c rx e
    exact ⟨a, ns, rfl, by rw [← bools_ok rs hn]; exact SqL.of hs, h.done c _ (.val (.bl _))⟩
end
/-! ### slices -/
@[simp] def eSl (g : S → Option Int → Option Int → M S) (a : ME) (lo hi : Option ME) : ME := fun sl => (a sl).bind fun x =>
  (match lo with
    | none => M.pure none
    | some f => (f sl).bind fun d => match d with
      | .val (.int i) => M.pure (some i)
      | _ => M.stuck).bind fun l =>
  (match hi with
    | none => M.pure none
    | some f => (f sl).bind fun d => match d with
      | .val (.int i) => M.pure (some i)
      | _ => M.stuck).bind fun u => g x l u
def cutD {α : Type} (xs : List α) (lo hi : Option Int) : List α := (xs.drop (HT.sIx xs.length 0 lo)).take (HT.sIx xs.length xs.length hi - HT.sIx xs.length 0 lo)
def gSl (x : S) (lo hi : Option Int) : M S := fun st => match x with
  | .val (.str z) => if z.length ≤ sizeLine then ok1 (.str (cutS z lo hi)) st else none
  | .val (.tup l) => ok1 (.tup (cutD l lo hi)) st
  | x => match (seqOf x st).bind datas with
    | some ds => ok1 (.lst (cutD ds lo hi)) st
    | none => none
def gSlO (x : S) (lo hi : Option Int) : M S := fun st => match (lstOf x st) with
    | some ss => some (.ok (.obj st.length), st ++ [.lst (cutD ss lo hi)])
    | none => none
section
variable {K : PySem.W.Frag} {mg : Str → Option Value} {B : Hp} {W : WX}
def rSlAll (K : PySem.W.Frag) : V → Option Int → Option Int → Hp → VK → Prop := fun x lo hi H Q => rSlS x lo hi H Q ∨ (rSlA K x lo hi H Q ∨ rSlL K x lo hi H Q)
theorem sl_all {X : Cx} : SlR X (rSlAll X.K) := sl_str.or (sl_tupA.or sl_list)
theorem cutV_rep {F : Hp} {vs : List V} {ds : List D} (rs : Reps K mg F vs ds) (lo hi : Option Int) : Reps K mg F (cutV vs lo hi) (cutD ds lo hi) := by
  unfold cutV cutD
  rw [rs.length]
  exact (rs.drop _).take _
theorem cutV_repS {F : Hp} {rho : List Addr} {vs : List V} {ds : List S} (rs : RepSs K mg F rho vs ds) (lo hi : Option Int) : RepSs K mg F rho (cutV vs lo hi) (cutD ds lo hi) := by
  unfold cutV cutD
  rw [rs.length]
  exact (rs.drop _).take _
def SlS (K : PySem.W.Frag) (mg : Str → Option Value) (r : V → Option Int → Option Int → Hp → VK → Prop) (g : S → Option Int → Option Int → M S) : Prop :=
  ∀ (W : Value → Option Addr → Hp → Prop) (B F : Hp) (rho : List Addr) (st : List O) (H : Hp) (x : V) (dx : S) (lo hi : Option Int) (Q : VK), Core K mg B F rho st H → RepS K mg F rho x dx →
    Post K mg B (fun F' rho' H' d => ∀ v, RepS K mg F' rho' v d → Q v H') W F rho (g dx lo hi st) → r x lo hi H Q
theorem ss_sl : SlS K mg (rSlAll K) gSl := by
  intro W B F rho st H x dx lo hi Q c rx h
  unfold gSl at h
  split at h
  · rename_i z
    cases rx with
    | val rx =>
      cases rx
      split at h
      · rename_i hz; exact .inl ⟨z, rfl, hz, h.done c _ (.val (.str _))⟩
      · exact h.elim
  · rename_i l
    cases rx with
    | val rx =>
      cases rx with
      | @tup a vs _ ha ra =>
        refine .inr (.inl ⟨a, vs, rfl, SqT_mono c.same ha, fun hw => ?_, fun hw p hp => ?_⟩)
        · have : cutD l lo hi = l := by
            unfold cutD
            rw [← ra.length, hw.1, hw.2]
            simp [ra.length]
          rw [this] at h
          exact h.done c _ (.val (.tup ha ra))
        · exact h (upd F p (.tup (cutV vs lo hi))) rho _ (same_upd (c.same.free hp)) (Pre.refl _) (c.alloc hp) _ (.val (.tup (SqT.of upd_same) ((cutV_rep ra lo hi).mono (same_upd (c.same.free hp)))))
  · rename_i hx1 hx2
    match e : (seqOf dx st).bind datas with
    | none => rw [e] at h; exact h.elim
    | some ds =>
      rw [e] at h
      obtain ⟨ss, h1, h2⟩ := Option.bind_eq_some_iff.mp e
      have hL : ∃ a vs, x = .ref a ∧ SqL K H a vs ∧ RepSs K mg F rho vs ss := by
        cases rx with
        | @obj k a q =>
          obtain ⟨a, vs, e, hh, rr⟩ := lst_at (d := .obj k) c (.obj q) h1
          exact ⟨a, vs, e, SqL.of hh, rr⟩
        | val rx =>
          cases rx with
          | lst a b => cases h1; exact ⟨_, _, rfl, SqL.of (c.same _ _ a), b.vals⟩
          | scr a b => cases h1; exact ⟨_, _, rfl, c.same.seq a, b.vals⟩
          | tup a b => exact (hx2 _ rfl).elim
          | _ => cases h1
      obtain ⟨a, vs, rfl, hs, rs⟩ := hL
      refine .inr (.inr ⟨a, vs, rfl, hs, fun p hp => ?_⟩)
      exact h (upd F p (.lst (cutV vs lo hi))) rho _ (same_upd (c.same.free hp)) (Pre.refl _) (c.alloc hp) _ (.val (.lst upd_same ((cutV_rep (rs.datas h2) lo hi).mono (same_upd (c.same.free hp)))))
/-- a slice's part -/
@[simp] def oM (o : Option ME) : Sl → M (Option Int) := fun sl => match o with
  | none => M.pure none
  | some f => (f sl).bind fun d => match d with
    | .val (.int i) => M.pure (some i)
    | _ => M.stuck
def tO (K : PySem.W.Frag) (mg : Str → Option Value) (B : Hp) (W : WX) (f : Sl → M (Option Int)) : TO := fun s H Q => ∃ F rho sl st, Core K mg B F rho st H ∧ Slots K mg F rho s sl ∧ Post K mg B (fun F' rho' H' o => Q o H') (fun c d H' => W c d s H') F rho (f sl st)
end
section
variable {X : Cx} {B : Hp} {W : WX} {e lo hi : Expr} {fe fl fh : ME} {pos p2 : Pos} {r : V → Option Int → Option Int → Hp → VK → Prop} {g : S → Option Int → Option Int → M S} {a b : Option Expr} {fa fb : Option ME}
abbrev QO (X : Cx) (B : Hp) (W : WX) (a : Option Expr) (f : Option ME) : Prop := PO X a (tO X.K X.mg B W (oM f))
theorem POimp {X : Cx} {a : Option Expr} {t t' : TO} (h : PO X a t) (i : ∀ s H Q, t' s H Q → t s H Q) : PO X a t' := ⟨fun pins s σ H Q I q => h.run pins s σ H Q I (i _ _ _ q)⟩
theorem qo_none : QO X B W none none := POimp po_none fun s H Q ⟨F, rho, sl, st, c, S', h⟩ => h.done c
theorem qo_some (he : QE X B W e fe) : QO X B W (some e) (some fe) := POimp (po_some he) fun s H Q ⟨F, rho, sl, st, c, S', h⟩ => by
  refine ⟨F, rho, sl, st, c, S', Post.mono (Post.bind h) (Same.refl _) (Pre.refl _) (fun F1 r1 H1 d e1 p1 h1 v rv => ?_) fun _ _ _ z => z⟩
  obtain ⟨st1, c1, _, _, h1⟩ := h1
  cases rv with
  | obj _ => exact h1.elim
  | val rv =>
    cases rv with
    | int i => exact ⟨i, rfl, h1.done c1⟩
    | _ => exact h1.elim
theorem qe_slice (hr : SlR X r) (hg : SlS X.K X.mg r g) (he : QE X B W e fe) (ha : QO X B W a fa) (hb : QO X B W b fb) : QE X B W (.Subscript e (.Slice a b none p2) pos) (eSl g fe fa fb) := by
  refine PEimp (pe_slice hr he ha hb) fun s H Q q => ?_
  obtain ⟨F, rho, sl, st, c, S', h⟩ := q
  refine ⟨F, rho, sl, st, c, S', h.bind.mono (Same.refl _) (Pre.refl _) (fun F1 r1 H1 dx e1 p1 h1 x rx => ?_) fun _ _ _ z => z⟩
  obtain ⟨st1, c1, _, _, h1⟩ := h1
  refine ⟨F1, r1, sl, st1, c1, S'.mono e1 p1, Post.mono (Post.bind (m := oM fa sl) h1) (Same.refl _) (Pre.refl _) (fun F2 r2 H2 l e2 p2 h2 => ?_) fun _ _ _ z => z⟩
  obtain ⟨st2, c2, _, _, h2⟩ := h2
  refine ⟨F2, r2, sl, st2, c2, S'.mono (e1.trans e2) (p1.trans p2), Post.mono (Post.bind (m := oM fb sl) h2) (Same.refl _) (Pre.refl _) (fun F3 r3 H3 u e3 p3 h3 => ?_) fun _ _ _ z => z⟩
  obtain ⟨st3, c3, _, _, h3⟩ := h3
  exact hg _ B F3 r3 st3 H3 x dx l u Q c3 (rx.mono (e2.trans e3) (p2.trans p3)) h3
end
end Cl
namespace L2
open PySem PySem.Spec PyProof.Rows
/-- what the written part says of the class at G whose __init__ is ValueError's -/
structure GInit (K : PySem.W.Frag) (G : Addr) : Prop where
  ga : PySem.W.specialIn K (.ref G) "__getattribute__" = some (some (.builtin "type.__getattribute__"))
  rd : PySem.W.readsIn K G (.type "type") = true
  at_ : PySem.W.findCls K (.ref G) (.type "type") "__init__" = some (.val (.builtin "ValueError.__init__"))
section
variable {X : Cx} {o e : Expr} {es : List Expr} {to te : TE} {ta : TA} {f x : Str} {p p' p1 p2 pos : Pos} {G : Addr}
/-- G.__init__(self, ..) -/
theorem pe_geinit {pl : Sem Bool} (hm : X.mg x = some (.ref G)) (T : GInit X.K G) (ha : PA X (e :: es) ta) (hg : Gl X x := by rfl) (hd : (x == ("__debug__" : Str)) = false := by decide)
    (hc : eval (.Call (.Attribute (.Name x p1) "__init__" p2) (e :: es) [] pos) X.env = (do
      let ov ← eval (.Name x p1) X.env
      standAt p2.atName
      let (f, first) ← holding [ov] (getMethod ov "__init__" pl)
      callWith pos f first (backTo pos (starEach (e :: es) X.env)) (backToKw pos (keywordEach [] X.env))) := by rfl)
    (he : starEach (e :: es) X.env = (false, eval e X.env) :: starEach es X.env := by rfl) (hpl : (backTo pos (starEach es X.env)).any (·.1) = false := by rfl) :
    PE X (.Call (.Attribute (.Name x p1) "__init__" p2) (e :: es) [] pos) (tVeI X.K ta) := by
  refine ⟨fun pins s σ H Q I h => ?_⟩
  refine PySem.W.methodCall_KW (ld_glob I hg hm ?_ hd) hc
  refine PySem.W.method_cls I.kIn T.ga (PySem.W.cls_value I.kIn T.rd T.at_ (by decide +kernel) ?_)
  show wpAny _ _ (callWith pos (Value.builtin "ValueError.__init__") [] (backTo pos (starEach (e :: es) X.env)) []) _ _ _
  refine PyProof.Rows.callWith_method1 (thn (ha.run pos pins _ σ H _ (I.tok _) h) fun us s1 ⟨vs, H1, I1, r1, a, C, ws, ev, hl, T, ea, q⟩ => ?_) he hpl
  subst ev
  cases r1 with
  | @cons _ u0 _ ur ra rw' =>
    obtain rfl : u0 = Value.ref a := ra
    have hlen : ur.length ≤ sizeLine := by
      rw [← Paired.length rw', sizeLine_eq]
      omega
    exact oinit_ok T I1 ea hlen fun s' J => ⟨.non, H1, J, rfl, q⟩
end
/-- an __init__ that stores its arguments as attributes: fs, the last one first -/
def spX (C : Addr) (n : Nat) (mk : List V → List (Str × V)) : Sp := fun vs H Q _ => ∃ a ws, vs = .ref a :: ws ∧ ws.length = n ∧ H a = some (exo a C none) ∧
  ∀ d H2, H d = none → d ≠ a → H2 a = some (exo a C (some d)) → H2 d = some (exd d (mk ws)) → (∀ b, b ≠ a → b ≠ d → H2 b = H b) → Q .non H2
/-- the reading of such a body, one attribute | two | three -/
theorem xinit1 {K : PySem.W.Frag} {C a : Addr} {H : Hp} {f1 : Str} {v1 : V} {N : Ends} (T : OexC K C) (n1 : PySem.W.findIn K (.ref C) f1 = some none) (ha : H a = some (exo a C none))
    (k : ∀ s d H2, H d = none → d ≠ a → H2 a = some (exo a C (some d)) → H2 d = some (exd d [(f1, v1)]) → (∀ b, b ≠ a → b ≠ d → H2 b = H b) → N.nx s H2) :
    tSeq (tDrop (tVeI K (tCons (tVar 0) (tCons (tVar 1) tNil)))) (tOst K f1 (tVar 0) (tVar 1)) N [some (.ref a), some v1] H := by
  refine ⟨_, rfl, _, rfl, a, C, _, rfl, by simp, T, ha, ?_⟩
  refine ⟨_, rfl, _, rfl, a, C, rfl, T, n1, .inl ⟨ha, fun d hd hne => k _ d _ hd hne upd_same (by rw [upd_ne hne, upd_same]) fun b h1 h2 => by rw [upd_ne h1, upd_ne h2]⟩⟩
theorem xinit2 {K : PySem.W.Frag} {C a : Addr} {H : Hp} {f1 f2 : Str} {v1 v2 : V} {N : Ends} (T : OexC K C) (n1 : PySem.W.findIn K (.ref C) f1 = some none) (n2 : PySem.W.findIn K (.ref C) f2 = some none) (ha : H a = some (exo a C none))
    (k : ∀ s d H2, H d = none → d ≠ a → H2 a = some (exo a C (some d)) → H2 d = some (exd d [(f2, v2), (f1, v1)]) → (∀ b, b ≠ a → b ≠ d → H2 b = H b) → N.nx s H2) :
    tSeq (tDrop (tVeI K (tCons (tVar 0) (tCons (tVar 1) (tCons (tVar 2) tNil))))) (tSeq (tOst K f1 (tVar 0) (tVar 1)) (tOst K f2 (tVar 0) (tVar 2))) N [some (.ref a), some v1, some v2] H := by
  refine ⟨_, rfl, _, rfl, _, rfl, a, C, _, rfl, by simp, T, ha, ?_⟩
  refine ⟨_, rfl, _, rfl, a, C, rfl, T, n1, .inl ⟨ha, fun d hd hne => ?_⟩⟩
  refine ⟨_, rfl, _, rfl, a, C, rfl, T, n2, .inr ⟨d, _, upd_same, by rw [upd_ne hne, upd_same], by simp, ?_⟩⟩
  exact k _ d _ hd hne (by rw [upd_ne (Ne.symm hne), upd_same]) upd_same fun b h1 h2 => by rw [upd_ne h2, upd_ne h1, upd_ne h2]
theorem xinit3 {K : PySem.W.Frag} {C a : Addr} {H : Hp} {f1 f2 f3 : Str} {v1 v2 v3 : V} {N : Ends} (T : OexC K C) (n1 : PySem.W.findIn K (.ref C) f1 = some none) (n2 : PySem.W.findIn K (.ref C) f2 = some none) (n3 : PySem.W.findIn K (.ref C) f3 = some none) (ha : H a = some (exo a C none))
    (k : ∀ s d H2, H d = none → d ≠ a → H2 a = some (exo a C (some d)) → H2 d = some (exd d [(f3, v3), (f2, v2), (f1, v1)]) → (∀ b, b ≠ a → b ≠ d → H2 b = H b) → N.nx s H2) :
    tSeq (tDrop (tVeI K (tCons (tVar 0) (tCons (tVar 1) (tCons (tVar 2) (tCons (tVar 3) tNil)))))) (tSeq (tOst K f1 (tVar 0) (tVar 1)) (tSeq (tOst K f2 (tVar 0) (tVar 2)) (tOst K f3 (tVar 0) (tVar 3)))) N [some (.ref a), some v1, some v2, some v3] H := by
  refine ⟨_, rfl, _, rfl, _, rfl, _, rfl, a, C, _, rfl, by simp, T, ha, ?_⟩
  refine ⟨_, rfl, _, rfl, a, C, rfl, T, n1, .inl ⟨ha, fun d hd hne => ?_⟩⟩
  refine ⟨_, rfl, _, rfl, a, C, rfl, T, n2, .inr ⟨d, _, upd_same, by rw [upd_ne hne, upd_same], by simp, ?_⟩⟩
  refine ⟨_, rfl, _, rfl, a, C, rfl, T, n3, .inr ⟨d, _, by rw [upd_ne (Ne.symm hne), upd_same], upd_same, by simp, ?_⟩⟩
  exact k _ d _ hd hne (by rw [upd_ne (Ne.symm hne), upd_ne (Ne.symm hne), upd_same]) upd_same fun b h1 h2 => by rw [upd_ne h2, upd_ne h2, upd_ne h1, upd_ne h2]
end L2
namespace Cl
open PySem L2
/-- attributes, the last one first -/
def backF {α : Type} (fn : List Str) (ds : List α) : List (Str × α) := (fn.zip ds).reverse
section
variable {K : PySem.W.Frag} {mg : Str → Option Value} {F : Hp}
theorem RepF.append : ∀ {xs ys : List (Str × V)} {us ws : List (Str × D)}, RepF K mg F xs us → RepF K mg F ys ws → RepF K mg F (xs ++ ys) (us ++ ws)
  | _, _, _, _, .nil, s => s
  | _, _, _, _, .cons r t, s => .cons r (RepF.append t s)
theorem repF_zip : ∀ (fn : List Str) {vs : List V} {ds : List D}, Reps K mg F vs ds → RepF K mg F (fn.zip vs).reverse (fn.zip ds).reverse
  | [], _, _, _ => .nil
  | _ :: _, _, _, .nil => .nil
  | f :: fn, _, _, .cons r t => by
    simp only [List.zip_cons_cons, List.reverse_cons]
    exact (repF_zip fn t).append (.cons r .nil)
end
@[simp] def sRaise (n : Str) (fn : List Str) (args : MA) : MS := sBind (fun sl => (args sl).bind toDs) fun ds sl st => if ds.length = fn.length ∧ 0 < fn.length ∧ fn.length ≤ 1000 then some (.xc ⟨n, backF fn ds⟩, sl, st) else none
@[simp] def sRaise0 (n : Str) : MS := fun sl st => some (.xc ⟨n, []⟩, sl, st)
section
variable {X : Cx} {B : Hp} {W : WX} {x : Str} {C fI : Addr} {k n : Nat} {fd : FuncData} {ps : List Str} {fn : List Str} {e : Expr} {es : List Expr} {fs : MA} {p p2 pos pos2 : Pos}
theorem qs_raiseX (hc : X.calm = true) (tk : Takes X W) (T : OexC X.K C) (iC : PySem.W.findIn X.K (.ref C) "__init__" = some (some (.ref fI))) (tI : PySem.W.typeIn X.K (.ref fI) = some (.type "function"))
    (Fn : FnOk X.prog X.w X.K X.mg X.base (L2.CX X.prog X.w) k fI fd ps (spX C fn.length fun ws => backF fn ws)) (hr : Room (k + 1) X.A) (hb : Binds X.K fd ps []) (hm : X.mg x = some (.ref C)) (ha : QA X B W (e :: es) fs) (hg : Gl X x := by rfl)
    (hdb : (x == ("__debug__" : Str)) = false := by decide) (he : starEach (e :: es) X.env = (false, eval e X.env) :: starEach es X.env := by rfl) (hpl : (backTo pos (starEach es X.env)).any (·.1) = false := by rfl) :
    QS X B W (.Raise (some (.Call (.Name x p) (e :: es) [] pos)) none pos2) (sRaise x fn fs) := by
  refine PSimp (ps_raise hc tk (pmk_oex T iC tI Fn hr hb .nil passL hg hm ha hdb he hpl)) fun N s H h => ?_
  obtain ⟨F, rho, sl, st, c, S', h⟩ := h
  refine ⟨F, rho, sl, st, c, S', (PostS.bind S' h).bind.mono (Same.refl _) (Pre.refl _) (fun F1 r1 H1 ss e1 p1 h1 vs rs => ?_) fun _ _ _ z => z⟩
  obtain ⟨st1, c1, _, _, h1⟩ := h1
  obtain ⟨F2, _, ds, e2, _, r2, ⟨st2, c2, _, _, h2⟩⟩ := toDs_ok c1 rs h1
  split at h2
  · rename_i hl
    have hv : vs.length = fn.length := by rw [r2.length]; exact hl.1
    refine ⟨by rw [hv]; exact hl.2.2, fun a na => ⟨a, vs ++ [], rfl, by rw [List.append_nil]; exact hv, upd_same, fun d H2 nd nda ha2 hd2 hk => ⟨rfl, d, _, ha2, hd2, ?_, ?_⟩⟩⟩
    · rw [upd_ne nda] at nd; exact nd
    · have nd1 : H1 d = none := by rw [upd_ne nda] at nd; exact nd
      rw [List.append_nil]
      have eH : upd (del H2 a) d (.xd (backF fn vs)) = upd H1 d (.xd (backF fn vs)) := by
        funext b
        by_cases h1 : b = d
        · subst h1; rw [upd_same, upd_same]
        · rw [upd_ne h1, upd_ne h1]
          by_cases h2 : b = a
          · subst h2; rw [del_same]; exact na.symm
          · rw [del_ne h2, hk b h2 h1, upd_ne h2]
      rw [eH]
      have c3 := c2.alloc (u := .xd (backF fn vs)) nd1
      refine h2 _ r1 _ s (same_upd (c2.same.free nd1)) (Pre.refl _) c3 (S'.mono ((e1.trans e2).trans (same_upd (c2.same.free nd1))) p1) _ _ ⟨C, hm, rfl, ?_⟩
      have rf : RepF X.K X.mg (upd F2 d (.xd (backF fn vs))) (backF fn vs) (backF fn ds) := repF_zip fn (r2.mono (same_upd (c2.same.free nd1)))
      have hne : backF fn ds ≠ [] := by
        intro z
        have := congrArg List.length z
        unfold backF at this
        simp only [List.length_reverse, List.length_zip, List.length_nil] at this
        omega
      match q : backF fn ds with
      | [] => exact absurd q hne
      | y :: ys => exact ⟨d, _, rfl, upd_same, by rw [← q]; exact rf⟩
  · exact h2.elim
theorem qs_raise0 {bmB : List Value} {Bn newId initId : String} {m : Str} {j : Nat} (hc : X.calm = true) (tk : Takes X W) (Fx : ExcBaseFacts Bn newId initId bmB) (q : PySem.W.excIn X.K C bmB newId = true) (hm : X.mg x = some (.ref C)) (kC : PySem.W.keepIn X.K (.ref C) = true) (r : Raises X (.ref C)) (hg : Gl X x := by rfl)
    (hdb : (x == ("__debug__" : Str)) = false := by decide) : QS X B W (.Raise (some (.Call (.Name x p) [.Constant (.str m) j p2] [] pos)) none pos2) (sRaise0 x) := by
  refine PSimp (ps_raise hc tk (pmk_own Fx q hm kC r hg hdb)) fun N s H h => ?_
  obtain ⟨F, rho, sl, st, c, S', h⟩ := h
  exact h F rho H s (Same.refl _) (Pre.refl _) c S' _ _ ⟨C, hm, rfl, rfl⟩
end
end Cl
namespace Cl
open PySem L2
theorem hu65 {k : Nat} {A : Around} (hr : Room k A) : A.units + 65 < cLine := by have := hr.un; omega
section
variable (P : Program) (w : World) (K : PySem.W.Frag) (mg : Str → Option Value) (base : Heap)
/-- a def of the module, by data | over the store -/
def CallPOk (x : Str) (k n : Nat) (dds : List D) (f : PF) : Prop := ∃ (fa : Addr) (fd : FuncData) (ps : List Str) (dvs : List V) (dsv : List Value), FnOk P w K mg base (L2.CX P w) k fa fd ps (spP K mg n f) ∧ mg x = some (.ref fa) ∧ PySem.W.keepIn K (.ref fa) = true ∧ Binds K fd ps dsv ∧ Vals dvs dsv ∧ (∀ F, Reps K mg F dvs dds)
def CallOOk (x : Str) (k n : Nat) (dds : List D) (f : OF) : Prop := ∃ (fa : Addr) (fd : FuncData) (ps : List Str) (dvs : List V) (dsv : List Value), FnOk P w K mg base (L2.CX P w) k fa fd ps (spO K mg n f) ∧ mg x = some (.ref fa) ∧ PySem.W.keepIn K (.ref fa) = true ∧ Binds K fd ps dsv ∧ Vals dvs dsv ∧ (∀ F, Reps K mg F dvs dds)
/-- a method -/
def MethPOk (c m : Str) (k n : Nat) (dds : List D) (f : PF) : Prop := ∃ (C fa : Addr) (fd : FuncData) (ps : List Str) (dvs : List V) (dsv : List Value), mg c = some (.ref C) ∧ Cls K C ∧ Meth K C m fa ∧ FnOk P w K mg base (L2.CX P w) k fa fd ps (spP K mg n f) ∧ Binds K fd ps dsv ∧ Vals dvs dsv ∧ (∀ F, Reps K mg F dvs dds)
def MethOOk (c m : Str) (k n : Nat) (dds : List D) (f : OF) : Prop := ∃ (C fa : Addr) (fd : FuncData) (ps : List Str) (dvs : List V) (dsv : List Value), mg c = some (.ref C) ∧ Cls K C ∧ Meth K C m fa ∧ FnOk P w K mg base (L2.CX P w) k fa fd ps (spO K mg n f) ∧ Binds K fd ps dsv ∧ Vals dvs dsv ∧ (∀ F, Reps K mg F dvs dds)
/-- a class -/
def MakeMOk (x : Str) (k n : Nat) (dds : List D) (f : PF) : Prop := ∃ (C fa : Addr) (fd : FuncData) (ps : List Str) (dvs : List V) (dsv : List Value), mg x = some (.ref C) ∧ Mk K C fa ∧ FnOk P w K mg base (L2.CX P w) k fa fd ps (spM K mg x n f) ∧ Binds K fd ps dsv ∧ Vals dvs dsv ∧ (∀ F, Reps K mg F dvs dds)
def MakeOOk (x : Str) (k n : Nat) (dds : List D) (f : OF) : Prop := ∃ (C fa : Addr) (fd : FuncData) (ps : List Str) (dvs : List V) (dsv : List Value), mg x = some (.ref C) ∧ Mk K C fa ∧ FnOk P w K mg base (L2.CX P w) k fa fd ps (spO K mg n f) ∧ Binds K fd ps dsv ∧ Vals dvs dsv ∧ (∀ F, Reps K mg F dvs dds)
/-- an error class with attributes | without -/
def RaiseXOk (x : Str) (fn : List Str) (k : Nat) : Prop := ∃ (C fI : Addr) (fd : FuncData) (ps : List Str), OexC K C ∧ PySem.W.findIn K (.ref C) "__init__" = some (some (.ref fI)) ∧ PySem.W.typeIn K (.ref fI) = some (.type "function") ∧ FnOk P w K mg base (L2.CX P w) k fI fd ps (spX C fn.length fun ws => backF fn ws) ∧ Binds K fd ps [] ∧ mg x = some (.ref C)
def Raise0Ok (x : Str) : Prop := ∃ C : Addr, PySem.W.excIn K C He.veBase "ValueError.__new__" = true ∧ mg x = some (.ref C) ∧ PySem.W.keepIn K (.ref C) = true ∧ PySem.W.subIn K (.ref C) (.type "BaseException") = some true ∧ PySem.W.typeIn K (.ref C) = some (.type "type")
def GInitOk (x : Str) : Prop := ∃ G : Addr, mg x = some (.ref G) ∧ GInit K G
/-- constants -/
def GInt (x : Str) (i : Int) : Prop := ∃ t, mg x = some (.int i t)
def GStr (x z : Str) : Prop := ∃ t, mg x = some (.str z t)
def GTupS (x : Str) (zs : List Str) : Prop := ∃ a, mg x = some (.ref a) ∧ ∀ H, SqT K H a (zs.map V.str)
end
section
variable {X : Cx} {B : Hp} {W : WX} {k j n : Nat} {dds : List D} {x c m : Str} {p p2 pos apos pos2 : Pos} {e o : Expr} {es : List Expr} {fs : MA} {fo : ME} {f : PF} {g : OF} {pl : Sem Bool} {fn : List Str}
theorem qe_gInt {i : Int} (h : GInt X.mg x i) (hg : Gl X x := by rfl) (hd : (x == ("__debug__" : Str)) = false := by decide) : QE X B W (.Name x pos) (eC (.int i)) := by
  obtain ⟨t, h⟩ := h
  exact qe_glob (v := .int i) h ⟨t, rfl⟩ (fun _ => .int i) hg hd
theorem qe_gStr {z : Str} (h : GStr X.mg x z) (hg : Gl X x := by rfl) (hd : (x == ("__debug__" : Str)) = false := by decide) : QE X B W (.Name x pos) (eC (.str z)) := by
  obtain ⟨t, h⟩ := h
  exact qe_glob (v := .str z) h ⟨t, rfl⟩ (fun _ => .str z) hg hd
theorem reps_strs {K : PySem.W.Frag} {mg : Str → Option Value} {F : Hp} : ∀ (zs : List Str), Reps K mg F (zs.map V.str) (zs.map D.str)
  | [] => .nil
  | z :: zs => .cons (.str z) (reps_strs zs)
theorem qe_gTupS {zs : List Str} (h : GTupS X.K X.mg x zs) (hg : Gl X x := by rfl) (hd : (x == ("__debug__" : Str)) = false := by decide) : QE X B W (.Name x pos) (eC (.tup (zs.map D.str))) := by
  obtain ⟨a, h, hs⟩ := h
  exact qe_glob (v := .ref a) h rfl (fun F => .tup (hs F) (reps_strs zs)) hg hd
theorem qe_cP (h : CallPOk X.prog X.w X.K X.mg X.base x j n dds f) (hr : Room k X.A) (hj : j ≤ k) (tk : Takes X W) (ha : QA X B W (e :: es) fs) (hg : Gl X x := by rfl) (hdb : (x == ("__debug__" : Str)) = false := by decide) (he : starEach (e :: es) X.env = (false, eval e X.env) :: starEach es X.env := by rfl) (hpl : (backTo pos (starEach es X.env)).any (·.1) = false := by rfl) :
    QE X B W (.Call (.Name x p) (e :: es) [] pos) (eArgs (gCallP n f dds) fs) := by
  obtain ⟨fa, fd, ps, dvs, dsv, F, hm, hk, hb, hd, rd⟩ := h
  exact qe_callP F (hr.mono hj) hm hk hb hd rd tk ha hg hdb he hpl
theorem qe_cO (h : CallOOk X.prog X.w X.K X.mg X.base x j n dds g) (hr : Room k X.A) (hj : j ≤ k) (tk : Takes X W) (ha : QA X B W (e :: es) fs) (hg : Gl X x := by rfl) (hdb : (x == ("__debug__" : Str)) = false := by decide) (he : starEach (e :: es) X.env = (false, eval e X.env) :: starEach es X.env := by rfl) (hpl : (backTo pos (starEach es X.env)).any (·.1) = false := by rfl) :
    QE X B W (.Call (.Name x p) (e :: es) [] pos) (eArgs (gCallO n g dds) fs) := by
  obtain ⟨fa, fd, ps, dvs, dsv, F, hm, hk, hb, hd, rd⟩ := h
  exact qe_callO F (hr.mono hj) hm hk hb hd rd tk ha hg hdb he hpl
theorem qe_mP (h : MethPOk X.prog X.w X.K X.mg X.base c m j n dds f) (hr : Room k X.A) (hj : j ≤ k) (tk : Takes X W) (ho : QE X B W o fo) (ha : QA X B W (e :: es) fs) (hst : starEach (e :: es) X.env = (false, eval e X.env) :: starEach es X.env := by rfl) (hpl : (backTo pos (starEach es X.env)).any (·.1) = false := by rfl)
    (ht : eval (.Call (.Attribute o m apos) (e :: es) [] pos) X.env = (do
      let ov ← eval o X.env
      standAt apos.atName
      let (f, first) ← holding [ov] (getMethod ov m pl)
      callWith pos f first (backTo pos (starEach (e :: es) X.env)) (backToKw pos (keywordEach [] X.env))) := by rfl) :
    QE X B W (.Call (.Attribute o m apos) (e :: es) [] pos) (eMeth [c] m (gCallP n f dds) fo fs) := by
  obtain ⟨C, fa, fd, ps, dvs, dsv, hc, cl, hm, F, hb, hd, rd⟩ := h
  exact qe_methP (pl := pl) hc cl hm F (hr.mono hj) hb hd rd tk ho ha hst hpl ht
theorem qe_mO (h : MethOOk X.prog X.w X.K X.mg X.base c m j n dds g) (hr : Room k X.A) (hj : j ≤ k) (tk : Takes X W) (ho : QE X B W o fo) (ha : QA X B W (e :: es) fs) (hst : starEach (e :: es) X.env = (false, eval e X.env) :: starEach es X.env := by rfl) (hpl : (backTo pos (starEach es X.env)).any (·.1) = false := by rfl)
    (ht : eval (.Call (.Attribute o m apos) (e :: es) [] pos) X.env = (do
      let ov ← eval o X.env
      standAt apos.atName
      let (f, first) ← holding [ov] (getMethod ov m pl)
      callWith pos f first (backTo pos (starEach (e :: es) X.env)) (backToKw pos (keywordEach [] X.env))) := by rfl) :
    QE X B W (.Call (.Attribute o m apos) (e :: es) [] pos) (eMeth [c] m (gCallO n g dds) fo fs) := by
  obtain ⟨C, fa, fd, ps, dvs, dsv, hc, cl, hm, F, hb, hd, rd⟩ := h
  exact qe_methO (pl := pl) hc cl hm F (hr.mono hj) hb hd rd tk ho ha hst hpl ht
theorem qe_mP0 (h : MethPOk X.prog X.w X.K X.mg X.base c m j n dds f) (hr : Room k X.A) (hj : j ≤ k) (tk : Takes X W) (ho : QE X B W o fo)
    (ht : eval (.Call (.Attribute o m apos) [] [] pos) X.env = (do
      let ov ← eval o X.env
      standAt apos.atName
      let (f, first) ← holding [ov] (getMethod ov m pl)
      callWith pos f first (backTo pos (starEach [] X.env)) (backToKw pos (keywordEach [] X.env))) := by rfl) :
    QE X B W (.Call (.Attribute o m apos) [] [] pos) (eMeth [c] m (gCallP n f dds) fo aNil) := by
  obtain ⟨C, fa, fd, ps, dvs, dsv, hc, cl, hm, F, hb, hd, rd⟩ := h
  exact qe_methP0 (pl := pl) hc cl hm F (hr.mono hj) hb hd rd tk ho ht
theorem qe_mO0 (h : MethOOk X.prog X.w X.K X.mg X.base c m j n dds g) (hr : Room k X.A) (hj : j ≤ k) (tk : Takes X W) (ho : QE X B W o fo)
    (ht : eval (.Call (.Attribute o m apos) [] [] pos) X.env = (do
      let ov ← eval o X.env
      standAt apos.atName
      let (f, first) ← holding [ov] (getMethod ov m pl)
      callWith pos f first (backTo pos (starEach [] X.env)) (backToKw pos (keywordEach [] X.env))) := by rfl) :
    QE X B W (.Call (.Attribute o m apos) [] [] pos) (eMeth [c] m (gCallO n g dds) fo aNil) := by
  obtain ⟨C, fa, fd, ps, dvs, dsv, hc, cl, hm, F, hb, hd, rd⟩ := h
  exact qe_methO0 (pl := pl) hc cl hm F (hr.mono hj) hb hd rd tk ho ht
theorem qe_kM (h : MakeMOk X.prog X.w X.K X.mg X.base x j n dds f) (hr : Room k X.A) (hj : j + 1 ≤ k) (tk : Takes X W) (ha : QA X B W (e :: es) fs) (hg : Gl X x := by rfl) (hdb : (x == ("__debug__" : Str)) = false := by decide) (he : starEach (e :: es) X.env = (false, eval e X.env) :: starEach es X.env := by rfl) (hpl : (backTo pos (starEach es X.env)).any (·.1) = false := by rfl) :
    QE X B W (.Call (.Name x p) (e :: es) [] pos) (eArgs (gMakeM n f dds) fs) := by
  obtain ⟨C, fa, fd, ps, dvs, dsv, hm, mk, F, hb, hd, rd⟩ := h
  exact qe_makeM mk F (hr.mono hj) hm hb hd rd tk ha hg hdb he hpl
theorem qe_kO (h : MakeOOk X.prog X.w X.K X.mg X.base x j n dds g) (hr : Room k X.A) (hj : j + 1 ≤ k) (tk : Takes X W) (ha : QA X B W (e :: es) fs) (hg : Gl X x := by rfl) (hdb : (x == ("__debug__" : Str)) = false := by decide) (he : starEach (e :: es) X.env = (false, eval e X.env) :: starEach es X.env := by rfl) (hpl : (backTo pos (starEach es X.env)).any (·.1) = false := by rfl) :
    QE X B W (.Call (.Name x p) (e :: es) [] pos) (eArgs (gMakeO x n g dds) fs) := by
  obtain ⟨C, fa, fd, ps, dvs, dsv, hm, mk, F, hb, hd, rd⟩ := h
  exact qe_makeO mk F (hr.mono hj) hm hb hd rd tk ha hg hdb he hpl
theorem qs_rX (h : RaiseXOk X.prog X.w X.K X.mg X.base x fn j) (hc : X.calm = true) (hr : Room k X.A) (hj : j + 1 ≤ k) (tk : Takes X W) (ha : QA X B W (e :: es) fs) (hg : Gl X x := by rfl) (hdb : (x == ("__debug__" : Str)) = false := by decide) (he : starEach (e :: es) X.env = (false, eval e X.env) :: starEach es X.env := by rfl) (hpl : (backTo pos (starEach es X.env)).any (·.1) = false := by rfl) :
    QS X B W (.Raise (some (.Call (.Name x p) (e :: es) [] pos)) none pos2) (sRaise x fn fs) := by
  obtain ⟨C, fI, fd, ps, T, iC, tI, F, hb, hm⟩ := h
  exact qs_raiseX hc tk T iC tI F (hr.mono hj) hb hm ha hg hdb he hpl
theorem qs_r0 {z : Str} {i : Nat} (h : Raise0Ok X.K X.mg x) (hc : X.calm = true) (tk : Takes X W) (hg : Gl X x := by rfl) (hdb : (x == ("__debug__" : Str)) = false := by decide) : QS X B W (.Raise (some (.Call (.Name x p) [.Constant (.str z) i p2] [] pos)) none pos2) (sRaise0 x) := by
  obtain ⟨C, q, hm, kC, h1, h2⟩ := h
  exact qs_raise0 hc tk PySem.F.excBase_ValueError q hm kC (raises_own h1 h2) hg hdb
end
/-! an error class's __init__ by its body -/
section
variable {P : Program} {w : World} {K : PySem.W.Frag} {mg : Str → Option Value} {base : Heap} {x qual : Str} {stm : Stmt} {f C : Addr} {fd : FuncData} {N ps fn : List Str} {k : Nat} {dvs : List V} {kws : List (Str × V)}
theorem fn_X (Fn : FunD K x qual (defArgs stm) (defBody stm) (defScope stm) dvs kws f fd) (Sc : FnScope N ps (defScope stm)) (hps : ps.length = fn.length + 1) (t : TS)
    (hb : ∀ (cdv : Value) (A : Around) (outer : List Env) (s : Shared) (H : Hp) (E : XK), Room k (A.deeper (PyProof.Rows.envOfC qual (defScope stm) s.heap.objs.size f cdv)) → PSs (cxOf (L2.CX P w) P w K mg base N qual (defScope stm) f cdv A outer s H E) (defBody stm) t)
    (hr : ∀ (a : Addr) (ws : List V) (H : Hp) (Nd : Ends), ws.length = fn.length → H a = some (exo a C none) → (∀ s d H2, H d = none → d ≠ a → H2 a = some (exo a C (some d)) → H2 d = some (exd d (backF fn ws)) → (∀ b, b ≠ a → b ≠ d → H2 b = H b) → Nd.nx s H2) → t Nd (L2.start N (.ref a :: ws)) H) :
    FnOk P w K mg base (L2.CX P w) (k + 1) f fd ps (spX C fn.length fun ws => backF fn ws) := by
  refine Fn.ok Sc (fun vs H Q E h => ?_) (fun cdv A outer s H vs Q E hr' h => ?_)
  · obtain ⟨a, ws, rfl, l, _⟩ := h
    rw [List.length_cons, l, hps]
  · obtain ⟨a, ws, rfl, l, ha, k'⟩ := h
    exact ⟨t, hb cdv A outer s H E hr', hr a ws H _ l ha fun s d H2 a1 a2 a3 a4 a5 => k' d H2 a1 a2 a3 a4 a5⟩
end
end Cl
namespace Cl
open PySem L2
/-! ### and, or, not of bools as values; a if t else b; a < b < c -/
@[simp] def eAnd (a b : ME) : ME := fun sl => (a sl).bind fun d => match d with
  | .val (.bl k) => if k = true then b sl else M.pure (.val (.bl false))
  | _ => M.stuck
@[simp] def eOr (a b : ME) : ME := fun sl => (a sl).bind fun d => match d with
  | .val (.bl k) => if k = true then M.pure (.val (.bl true)) else b sl
  | _ => M.stuck
@[simp] def eNot (a : ME) : ME := fun sl => (a sl).bind fun d => match d with
  | .val (.bl k) => M.pure (.val (.bl (!k)))
  | _ => M.stuck
@[simp] def eIf (c : MT) (a b : ME) : ME := fun sl => (c sl).bind fun k => if k = true then a sl else b sl
@[simp] def eChain (g g' : S → S → M S) (a b c : ME) : ME := fun sl => (a sl).bind fun x => (b sl).bind fun y => (g x y).bind fun d => match d with
  | .val (.bl k) => if k = true then (c sl).bind fun z => g' y z else M.pure (.val (.bl false))
  | _ => M.stuck
section
variable {X : Cx} {B : Hp} {W : WX} {a b c : Expr} {rest : List Expr} {fa fb fc : ME} {ft : MT} {pos : Pos}
theorem qe_one {op} (h : QE X B W a fa) : QE X B W (.BoolOp op [a] pos) fa := pe_one h
theorem qe_and (ha : QE X B W a fa) (hb : QE X B W (.BoolOp .And (b :: rest) pos) fb) : QE X B W (.BoolOp .And (a :: b :: rest) pos) (eAnd fa fb) := by
  refine PEimp (pe_and ha hb) fun s H Q q => one_of q fun F rho sl st H x dx cc S' rx h => ?_
  cases rx with
  | obj _ => exact h.elim
  | val rx =>
    cases rx with
    | bl k =>
      refine ⟨k, rfl, ?_⟩
      dsimp only at h
      cases k with
      | true => rw [if_pos rfl] at h ⊢; exact ⟨F, rho, sl, st, cc, S', h⟩
      | false => rw [if_neg Bool.false_ne_true] at h ⊢; exact h.done cc _ (.val (.bl _))
    | _ => exact h.elim
theorem qe_or (ha : QE X B W a fa) (hb : QE X B W (.BoolOp .Or (b :: rest) pos) fb) : QE X B W (.BoolOp .Or (a :: b :: rest) pos) (eOr fa fb) := by
  refine PEimp (pe_or ha hb) fun s H Q q => one_of q fun F rho sl st H x dx cc S' rx h => ?_
  cases rx with
  | obj _ => exact h.elim
  | val rx =>
    cases rx with
    | bl k =>
      refine ⟨k, rfl, ?_⟩
      dsimp only at h
      cases k with
      | true => rw [if_pos rfl] at h ⊢; exact h.done cc _ (.val (.bl _))
      | false => rw [if_neg Bool.false_ne_true] at h ⊢; exact ⟨F, rho, sl, st, cc, S', h⟩
    | _ => exact h.elim
theorem qe_not (ha : QE X B W a fa) : QE X B W (.UnaryOp .Not a pos) (eNot fa) := by
  refine PEimp (pe_not ha) fun s H Q q => one_of q fun F rho sl st H x dx cc S' rx h => ?_
  cases rx with
  | obj _ => exact h.elim
  | val rx =>
    cases rx with
    | bl k => exact ⟨k, rfl, h.done cc _ (.val (.bl _))⟩
    | _ => exact h.elim
theorem qe_ifExp {t : Expr} (hc : QT X B W t ft) (ha : QE X B W a fa) (hb : QE X B W b fb) : QE X B W (.IfExp t a b pos) (eIf ft fa fb) := by
  refine PEimp (pe_ifExp hc ha hb) fun s H Q q => ?_
  obtain ⟨F, rho, sl, st, cc, S', h⟩ := q
  refine ⟨F, rho, sl, st, cc, S', h.bind.mono (Same.refl _) (Pre.refl _) (fun F1 r1 H1 k e1 p1 h1 => ?_) fun _ _ _ z => z⟩
  obtain ⟨st1, c1, _, _, h1⟩ := h1
  cases k with
  | true => rw [if_pos rfl] at h1 ⊢; exact ⟨F1, r1, sl, st1, c1, S'.mono e1 p1, h1⟩
  | false => rw [if_neg Bool.false_ne_true] at h1 ⊢; exact ⟨F1, r1, sl, st1, c1, S'.mono e1 p1, h1⟩
theorem chain_of {r r' : R2} {g g' : S → S → M S} {s : St} {H : Hp} {Q : VK} (hg : OpS X.K X.mg r g) (hg' : OpS X.K X.mg r' g') (h : tE X.K X.mg B W (eChain g g' fa fb fc) s H Q) : tChain r r' (tE X.K X.mg B W fa) (tE X.K X.mg B W fb) (tE X.K X.mg B W fc) s H Q := by
  obtain ⟨F, rho, sl, st, cc, S', h⟩ := h
  refine ⟨F, rho, sl, st, cc, S', h.bind.mono (Same.refl _) (Pre.refl _) (fun F1 r1 H1 dx e1 p1 h1 x rx => ?_) fun _ _ _ z => z⟩
  obtain ⟨st1, c1, _, _, h1⟩ := h1
  refine ⟨F1, r1, sl, st1, c1, S'.mono e1 p1, h1.bind.mono (Same.refl _) (Pre.refl _) (fun F2 r2 H2 dy e2 p2 h2 y ry => ?_) fun _ _ _ z => z⟩
  obtain ⟨st2, c2, _, _, h2⟩ := h2
  refine hg _ B F2 r2 st2 H2 x y dx dy _ c2 (rx.mono e2 p2) ry (h2.bind.mono (Same.refl _) (Pre.refl _) (fun F3 r3 H3 d e3 p3 h3 z rz => ?_) fun _ _ _ z => z)
  obtain ⟨st3, c3, _, _, h3⟩ := h3
  cases rz with
  | obj _ => exact h3.elim
  | val rz =>
    cases rz with
    | bl k =>
      refine ⟨k, rfl, ?_⟩
      dsimp only at h3
      cases k with
      | true =>
        rw [if_pos rfl] at h3 ⊢
        refine ⟨F3, r3, sl, st3, c3, S'.mono ((e1.trans e2).trans e3) ((p1.trans p2).trans p3), h3.bind.mono (Same.refl _) (Pre.refl _) (fun F4 r4 H4 dz e4 p4 h4 w' rw' => ?_) fun _ _ _ z => z⟩
        obtain ⟨st4, c4, _, _, h4⟩ := h4
        exact hg' _ B F4 r4 st4 H4 y w' dy dz Q c4 (ry.mono (e3.trans e4) (p3.trans p4)) rw' h4
      | false => rw [if_neg Bool.false_ne_true] at h3 ⊢; exact h3.done c3 _ (.val (.bl _))
    | _ => exact h3.elim
theorem qe_chain {op op' : CmpOp} {r r' : R2} {g g' : S → S → M S} (ho : OpR X (compareOp op) r) (hg : OpS X.K X.mg r g) (ho' : OpR X (compareOp op') r') (hg' : OpS X.K X.mg r' g') (ha : QE X B W a fa) (hb : QE X B W b fb) (hc : QE X B W c fc)
    (hm : lastMarks [op, op'] [b, c] = false := by with_unfolding_all rfl) : QE X B W (.Compare a [op, op'] [b, c] pos) (eChain g g' fa fb fc) :=
  PEimp (pe_chain ho ho' ha hb hc hm) fun s H Q q => chain_of hg hg' q
theorem qt_chain {op op' : CmpOp} {r r' : R2} {g g' : S → S → M S} (ho : OpR X (compareOp op) r) (hg : OpS X.K X.mg r g) (ho' : OpR X (compareOp op') r') (hg' : OpS X.K X.mg r' g') (ha : QE X B W a fa) (hb : QE X B W b fb) (hc : QE X B W c fc)
    (hm : lastMarks [op, op'] [b, c] = false := by with_unfolding_all rfl) : QT X B W (.Compare a [op, op'] [b, c] pos) (tOfE (eChain g g' fa fb fc)) :=
  PTimp (pt_chain ho ho' ha hb hc hm) fun s H Q q => chain_of hg hg' (test_of q)
end
end Cl
namespace Cl
open PySem L2
section
variable {K : PySem.W.Frag} {mg : Str → Option Value}
theorem new_strs {W : Value → Option Addr → Hp → Prop} {B F : Hp} {rho : List Addr} {st : List O} {H : Hp} {Q : VK} {ys : List Str} (c : Core K mg B F rho st H)
    (h : Post K mg B (fun F' rho' H' d => ∀ v, RepS K mg F' rho' v d → Q v H') W F rho (ok1 (.lst (ys.map D.str)) st)) : rNewStrs ys H Q := fun p hp =>
  h (upd F p (.lst (ys.map V.str))) rho _ (same_upd (c.same.free hp)) (Pre.refl _) (c.alloc hp) _ (.val (.lst upd_same ((reps_strs ys).mono (same_upd (c.same.free hp)))))
/-- s.split(sep) -/
def gSplit : S → List S → M S
  | .val (.str a), [.val (.str b)] => fun st => if (b.length == 0) = false ∧ a.length + 2 ≤ sizeLine then ok1 (.lst ((Txt.split a b).map D.str)) st else none
  | _, _ => M.stuck
theorem ms_split : MtS K mg (fun x xs H Q => ∃ a b, x = .str a ∧ xs = [.str b] ∧ (b.length == 0) = false ∧ a.length + 2 ≤ sizeLine ∧ rNewStrs (Txt.split a b) H Q) gSplit := by
  intro W B F rho st H x vs dx ds Q c rx rs h
  cases rx with
  | obj _ => exact h.elim
  | val rx =>
    cases rx with
    | str a =>
      cases rs with
      | nil => exact h.elim
      | cons r t =>
        cases r with
        | obj _ => exact h.elim
        | val r =>
          cases r with
          | str b =>
            cases t with
            | cons _ _ => exact h.elim
            | nil =>
              simp only [gSplit] at h
              split at h
              · rename_i hz; exact ⟨a, b, rfl, rfl, hz.1, hz.2, new_strs c h⟩
              · exact h.elim
          | _ => exact h.elim
    | _ => exact h.elim
/-- s.split() -/
def gWords : S → List S → M S
  | .val (.str a), [] => fun st => if a.length + 2 ≤ sizeLine then ok1 (.lst ((Txt.words a).map D.str)) st else none
  | _, _ => M.stuck
theorem ms_words : MtS K mg (fun x xs H Q => ∃ a, x = .str a ∧ xs = [] ∧ a.length + 2 ≤ sizeLine ∧ rNewStrs (Txt.words a) H Q) gWords := by
  intro W B F rho st H x vs dx ds Q c rx rs h
  cases rx with
  | obj _ => exact h.elim
  | val rx =>
    cases rx with
    | str a =>
      cases rs with
      | cons _ _ => exact h.elim
      | nil =>
        simp only [gWords] at h
        split at h
        · rename_i hz; exact ⟨a, rfl, rfl, hz, new_strs c h⟩
        · exact h.elim
    | _ => exact h.elim
/-- sep.join(texts) -/
def strsD : List D → Option (List Str)
  | [] => some []
  | .str i :: r => (strsD r).map (i :: ·)
  | _ => none
theorem strs_ok {F : Hp} : ∀ {vs : List V} {ds : List D} {ns : List Str}, Reps K mg F vs ds → strsD ds = some ns → vs = ns.map V.str
  | _, _, _, .nil, h => by cases h; rfl
  | _, _, _, .cons r t, h => by
    cases r with
    | str i =>
      simp only [strsD, Option.map_eq_some_iff] at h
      obtain ⟨l, h1, rfl⟩ := h
      rw [strs_ok t h1]; rfl
    | _ => cases h
def gJoin : S → List S → M S
  | .val (.str a), [y] => fun st => match ((seqOf y st).bind datas).bind strsD with
    | some ys => if (ys.map (·.length)).sum + ys.length * a.length ≤ 16777216 then ok1 (.str (Txt.join a ys)) st else none
    | none => none
  | _, _ => M.stuck
theorem ms_join : MtS K mg (fun x xs H Q => ∃ a p, ∃ ys : List Str, x = .str a ∧ xs = [.ref p] ∧ (SqL K H p (ys.map V.str) ∨ SqT K H p (ys.map V.str)) ∧ (ys.map (·.length)).sum + ys.length * a.length ≤ 16777216 ∧ Q (.str (Txt.join a ys)) H) gJoin := by
  intro W B F rho st H x vs dx ds Q c rx rs h
  cases rx with
  | obj _ => exact h.elim
  | val rx =>
    cases rx with
    | str a =>
      cases rs with
      | nil => exact h.elim
      | @cons _ d0 _ _ r t =>
        cases t with
        | cons _ _ => exact h.elim
        | nil =>
          simp only [gJoin] at h
          match e : ((seqOf d0 st).bind datas).bind strsD with
          | none => rw [e] at h; exact h.elim
          | some ys =>
            rw [e] at h
            dsimp only at h
            split at h
            · rename_i hz
              obtain ⟨dd, h1, h2⟩ := Option.bind_eq_some_iff.mp e
              obtain ⟨ss, h3, h4⟩ := Option.bind_eq_some_iff.mp h1
              obtain ⟨p, vs, rfl, hs, rs⟩ := seq_at c r h3
              rw [strs_ok (rs.datas h4) h2] at hs
              exact ⟨a, p, ys, rfl, rfl, hs, hz, h.done c _ (.val (.str _))⟩
            · exact h.elim
    | _ => exact h.elim
/-- xs.pop(), xs.pop(i) -/
def gPop : S → List S → M S
  | .obj k, [] => fun st => match st[k]? with
    | some (.lst ss) => match ss[ss.length - 1]? with
      | some s => some (.ok (rsvS s st), st.set k (.lst ss.dropLast))
      | none => none
    | _ => none
  | _, _ => M.stuck
theorem RepSs.dropLast {F : Hp} {rho : List Addr} {vs : List V} {ds : List S} (rs : RepSs K mg F rho vs ds) : RepSs K mg F rho vs.dropLast ds.dropLast := by
  rw [List.dropLast_eq_take, List.dropLast_eq_take, rs.length]
  exact rs.take _
theorem ms_pop : MtS K mg rPop gPop := by
  intro W B F rho st H x vs dx ds Q c rx rs h
  cases rx with
  | val _ => exact h.elim
  | @obj k a q =>
    cases rs with
    | cons _ _ => exact h.elim
    | nil =>
      simp only [gPop] at h
      match e : st[k]? with
      | some (.lst ss) =>
        rw [e] at h
        dsimp only at h
        match e2 : ss[ss.length - 1]? with
        | none => rw [e2] at h; exact h.elim
        | some s =>
          rw [e2] at h
          obtain ⟨hF, vs, hH, rs⟩ := c.own k a _ q e
          obtain ⟨v, h1, h2⟩ := rs.get e2
          exact ⟨a, vs, v, rfl, rfl, hH, by rw [rs.length]; exact h1, h F rho _ (Same.refl _) (Pre.refl _) (c.write q hF ⟨hF, _, upd_same, rs.dropLast⟩) _ (rsv_ok c h2)⟩
      | some (.frz _) => rw [e] at h; exact h.elim
      | some (.ins _ _) => rw [e] at h; exact h.elim
      | some (.dct _) => rw [e] at h; exact h.elim
      | none => rw [e] at h; exact h.elim
def gPopAt : S → List S → M S
  | .obj k, [.val (.int i)] => fun st => match st[k]? with
    | some (.lst ss) => if -(2 ^ 63) ≤ i ∧ i < 2 ^ 63 then (match seqIndex? i ss.length with
      | some j => match ss[j]? with
        | some s => some (.ok (rsvS s st), st.set k (.lst (ss.eraseIdx j)))
        | none => none
      | none => none) else none
    | _ => none
  | _, _ => M.stuck
theorem ms_popAt : MtS K mg rPopAt gPopAt := by
  intro W B F rho st H x vs dx ds Q c rx rs h
  cases rx with
  | val _ => exact h.elim
  | @obj k a q =>
    cases rs with
    | nil => exact h.elim
    | cons r t =>
      cases r with
      | obj _ => exact h.elim
      | val r =>
        cases r with
        | int i =>
          cases t with
          | cons _ _ => exact h.elim
          | nil =>
            simp only [gPopAt] at h
            match e : st[k]? with
            | some (.lst ss) =>
              rw [e] at h
              dsimp only at h
              split at h
              · rename_i hb
                match e3 : seqIndex? i ss.length with
                | none => rw [e3] at h; exact h.elim
                | some j =>
                  rw [e3] at h
                  dsimp only at h
                  match e2 : ss[j]? with
                  | none => rw [e2] at h; exact h.elim
                  | some s =>
                    rw [e2] at h
                    obtain ⟨hF, vs, hH, rs⟩ := c.own k a _ q e
                    obtain ⟨v, h1, h2⟩ := rs.get e2
                    exact ⟨a, vs, i, j, v, rfl, rfl, hH, hb.1, hb.2, by rw [rs.length]; exact e3, h1, h F rho _ (Same.refl _) (Pre.refl _) (c.write q hF ⟨hF, _, upd_same, rs.eraseIdx j⟩) _ (rsv_ok c h2)⟩
              · exact h.elim
            | some (.frz _) => rw [e] at h; exact h.elim
            | some (.ins _ _) => rw [e] at h; exact h.elim
            | some (.dct _) => rw [e] at h; exact h.elim
            | none => rw [e] at h; exact h.elim
        | _ => exact h.elim
/-- xs.extend(ys) -/
def gExtend : S → List S → M S
  | .obj k, [y] => fun st => match st[k]?, lstOf y st with
    | some (.lst ss), some zs => if ss.length + zs.length ≤ sizeLine then some (.ok (.val .non), st.set k (.lst (ss ++ zs))) else none
    | _, _ => none
  | _, _ => M.stuck
theorem ms_extend : MtS K mg rExtend gExtend := by
  intro W B F rho st H x vs dx ds Q c rx rs h
  cases rx with
  | val _ => exact h.elim
  | @obj k a q =>
    cases rs with
    | nil => exact h.elim
    | @cons _ d0 _ _ r t =>
      cases t with
      | cons _ _ => exact h.elim
      | nil =>
        simp only [gExtend] at h
        match e : st[k]?, e2 : lstOf d0 st with
        | some (.lst ss), some zs =>
          rw [e, e2] at h
          dsimp only at h
          split at h
          · rename_i hz
            obtain ⟨hF, vs, hH, rs⟩ := c.own k a _ q e
            obtain ⟨b, ws, rfl, hB, rz⟩ := lst_at c r e2
            exact ⟨a, b, vs, ws, rfl, rfl, hH, hB, by rw [rs.length, rz.length]; exact hz, h F rho _ (Same.refl _) (Pre.refl _) (c.write q hF ⟨hF, _, upd_same, rs.append rz⟩) _ (.val .non)⟩
          · exact h.elim
        | some (.lst ss), none => rw [e, e2] at h; exact h.elim
        | some (.frz _), _ => rw [e] at h; exact h.elim
        | some (.ins _ _), _ => rw [e] at h; exact h.elim
        | some (.dct _), _ => rw [e] at h; exact h.elim
        | none, _ => rw [e] at h; exact h.elim
/-- xs.index(y) -/
def firstP (p : PyData) : List PyData → Nat → Option Nat
  | [], _ => none
  | z :: r, n => if PyData.eqv z p = true then some n else firstP p r (n + 1)
theorem firstP_ok {p : PyData} : ∀ {l : List PyData} {n j : Nat}, firstP p l n = some j → ∃ i z, j = n + i ∧ l[i]? = some z ∧ PyData.eqv z p = true ∧ ∀ (m : Nat) (z' : PyData), m < i → l[m]? = some z' → PyData.eqv z' p = false
  | [], n, j, h => by cases h
  | z :: r, n, j, h => by
    unfold firstP at h
    split at h
    · rename_i hz; cases h; exact ⟨0, z, rfl, rfl, hz, fun m z' hm => absurd hm (Nat.not_lt_zero _)⟩
    · rename_i hz
      obtain ⟨i, y, e1, e2, e3, e4⟩ := firstP_ok h
      refine ⟨i + 1, y, by omega, by simpa using e2, e3, fun m z' hm hl => ?_⟩
      cases m with
      | zero => simp at hl; subst hl; exact Bool.not_eq_true _ ▸ hz
      | succ m => exact e4 m z' (by omega) (by simpa using hl)
def gIndex : S → List S → M S
  | x, [y] => fun st => match (lstOf x st).bind datas, toPS y st with
    | some ds, some p => match toPs ds with
      | some ps => if SeqAt.shaped (.list ps) = true ∧ SeqAt.shaped p = true then (match firstP p ps 0 with
        | some j => ok1 (.int (j : Nat)) st
        | none => none) else none
      | none => none
    | _, _ => none
  | _, _ => M.stuck
theorem ms_index : MtS K mg (rIndexD K) gIndex := by
  intro W B F rho st H x vs dx ds Q c rx rs h
  cases rs with
  | nil => exact h.elim
  | @cons _ d0 _ _ r t =>
    cases t with
    | cons _ _ => exact h.elim
    | nil =>
      simp only [gIndex] at h
      match e : (lstOf dx st).bind datas, e2 : toPS d0 st with
      | none, _ => rw [e] at h; exact h.elim
      | some l, none => rw [e, e2] at h; exact h.elim
      | some l, some p =>
        rw [e, e2] at h
        dsimp only at h
        match e3 : toPs l with
        | none => rw [e3] at h; exact h.elim
        | some ps =>
          rw [e3] at h
          dsimp only at h
          split at h
          · rename_i hs
            match e4 : firstP p ps 0 with
            | none => rw [e4] at h; exact h.elim
            | some j =>
              rw [e4] at h
              obtain ⟨ss, h1, h2⟩ := Option.bind_eq_some_iff.mp e
              obtain ⟨a, us, rfl, hH, rr⟩ := lst_at c rx h1
              obtain ⟨i, z, e5, e6, e7, e8⟩ := firstP_ok e4
              have ei : i = j := by omega
              subst ei
              exact ⟨a, _, p, ps, _, z, rfl, rfl, .lst (SqL.of hH) (toPs_ok c.same (rr.datas h2) e3), toPS_ok c r e2, hs.1, hs.2, e6, e7, e8, h.done c _ (.val (.int _))⟩
          · exact h.elim
end
end Cl
namespace L2
open PySem PySem.Spec PyProof.Rows
/-! ### match, by values -/
abbrev TMC := V → TS
structure PMC (X : Cx) (cs : List MatchCase) (t : TMC) : Prop where
  run : ∀ (first : Bool) (pins : List (Addr × Obj)) (s : Shared) (σ : St) (H : Hp) (x : V) (v : Value) (D : Ends), Inv X pins σ H s → RelV x v → t x D σ H → wpAny (model X.prog X.w) X.A (matchCases cs X.env v first) (SP X pins D) X.xe s
section
variable {X : Cx} {e : Expr} {te : TE} {r : R2} {body : List Stmt} {tb : TS} {rest : List MatchCase} {tr : TMC} {p p2 pos : Pos}
theorem pmc_nil : PMC X [] (fun _ D σ H => D.nx σ H) := ⟨fun _ pins s σ H x v D I rx h => wpAny_matchCases_nil ⟨σ, H, I, h⟩⟩
def tMVal (r : R2) (te : TE) (tb : TS) (tr : TMC) : TMC := fun x D σ H => te σ H fun y H1 => r x y H1 fun z H2 => ∃ k, z = .bl k ∧ if k = true then tb D σ H2 else tr x D σ H2
theorem pmc_val (he : PE X e te) (ho : OpR X (compareOp .Eq) r) (hb : PSs X body tb) (hr : PMC X rest tr) : PMC X (⟨.MatchValue e p, none, body⟩ :: rest) (tMVal r te tb tr) := by
  refine ⟨fun first pins s σ H x v D I rx h => ?_⟩
  refine wpAny_matchCases_cons (wpAny_matchPattern_Value (thn (he.run pins s σ H _ I h) fun u s1 ⟨y, H1, I1, ry, q⟩ => ?_))
  refine thn (ho pins s1 σ H1 x y v u _ I1 rx ry q) fun c s2 ⟨z, H2, I2, rz, k, ez, q2⟩ => ?_
  subst ez
  cases rz
  refine wpAny_truthy_bool ?_
  cases k with
  | true => exact wpAny_assignInOrder_none (hb.run pins s2 σ H2 D I2 q2)
  | false => exact hr.run false pins s2 σ H2 x v D I2 rx q2
theorem pmc_any (hb : PSs X body tb) : PMC X (⟨.MatchAs none none p, none, body⟩ :: rest) (fun _ => tb) := by
  refine ⟨fun first pins s σ H x v D I rx h => ?_⟩
  exact wpAny_matchCases_cons (wpAny_matchPattern_Capture (wpAny_assignInOrder_none (hb.run pins s σ H D I h)))
theorem ps_match {cs : List MatchCase} {t : TMC} (he : PE X e te) (hc : PMC X cs t) : PS X (.Match e cs pos) (fun D σ H => te σ H fun x H1 => t x D σ H1) := by
  refine ⟨fun pins s σ H D I h => ?_⟩
  exact wpAny_Match (thn (he.run pins s σ H _ I h) fun v s1 ⟨x, H1, I1, rx, q⟩ => hc.run true pins s1 σ H1 x v D I1 rx q)
end
end L2
namespace Cl
open PySem L2
/-! ### code that is never reached -/
section
variable {X : Cx} {B : Hp} {W : WX}
theorem qs_never {st : Stmt} : QS X B W st sStuck := PSimp ps_never fun N s H ⟨F, rho, sl, st, c, S', h⟩ => h.elim
theorem qss_never {st : List Stmt} : QSs X B W st sStuck := PSsimp pss_never fun N s H ⟨F, rho, sl, st, c, S', h⟩ => h.elim
def eStuck : ME := fun _ => M.stuck
theorem qe_never {e : Expr} : QE X B W e eStuck := ⟨fun _ _ _ _ _ _ ⟨_, _, _, _, _, _, h⟩ => h.elim⟩
/-- frozen -/
@[simp] def eFrz (a : ME) : ME := fun sl => (a sl).bind fun x => (toD x).bind fun d => M.pure (.val d)
theorem qe_frz {e : Expr} {f : ME} (h : QE X B W e f) : QE X B W e (eFrz f) := PEimp h fun s H Q q => one_of q fun F rho sl st H x dx c S' rx h => by
  obtain ⟨F1, st1, d, e1, c1, r1, ⟨st2, c2, _, _, h2⟩, _⟩ := toD_ok c rx h.bind
  exact h2.done c2 _ (.val r1)
/-! ### a, b = e -/
@[simp] def sAsg (e : ME) (g : MG) : MS := sBind e fun x sl st => (g x sl st).map fun r => (.nx, r.1, r.2)
theorem qs_asg {tg e : Expr} {fe : ME} {g : MG} {pos : Pos} (he : QE X B W e fe) (hg : QG X B tg g) (hs : swapsWithSole [tg] e pos.line X.env = pure false := by rfl) (hw : swappedStores [tg] e X.env = pure none := by rfl)
    (h1 : (assignEach [tg] X.env).map (·.2) = [assign tg X.env] := by rfl) : QS X B W (.Assign [tg] e pos) (sAsg fe g) := by
  refine PSimp (ps_asg he hg hs hw h1) fun N s H h => stm_of h fun F rho sl st H v d c S' r p => ?_
  refine ⟨F, rho, sl, st, d, c, S', r, ?_⟩
  match q : g d sl st with
  | none => rw [q] at p; exact p.elim
  | some (sl1, st1) => rw [q] at p; exact fun F1 r1 H1 s1 e1 p1 c1 S1 => p F1 r1 H1 s1 e1 p1 c1 S1
/-- a, b = x, y, plain names -/
@[simp] def sPar (i j : Nat) (a : MA) : MS := sBind a fun ss sl st => match ss with
  | [x, y] => some (.nx, (sl.set i (some x)).set j (some y), st)
  | _ => none
theorem qs_par {i j : Nat} {x y : Str} {a b : Expr} {fs : MA} {px py pt pos : Pos} {kt k2 pt2} (hc : X.calm = true) (hN : X.N.Nodup) (hij : i ≠ j) (ha : QA X B W [a, b] fs)
    (hw : swappedStores [.Tuple [.Name x px, .Name y py] kt pt] (.Tuple [a, b] k2 pt2) X.env = pure (some [x, y]))
    (hi : X.N[i]? = some x := by rfl) (hj : X.N[j]? = some y := by rfl) (hx : X.env.scope.names.lookup x = some .local := by rfl) (hy : X.env.scope.names.lookup y = some .local := by rfl)
    (hs : swapsWithSole [.Tuple [.Name x px, .Name y py] kt pt] (.Tuple [a, b] k2 pt2) pos.line X.env = pure false := by rfl) :
    QS X B W (.Assign [.Tuple [.Name x px, .Name y py] kt pt] (.Tuple [a, b] k2 pt2) pos) (sPar i j fs) := by
  refine PSimp (ps_par hc hN hi hj hij hx hy ha hw hs) fun N s H h => ?_
  obtain ⟨F, rho, sl, st, c, S', h⟩ := h
  refine ⟨F, rho, sl, st, c, S', (PostS.bind S' h).mono (Same.refl _) (Pre.refl _) (fun F1 r1 H1 ss e1 p1 h1 vs rs => ?_) fun _ _ _ z => z⟩
  obtain ⟨st1, c1, _, _, h1⟩ := h1
  cases rs with
  | nil => exact h1.elim
  | cons ra t =>
    cases t with
    | nil => exact h1.elim
    | cons rb t =>
      cases t with
      | cons _ _ => exact h1.elim
      | nil => exact ⟨_, _, rfl, h1.nx c1 (((S'.mono e1 p1).set ra i).set rb j)⟩
/-! ### match -/
abbrev MC := S → MS
def tMC (K : PySem.W.Frag) (mg : Str → Option Value) (B : Hp) (W : WX) (f : MC) : TMC := fun x N s H => ∃ F rho sl st d, Core K mg B F rho st H ∧ Slots K mg F rho s sl ∧ RepS K mg F rho x d ∧ PostS K mg B W N F rho (f d sl st)
abbrev QMC (X : Cx) (B : Hp) (W : WX) (cs : List MatchCase) (f : MC) : Prop := PMC X cs (tMC X.K X.mg B W f)
theorem PMCimp {cs : List MatchCase} {t t' : TMC} (h : PMC X cs t) (i : ∀ x N s H, t' x N s H → t x N s H) : PMC X cs t' := ⟨fun first pins s σ H x v D I rx q => h.run first pins s σ H x v D I rx (i _ _ _ _ q)⟩
@[simp] def mcNil : MC := fun _ => sNext
@[simp] def mcVal (g : S → S → M S) (e : ME) (b : MS) (r : MC) : MC := fun x => sBind (fun sl => (e sl).bind fun y => g x y) fun d => match d with
  | .val (.bl k) => if k = true then b else r x
  | _ => sStuck
@[simp] def mcAny (b : MS) : MC := fun _ => b
@[simp] def sMatch (e : ME) (f : MC) : MS := sBind e f
variable {e : Expr} {fe : ME} {r : R2} {g : S → S → M S} {body : List Stmt} {fb : MS} {rest : List MatchCase} {fr : MC} {p pos : Pos}
theorem qmc_nil : QMC X B W [] mcNil := PMCimp pmc_nil fun x N s H ⟨F, rho, sl, st, d, c, S', r, h⟩ => h.nx c S'
theorem qmc_any (hb : QSs X B W body fb) : QMC X B W (⟨.MatchAs none none p, none, body⟩ :: rest) (mcAny fb) := PMCimp (pmc_any hb) fun x N s H ⟨F, rho, sl, st, d, c, S', r, h⟩ => ⟨F, rho, sl, st, c, S', h⟩
theorem qmc_val (ho : OpR X (compareOp .Eq) r) (hg : OpS X.K X.mg r g) (he : QE X B W e fe) (hb : QSs X B W body fb) (hr : QMC X B W rest fr) : QMC X B W (⟨.MatchValue e p, none, body⟩ :: rest) (mcVal g fe fb fr) := by
  refine PMCimp (pmc_val he ho hb hr) fun x N s H ⟨F, rho, sl, st, d, c, S', rx, h⟩ => ?_
  refine ⟨F, rho, sl, st, c, S', (PostS.bind S' h).bind.mono (Same.refl _) (Pre.refl _) (fun F1 r1 H1 dy e1 p1 h1 y ry => ?_) fun _ _ _ z => z⟩
  obtain ⟨st1, c1, _, _, h1⟩ := h1
  refine hg _ B F1 r1 st1 H1 x y d dy _ c1 (rx.mono e1 p1) ry (h1.mono (Same.refl _) (Pre.refl _) (fun F2 r2 H2 dz e2 p2 h2 z rz => ?_) fun _ _ _ z => z)
  obtain ⟨st2, c2, _, _, h2⟩ := h2
  cases rz with
  | obj _ => exact h2.elim
  | val rz =>
    cases rz with
    | bl k =>
      refine ⟨k, rfl, ?_⟩
      dsimp only at h2
      cases k with
      | true => rw [if_pos rfl] at h2 ⊢; exact ⟨F2, r2, sl, st2, c2, S'.mono (e1.trans e2) (p1.trans p2), h2⟩
      | false => rw [if_neg Bool.false_ne_true] at h2 ⊢; exact ⟨F2, r2, sl, st2, d, c2, S'.mono (e1.trans e2) (p1.trans p2), rx.mono (e1.trans e2) (p1.trans p2), h2⟩
    | _ => exact h2.elim
theorem qs_match {cs : List MatchCase} {f : MC} (he : QE X B W e fe) (hc : QMC X B W cs f) : QS X B W (.Match e cs pos) (sMatch fe f) :=
  PSimp (ps_match he hc) fun N s H h => stm_of h fun F rho sl st H v d c S' r p => ⟨F, rho, sl, st, d, c, S', r, p⟩
end
/-! ### a def whose own objects are let go at its end -/
@[simp] def belowS (n : Nat) : S → Bool
  | .val _ => true
  | .obj k => decide (k < n)
@[simp] def belowO (n : Nat) : O → Bool
  | .lst l => l.all (belowS n)
  | .ins _ fs => fs.all fun p => belowS n p.2
  | .dct l => l.all fun p => belowS n p.2
  | .frz _ => true
@[simp] def exitC (n : Nat) (r : Option (Fl × Sl × List O)) : Option (Except XD S × List O) := match r with
  | some (.rt (.val d), _, st) => if n ≤ st.length ∧ (st.take n).all (belowO n) = true then some (.ok (.val d), st.take n) else none
  | some (.nx, _, st) => if n ≤ st.length ∧ (st.take n).all (belowO n) = true then some (.ok (.val .non), st.take n) else none
  | some (.xc x, _, st) => if n ≤ st.length ∧ (st.take n).all (belowO n) = true then some (.error x, st.take n) else none
  | _ => none
@[simp] def asC (n : Nat) (b : MS) : OF := fun ss st => exitC st.length (b (mkSl n ss) st)
section
variable {K : PySem.W.Frag} {mg : Str → Option Value} {B F : Hp} {rho rho' : List Addr} {st : List O} {H : Hp}
theorem RepS.undr {n : Nat} (hn : ∀ (k : Nat) (a : Addr), k < n → rho'[k]? = some a → rho[k]? = some a) {v : V} {s : S} (r : RepS K mg F rho' v s) (h : belowS n s = true) : RepS K mg F rho v s := by
  cases r with
  | val r => exact .val r
  | obj q => exact .obj (hn _ _ (of_decide_eq_true h) q)
theorem RepSs.undr {n : Nat} (hn : ∀ (k : Nat) (a : Addr), k < n → rho'[k]? = some a → rho[k]? = some a) : ∀ {v : List V} {s : List S}, RepSs K mg F rho' v s → s.all (belowS n) = true → RepSs K mg F rho v s
  | _, _, .nil, _ => .nil
  | _, _, .cons r t, h => by
    simp only [List.all_cons, Bool.and_eq_true] at h
    exact .cons (r.undr hn h.1) (RepSs.undr hn t h.2)
theorem RepSF.undr {n : Nat} (hn : ∀ (k : Nat) (a : Addr), k < n → rho'[k]? = some a → rho[k]? = some a) : ∀ {v : List (Str × V)} {s : List (Str × S)}, RepSF K mg F rho' v s → (s.all fun p => belowS n p.2) = true → RepSF K mg F rho v s
  | _, _, .nil, _ => .nil
  | _, _, .cons r t, h => by
    simp only [List.all_cons, Bool.and_eq_true] at h
    exact .cons (r.undr hn h.1) (RepSF.undr hn t h.2)
theorem RepSK.undr {n : Nat} (hn : ∀ (k : Nat) (a : Addr), k < n → rho'[k]? = some a → rho[k]? = some a) : ∀ {v : List (Key × V)} {s : List (D × S)}, RepSK K mg F rho' v s → (s.all fun p => belowS n p.2) = true → RepSK K mg F rho v s
  | _, _, .nil, _ => .nil
  | _, _, .cons r t, h => by
    simp only [List.all_cons, Bool.and_eq_true] at h
    exact .cons (r.undr hn h.1) (RepSK.undr hn t h.2)
theorem Core.cut (c : Core K mg B F rho' st H) (p : Pre rho rho') (hl : rho.length ≤ st.length) (hb : (st.take rho.length).all (belowO rho.length) = true) : Core K mg B F rho (st.take rho.length) H := by
  have hn : ∀ (k : Nat) (a : Addr), k < rho.length → rho'[k]? = some a → rho[k]? = some a := fun k a hk e => by
    have := p k _ (List.getElem?_eq_getElem hk)
    rw [e] at this; rw [List.getElem?_eq_getElem hk, ← this]
  refine ⟨c.same, c.frame, c.apart, fun k a e => c.off k a (p k a e), ?_, by rw [List.length_take]; omega, fun k a o e1 e2 => ?_, fun k a e => c.liv k a (p k a e), c.tabs⟩
  · have : rho = rho'.take rho.length := by
      apply List.ext_getElem?
      intro i
      by_cases hi : i < rho.length
      · rw [List.getElem?_take_of_lt hi, p i _ (List.getElem?_eq_getElem hi), List.getElem?_eq_getElem hi]
      · rw [List.getElem?_eq_none (by omega), List.getElem?_eq_none (by rw [List.length_take]; omega)]
    rw [this]
    exact c.nd.sublist (List.take_sublist _ _)
  · have hk : k < rho.length := (List.getElem?_eq_some_iff.mp e1).1
    have e3 : st[k]? = some o := by rw [List.getElem?_take_of_lt hk] at e2; exact e2
    have bo : belowO rho.length o = true := List.all_eq_true.mp hb o (List.mem_of_getElem? e2)
    have ro := c.own k a o (p k a e1) e3
    cases o with
    | lst ds => obtain ⟨x, vs, y, z⟩ := ro; exact ⟨x, vs, y, z.undr hn bo⟩
    | ins n fs => obtain ⟨x, C, dx, fvs, m, y, z⟩ := ro; exact ⟨x, C, dx, fvs, m, y, z.undr hn bo⟩
    | dct l => obtain ⟨x, kvs, y, z⟩ := ro; exact ⟨x, kvs, y, z.undr hn bo⟩
    | frz d => exact ro
end
section
variable {P : Program} {w : World} {K : PySem.W.Frag} {mg : Str → Option Value} {base : Heap} {x qual : Str} {stm : Stmt} {f : Addr} {fd : FuncData} {N ps : List Str} {k : Nat} {b : MS} {dvs : List V} {kws : List (Str × V)}
theorem fn_C (Fn : FunD K x qual (defArgs stm) (defBody stm) (defScope stm) dvs kws f fd) (Sc : FnScope N ps (defScope stm)) (hb : Body P w K mg base N qual stm f k b) : FnOk P w K mg base (L2.CX P w) (k + 1) f fd ps (spO K mg ps.length (asC N.length b)) := by
  refine Fn.ok Sc (fun vs H Q E h => ?_) (fun cdv A outer s H vs Q E hr h => ?_)
  · obtain ⟨B, F, rho, st, ss, _, r, l, _⟩ := h
    rw [r.length]; exact l
  · obtain ⟨B, F, rho, st, ss, c, r, l, h⟩ := h
    refine ⟨_, hb cdv A outer s H E B hr, F, rho, _, st, c, slots_start r, ?_⟩
    unfold asC exitC at h
    rw [← c.len] at h
    match q : b (mkSl N.length ss) st with
    | none => rw [q] at h; exact h
    | some (.nx, sl', st') =>
      rw [q] at h
      dsimp only at h
      split at h
      · rename_i hc
        exact fun F' rho' H' s' e1 p1 c1 S1 => h F' rho H' e1 (Pre.refl _) (c1.cut p1 hc.1 hc.2) .non (.val .non)
      · exact h.elim
    | some (.bk, sl', st') => rw [q] at h; exact h.elim
    | some (.ct, sl', st') => rw [q] at h; exact h.elim
    | some (.xc z, sl', st') =>
      rw [q] at h
      dsimp only at h
      split at h
      · rename_i hc
        exact fun F' rho' H' s' e1 p1 c1 S1 cls dd xr => h F' rho H' e1 (Pre.refl _) (c1.cut p1 hc.1 hc.2) cls dd xr
      · exact h.elim
    | some (.rt (.obj j), sl', st') => rw [q] at h; exact h.elim
    | some (.rt (.val d), sl', st') =>
      rw [q] at h
      dsimp only at h
      split at h
      · rename_i hc
        intro F' rho' H' s' e1 p1 c1 S1 v rv
        cases rv with
        | val rv => exact h F' rho H' e1 (Pre.refl _) (c1.cut p1 hc.1 hc.2) v (.val rv)
      · exact h.elim
end
end Cl
namespace Cl
open PySem L2 PySem.Spec PyProof.Rows
/-! ### lambda x: x[:2], called -/
def lamArgs (p : Pos) : Arguments := { posonlyargs := [], args := [{ arg := "start", annotation := none, pos := p }], vararg := none, kwonlyargs := [], kw_defaults := [], kwarg := none, defaults := [] }
def lamBody (p1 p2 p3 p4 : Pos) : Expr := .Subscript (.Name "start" p1) (.Slice none (some (.Constant (.int 2) 0 p2)) none p3) p4
def lamScope : Scope := { kind := .function, names := [("start", .local)], isGenerator := false, isCoroutine := false, more := [] }
theorem key_two {prog : Program} {w : World} {A : Around} {s : Shared} {f c' a : Addr} {pm ctv : Value} {qual : Str} {clos : List (Str × Addr)} {p p1 p2 p3 p4 : Pos} {its : List Value} {i j : Int} {t u : Tok}
    (hf : s.heap.get? f = some (PySem.W.kla_obj "<lambda>" qual (lamArgs p) (lamBody p1 p2 p3 p4) lamScope clos pm c' ctv)) (hcd : s.heap.CodeRec (.ref c') qual) (hroom : A.depth < recursionLimit) (hnl : s.heap.NoLimit)
    (ht : IsTup s.heap a its.toArray) (h0 : its[0]? = some (.int i t)) (h1 : its[1]? = some (.int j u)) (hl : 2 < its.length) (hz : its.length ≤ sizeLine) :
    wpAny (model prog w) A (call (.ref f) [.ref a]) (PySem.W.KeyPure (.tuple [.int i, .int j]) s) (fun _ _ => False) s := by
  refine wpAny_call (PySem.W.kla_callFunE hroom hf rfl rfl rfl rfl hcd ?_)
  have hb : bindArgs (PySem.W.kla_fn "<lambda>" qual (lamArgs p) (lamBody p1 p2 p3 p4) lamScope clos pm (.ref c') ctv) ⟨[.ref a], []⟩ = (pure [("start", Value.ref a)] : Sem (List (Str × Value))) := by rfl
  rw [hb]
  refine wpAny_pure (wpAny_newFunctionEnv (fun y hy => ?_) (fun y hy => ?_) (fun h₁ hns hsb => ⟨hnl.fresh _ hsb, ?_⟩) rfl)
  · have : y = (Str.ofString "start", NameKind.local) := by simpa [PySem.W.kla_fn, lamScope] using hy
    rw [this]; exact fun z => by cases z
  · have : y = (Str.ofString "start", Value.ref a) := by simpa using hy
    rw [this]; rfl
  have kp : ∀ b o, s.heap.get? b = some o → h₁.get? b = some o := fun b o e => hsb.extBut b o (Nat.ne_of_lt (Heap.lt_size e)) (Heap.get?_push_of_some _ e)
  refine PySem.W.kla_codeExpr ?_
  refine Subscript_Slice (wpAny_Name (wpAny_loadName_local rfl rfl hns (v := .ref a) rfl ?_) (by decide))
  refine wpAny_Slice (evalPart_none_step (evalPart_some_step (wpAny_Constant_int (evalPart_none_step ?_))))
  have ht1 := ht.keeps kp
  have ht2 : IsTup (h₁.push { cls := .type "slice", data := .fields #[.none, .int 2 (s.toks + 1), .none] }) a its.toArray := ht1.keeps fun b o e => Heap.get?_push_of_some _ e
  refine ⟨"tuple", _, PyProof.Rows.slot_tuple_getitem.lookup, ht2.typeIs, ?_⟩
  have e0 : HT.sIx its.toArray.size 0 none = 0 := rfl
  have e2 : HT.sIx its.toArray.size its.toArray.size (some 2) = 2 := by
    rw [List.size_toArray]; show HT.sIx its.length its.length (some ((2 : Nat) : Int)) = 2; rw [HT.sIx_nat]; omega
  refine HT.getItem_tuple_cut ht2 (Heap.IsSliceOf.new ..) .none (.int 2 _) (by rw [e0, e2, List.size_toArray]; omega) ?_ (by rw [List.size_toArray]; exact hz)
  rw [e0, e2]
  have hh : ∀ b o, s.heap.get? b = some o → ((h₁.push { cls := .type "slice", data := .fields #[.none, .int 2 (s.toks + 1), .none] }).push { cls := .type "tuple", data := .seq ((its.toArray.toList.drop 0).take (2 - 0)).toArray }).get? b = some o := fun b o e => Heap.get?_push_of_some _ (Heap.get?_push_of_some _ (kp b o e))
  refine ⟨_, _, rfl, hh, .tuple (Heap.get?_push_size _ rfl) rfl rfl ?_⟩
  match its, h0, h1, hl with
  | [], h0, _, _ => simp at h0
  | [_], _, h1, _ => simp at h1
  | a0 :: a1 :: r, h0, h1, _ =>
    simp only [List.getElem?_cons_zero, List.getElem?_cons_succ, Option.some.injEq] at h0 h1
    subst h0 h1
    exact .cons (.int _ _) (.cons (.int _ _) .nil)
/-! ### a lambda is made -/
section
variable {X : Cx} {pins : List (Addr × Obj)} {σ : L2.St} {H : Hp} {s : Shared}
theorem lam_new {c P : Addr} {params : Arguments} {body : Expr} {scope : Scope} {pos : Pos} {E : Value → Shared → Prop} {Q : Value → Shared → Prop} (I : Inv X pins σ H s) (TB : LamX.TabB X.base X.mg c P) (hcode : X.env.code = .ref c)
    (hT : LamX.TabS H P (X.env.qual ++ "<lambda>")) (hdef : defaultsOf params X.env = ([], [])) (hfree : ∀ y ∈ scope.names, y.2 = .free → ∃ c, X.env.cells.lookup y.1 = some c)
    (h : ∀ (f c' : Addr) (pm ctv : Value) (H1 : Hp) (s' : Shared), Inv X pins σ H1 s' → (∀ b o, b ≠ P → H b = some o → H1 b = some o) → LamX.TabS H1 P (X.env.qual ++ "<lambda>") →
      s'.heap.get? f = some (PySem.W.kla_obj "<lambda>" (X.env.qual ++ "<lambda>") params body scope (cloFrom X.env.cells scope.names []) pm c' ctv) → H1 f = none → H1 c' = some (LamX.CodeO c' (X.env.qual ++ "<lambda>")) → Q (.ref f) s') :
    wpAny (model X.prog X.w) X.A (eval (.Lambda params body scope pos) X.env) Q E s := by
  obtain ⟨ps, hP, ht, ha⟩ := hT
  refine PySem.W.kla_eval hdef ?_
  have bP : s.heap.BuiltinsAt X.mg P := TB.bm.keeps I.bk
  have hP' : s.heap.get? P = some { cls := .none, data := .fields ps } := I.hok P _ hP
  cases hc : codeAmong pos ps.toList with
  | none =>
    refine PySem.W.kla_makeFunction (mg := X.mg) (c := c) (P := P) (ps := ps) (closure_ok hfree) I.ok.glob (I.mod.glob.keeps I.bk) hcode (TB.code.keeps I.bk) hP' ht hc TB.gP bP fun c' ctv h' tk hx hge hlt hrec htb => ?_
    obtain ⟨c2, oc, vs, t, e2, hoc, hd, hv⟩ := hrec
    cases e2
    have nC : H c' = none := I.hok.fresh hge
    have I1 := LamX.inv_table (t' := tk) (more := #[rawInt pos.line, rawInt pos.col, .ref c']) (h' := h'.push (PySem.W.kla_obj "<lambda>" (X.env.qual ++ "<lambda>") params body scope (cloFrom X.env.cells scope.names []) ((X.mg "__name__").getD .none) c' ctv)) I hP
      (fun b o hb e => Heap.get?_push_of_some _ (hx b o hb e)) (Heap.get?_push_of_some _ htb) hge ⟨oc, vs, t, Heap.get?_push_of_some _ hoc, hd, hv⟩
    have eL : (ps ++ #[rawInt pos.line, rawInt pos.col, .ref c']).toList = ps.toList ++ [rawInt pos.line, rawInt pos.col, .ref c'] := by simp
    have keep : ∀ b o, b ≠ P → H b = some o → upd (upd H P (.tbl (ps ++ #[rawInt pos.line, rawInt pos.col, .ref c']))) c' (LamX.CodeO c' (X.env.qual ++ "<lambda>")) b = some o := fun b o nb e => by
      rw [upd_ne (ne_of_none e nC), upd_ne nb]; exact e
    refine h h'.objs.size c' ((X.mg "__name__").getD .none) ctv _ _ I1 keep ⟨_, by rw [upd_ne (ne_of_none hP nC), upd_same], by rw [eL]; exact PySem.TriplesOk_snoc _ _ _ _ ht, fun p' cv hcv => ?_⟩ (Heap.get?_push_size _ rfl) ?_ upd_same
    · rw [eL] at hcv
      rcases LamX.among_app _ ht hcv with z | z
      · obtain ⟨c0, e1, e2⟩ := ha p' cv z
        exact ⟨c0, e1, keep _ _ (fun q => by rw [q, hP] at e2; cases e2) e2⟩
      · exact ⟨c', z, upd_same⟩
    · have hsz : s.heap.objs.size ≤ h'.objs.size := Nat.le_trans hge (Nat.le_of_lt hlt)
      rw [upd_ne (Nat.ne_of_gt hlt), upd_ne (Nat.ne_of_gt (Nat.lt_of_lt_of_le (Heap.lt_size hP') hsz))]
      exact I.hok.fresh hsz
  | some cv =>
    obtain ⟨c', e, hco⟩ := ha pos cv hc
    subst e
    refine PySem.W.kla_makeFunctionHit (mg := X.mg) (c := c) (P := P) (ps := ps) (closure_ok hfree) I.ok.glob (I.mod.glob.keeps I.bk) hcode (TB.code.keeps I.bk) hP' ht hc bP fun ctv h' tk hx hsz => ?_
    have I1 : Inv X pins σ H { s with heap := h'.push (PySem.W.kla_obj "<lambda>" (X.env.qual ++ "<lambda>") params body scope (cloFrom X.env.cells scope.names []) ((X.mg "__name__").getD .none) c' ctv), toks := tk } := I.kept fun b o e => Heap.get?_push_of_some _ (hx b o e)
    exact h h'.objs.size c' ((X.mg "__name__").getD .none) ctv H _ I1 (fun _ _ _ e => e) ⟨ps, hP, ht, ha⟩ (Heap.get?_push_size _ rfl) (I.hok.fresh hsz) hco
end
theorem tab_one {K : PySem.W.Frag} {P : Addr} {q q' : Str} (h : IsTab K P q) (h' : IsTab K P q') : q = q' := by
  obtain ⟨ok, p, hp, h1, h2, h3⟩ := h
  obtain ⟨_, p', hp', h1', h2', h3'⟩ := h'
  have nd := of_decide_eq_true ok
  have m1 : p ∈ lamDefs.filter fun p => hdB K p.1 := List.mem_filter.mpr ⟨hp, h1⟩
  have m2 : p' ∈ lamDefs.filter fun p => hdB K p.1 := List.mem_filter.mpr ⟨hp', h1'⟩
  have : p = p' := by
    obtain ⟨i, hi, ei⟩ := List.mem_iff_getElem.mp m1
    obtain ⟨j, hj, ej⟩ := List.mem_iff_getElem.mp m2
    have e : ((lamDefs.filter fun p => hdB K p.1).map fun p => (He.cT K p.1).2)[i]? = ((lamDefs.filter fun p => hdB K p.1).map fun p => (He.cT K p.1).2)[j]? := by
      rw [List.getElem?_map, List.getElem?_map, List.getElem?_eq_getElem hi, List.getElem?_eq_getElem hj, ei, ej]
      exact congrArg some (h2.symm.trans h2')
    have := (List.getElem?_inj (by rw [List.length_map]; exact hi) nd).mp e
    subst this
    rw [← ei, ← ej]
  rw [h3, h3', this]
section
variable {K : PySem.W.Frag} {mg : Str → Option Value} {B F : Hp} {rho : List Addr} {st : List O} {H H1 : Hp} {P : Addr} {q : Str}
/-- the store behind it -/
theorem Core.lam (c : Core K mg B F rho st H) (it : IsTab K P q) (k : ∀ b o, b ≠ P → H b = some o → H1 b = some o) (t : LamX.TabS H1 P q) : Core K mg B F rho st H1 := by
  obtain ⟨hB, hF, _⟩ := c.tabs P q it
  refine ⟨fun b o e => k b o (fun z => by rw [z, hF] at e; cases e) (c.same b o e), fun b o e => k b o (fun z => by rw [z, hB] at e; cases e) (c.frame b o e), c.apart, c.off, c.nd, c.len, fun j b o e1 e2 => ?_, fun j b e => ?_, fun P' q' it' => ?_⟩
  · exact (c.own j b o e1 e2).mono (Same.refl _) (Pre.refl _) (fun z => z) (fun u z => k b u (fun y => c.noX e1 ⟨q, y ▸ it⟩) z)
  · obtain ⟨u, e1, e2⟩ := c.liv j b e
    exact ⟨u, k b u (fun y => c.noX e ⟨q, y ▸ it⟩) e1, e2⟩
  · obtain ⟨h1, h2, ps, h3, h4, h5⟩ := c.tabs P' q' it'
    refine ⟨h1, h2, ?_⟩
    by_cases z : P' = P
    · subst z
      rw [tab_one it' it]; exact t
    · refine ⟨ps, k _ _ z h3, h4, fun pos cv hc => ?_⟩
      obtain ⟨c0, e1, e2⟩ := h5 pos cv hc
      obtain ⟨ps', h6⟩ := tab_at c.tabs it
      exact ⟨c0, e1, k _ _ (fun y => by rw [y, h6] at e2; cases e2) e2⟩
end
end Cl
namespace L2
open PySem PySem.Spec PyProof.Rows
/-! ### sorted(xs), any data -/
def alikesB (ps : List PyData) : Bool := ps.all fun a => ps.all fun b => PySem.W.alike a b
def sortB (ps : List PyData) : Bool := (ps.all fun d => match d with | .tuple (_ :: _) => true | _ => false) || ps.all fun d => match d with | .none => false | .tuple _ => false | _ => true
theorem alikes_ok {ps : List PyData} (h : alikesB ps = true) : PySem.W.AllAlike ps := fun d hd d' hd' => List.all_eq_true.mp (List.all_eq_true.mp h d hd) d' hd'
theorem sort_ok {ps : List PyData} (h : sortB ps = true) : PySem.W.Sortable ps := by
  unfold sortB at h
  rcases Bool.or_eq_true_iff.mp h with h | h
  · refine .inl fun d hd => ?_
    have := List.all_eq_true.mp h d hd
    match d, this with
    | .tuple (x :: r), _ => exact ⟨x, r, rfl⟩
  · refine .inr fun d hd => ?_
    have := List.all_eq_true.mp h d hd
    match d, this with
    | .bool _, _ => exact ⟨(fun z => by cases z), (fun _ z => by cases z)⟩
    | .int _, _ => exact ⟨(fun z => by cases z), (fun _ z => by cases z)⟩
    | .str _, _ => exact ⟨(fun z => by cases z), (fun _ z => by cases z)⟩
    | .list _, _ => exact ⟨(fun z => by cases z), (fun _ z => by cases z)⟩
    | .dict _, _ => exact ⟨(fun z => by cases z), (fun _ z => by cases z)⟩
def rSortedAny (K : PySem.W.Frag) : List V → Hp → VK → Prop := fun vs H Q => ∃ (a : Addr) (prs : List (V × PyData)), vs = [V.ref a] ∧ SqL K H a (prs.map (·.1)) ∧ (∀ y ∈ prs, Dp K H y.1 y.2) ∧ alikesB (prs.map (·.2)) = true ∧ sortB (prs.map (·.2)) = true ∧ (∀ y ∈ prs, y.2.depth ≤ 60) ∧
  ∀ p, H p = none → Q (.ref p) (upd H p (.lst ((prs.mergeSort (PySem.W.dataLe false (·.2))).map (·.1))))
theorem each_of_vals {prs : List (V × PyData)} : ∀ {us : List Value}, Vals (prs.map (·.1)) us → PySem.W.EachIs (fun u (b : V × PyData) => RelV b.1 u) us prs := by
  induction prs with
  | nil => intro us r; cases r; exact .nil
  | cons b l ih => intro us r; cases r with | cons h t => exact .cons h (ih t)
theorem vals_of_each : ∀ {us : List Value} {prs : List (V × PyData)}, PySem.W.EachIs (fun u (b : V × PyData) => RelV b.1 u) us prs → Vals (prs.map (·.1)) us
  | _, _, .nil => .nil
  | _, _, .cons h t => .cons h (vals_of_each t)
theorem each_mem2 {α β : Type} {R : α → β → Prop} : ∀ {us : List α} {bs : List β}, PySem.W.EachIs R us bs → PySem.W.EachIs (fun u b => R u b ∧ b ∈ bs) us bs
  | _, _, .nil => .nil
  | _, _, .cons h t => .cons ⟨h, List.mem_cons_self⟩ ((each_mem2 t).mono fun _ _ ⟨a, b⟩ => ⟨a, List.mem_cons_of_mem _ b⟩)
section
variable {X : Cx}
theorem cr_sortedAny (hu : X.A.units + 65 < cLine) : CallR X (.builtin "sorted") (rSortedAny X.K) := by
  intro pins s σ H xs us Q I r h
  obtain ⟨a, prs, rfl, hs, hd, hal, hk, hdp, q⟩ := h
  obtain ⟨u1, rfl, r1⟩ := vals1 r
  cases (show u1 = Value.ref a from r1)
  obtain ⟨its, rv, hl, hz⟩ := I.list hs
  have e := each_of_vals rv
  rw [List.length_map] at hz
  refine PySem.W.sorted_data (enc := (·.2)) hl.isList e ((each_mem2 e).mono fun v b ⟨h1, h2⟩ => Dp.reads I b.2 b.1 v (hd b h2) h1) (alikes_ok hal) (sort_ok hk) hz (fun b hb => by have := hdp b hb; omega) fun out ho eo => ?_
  obtain ⟨ep, he'⟩ := PyProof.Rows.sortedAll_at s.heap its out.toArray
  refine ⟨.ref _, upd H (s.heap.objs.size + 1) (.lst ((prs.mergeSort (PySem.W.dataLe false (·.2))).map (·.1))), I.laid (t' := s.toks) (fun _ _ => PyProof.Rows.sortedAll_old) (Nat.le_succ _) ⟨?_, _, ep, vals_of_each eo, he'⟩, rfl, q _ (I.hok.fresh (Nat.le_succ _))⟩
  rw [List.length_map, List.length_mergeSort]; exact hz
/-! ### sorted(xs, key=lambda x: x[:2]) -/
def tSortLam (K : PySem.W.Frag) (P : Addr) (q : Str) (te : TE) : TE := fun σ H Q => te σ H fun x H1 => ∃ (a : Addr) (prs : List (V × Int × Int)), x = V.ref a ∧ SqL K H1 a (prs.map (·.1)) ∧ (∀ y ∈ prs, ∃ t r, y.1 = V.ref t ∧ SqT K H1 t (.int y.2.1 :: .int y.2.2 :: r) ∧ r ≠ []) ∧ LamX.TabS H1 P q ∧
  ∀ H2 p, (∀ b o, b ≠ P → H1 b = some o → H2 b = some o) → LamX.TabS H2 P q → H2 p = none → Q (.ref p) (upd H2 p (.lst ((prs.mergeSort fun u v => decide (u.2.1 < v.2.1 ∨ (u.2.1 = v.2.1 ∧ u.2.2 ≤ v.2.2))).map (·.1))))
theorem each_of_vals2 {prs : List (V × Int × Int)} : ∀ {us : List Value}, Vals (prs.map (·.1)) us → PySem.W.EachIs (fun u (b : V × Int × Int) => RelV b.1 u) us prs := by
  induction prs with
  | nil => intro us r; cases r; exact .nil
  | cons b l ih => intro us r; cases r with | cons h t => exact .cons h (ih t)
theorem vals_of_each2 : ∀ {us : List Value} {prs : List (V × Int × Int)}, PySem.W.EachIs (fun u (b : V × Int × Int) => RelV b.1 u) us prs → Vals (prs.map (·.1)) us
  | _, _, .nil => .nil
  | _, _, .cons h t => .cons h (vals_of_each2 t)
theorem pe_sortLam {k : Nat} {c P : Addr} {e : Expr} {te : TE} {p p0 p1 p2 p3 p4 lp kp pos : Pos} (hr : Room (k + 1) X.A) (TB : LamX.TabB X.base X.mg c P) (hcode : X.env.code = .ref c) (he : PE X e te) (hm : X.mg "sorted" = none) (hg : Gl X "sorted" := by rfl)
    (hst : backTo pos (starEach [e] X.env) = (false, eval e X.env) :: backTo pos (starEach [] X.env) := by rfl) (hpl : (backTo pos (starEach [e] X.env)).any (·.1) = false := by rfl) (na : starEach [e] X.env = (false, eval e X.env) :: starEach [] X.env := by rfl) :
    PE X (.Call (.Name "sorted" p) [e] [⟨some "key", .Lambda (Cl.lamArgs p0) (Cl.lamBody p1 p2 p3 p4) Cl.lamScope lp, kp⟩] pos) (tSortLam X.K P (X.env.qual ++ "<lambda>") te) := by
  refine ⟨fun pins s σ H Q I h => ?_⟩
  refine wpAny_Call_Name_kw (ld_blt I hg hm (by decide +kernel : bootBuiltins "sorted" = some (.builtin "sorted")) ?_ (by decide) (by decide))
  refine PyProof.Rows.callWith_kw (one_arg he I h (fun v s1 x H1 I1 r1 q1 => ?_) na) hst hpl
  obtain ⟨a, prs, rfl, hs, hd, hT, q⟩ := q1
  cases (show v = Value.ref a from r1)
  show wpAny _ _ (evalAll [(do let v ← eval (.Lambda (Cl.lamArgs p0) (Cl.lamBody p1 p2 p3 p4) Cl.lamScope lp) X.env; standAt pos; pure v)]) _ _ s1
  refine wpAny_evalAll_cons (wpAny_bind (Cl.lam_new I1 TB hcode hT rfl (fun y hy e => ?_) fun f c' pm ctv H2 s2 I2 k2 T2 hf hfn hc' => wpAny_bind (wpAny_standAt (wpAny_pure (wpAny_evalAll_nil ?_)))))
  · have : y = (Str.ofString "start", NameKind.local) := by simpa [Cl.lamScope] using hy
    rw [this] at e; cases e
  show wpAny _ _ (call (.builtin "sorted") [.ref a] [(Str.ofString "key", .ref f)]) _ _ s2
  obtain ⟨ps0, hPP, _⟩ := hT
  have sT : ∀ {t : Addr} {xs : List V}, SqT X.K H1 t xs → SqT X.K H2 t xs := fun {t xs} z => by
    rcases z with (z | ⟨o, z⟩) | z
    · exact .inl (.inl (k2 _ _ (fun y => by rw [y, hPP] at z; cases z) z))
    · exact .inl (.inr ⟨o, k2 _ _ (fun y => by rw [y, hPP] at z; cases z) z⟩)
    · exact .inr z
  have sL : SqL X.K H2 a (prs.map (·.1)) := by
    rcases hs with (z | ⟨o, z⟩) | z
    · exact .inl (.inl (k2 _ _ (fun y => by rw [y, hPP] at z; cases z) z))
    · exact .inl (.inr ⟨o, k2 _ _ (fun y => by rw [y, hPP] at z; cases z) z⟩)
    · exact .inr z
  obtain ⟨its, rv, hl, hz⟩ := I2.list sL
  have e := each_of_vals2 rv
  rw [List.length_map] at hz
  obtain ⟨⟨oc, vs, tt, hoc, hdc, hvc⟩, _, _⟩ := I2.hok c' _ hc'
  have al : PySem.W.AllAlike (prs.map fun b => PyData.tuple [.int b.2.1, .int b.2.2]) := fun d hd d' hd' => by
    obtain ⟨b, _, rfl⟩ := List.mem_map.mp hd
    obtain ⟨b', _, rfl⟩ := List.mem_map.mp hd'
    rfl
  have so : PySem.W.Sortable (prs.map fun b => PyData.tuple [.int b.2.1, .int b.2.2]) := .inl fun d hd => by
    obtain ⟨b, _, rfl⟩ := List.mem_map.mp hd
    exact ⟨_, _, rfl⟩
  refine PySem.W.sorted_key_data (fun b : V × Int × Int => PyData.tuple [.int b.2.1, .int b.2.2]) hl.isList e al so hz (fun b hb => ?_) (PyProof.Rows.ksk_s1 _ _) (fun x => PyProof.Rows.ksk_l1 _ _) (fun x => PyProof.Rows.ksk_t1 f x) (fun v b hR hb h tk kp => ?_) fun out cc h' tk kp hn hD ho eo => ?_
  · have := hr.un
    show X.A.units + 2 + 1 < cLine
    omega
  · obtain ⟨t, r, e1, e2, e3⟩ := hd b hb
    rw [e1] at hR
    cases (show v = Value.ref t from hR)
    obtain ⟨its2, rv2, ht2, hz2⟩ := I2.tuple (sT e2)
    cases rv2 with
    | @cons _ u1 _ _ ra rt =>
      cases rt with
      | @cons _ u2 _ us rb rt =>
        obtain ⟨t1, rfl⟩ := (show ∃ t, u1 = Value.int b.2.1 t from ra)
        obtain ⟨t2, rfl⟩ := (show ∃ t, u2 = Value.int b.2.2 t from rb)
        refine Cl.key_two (s := { s2 with heap := h, toks := tk }) (kp f _ hf) ⟨c', oc, vs, tt, rfl, kp _ _ hoc, hdc, hvc⟩ ?_ (I2.nolimit.keeps kp) (ht2.keeps kp) rfl rfl ?_ ?_
        · have := hr.dp
          show X.A.depth < recursionLimit
          omega
        · have := rt.length
          cases r with
          | nil => exact absurd rfl e3
          | cons _ _ => simp only [List.length_cons] at this ⊢; omega
        · have := rt.length
          simp only [List.length_cons] at hz2 ⊢; omega
  · have le : PySem.W.dataLe false (fun b : V × Int × Int => PyData.tuple [.int b.2.1, .int b.2.2]) = fun u v => decide (u.2.1 < v.2.1 ∨ (u.2.1 = v.2.1 ∧ u.2.2 ≤ v.2.2)) := PySem.W.dataLe_ii (fun b : V × Int × Int => b.2.1) (fun b => b.2.2)
    rw [le] at eo
    refine ⟨.ref _, upd H2 (s2.heap.objs.size + 1) (.lst ((prs.mergeSort fun u v => decide (u.2.1 < v.2.1 ∨ (u.2.1 = v.2.1 ∧ u.2.2 ≤ v.2.2))).map (·.1))), I2.laid (t' := tk) kp (Nat.le_succ _) ⟨?_, _, cc, vals_of_each2 eo, hD⟩, rfl, q H2 _ k2 T2 (I2.hok.fresh (Nat.le_succ _))⟩
    rw [List.length_map, List.length_mergeSort]; exact hz
end
end L2
namespace Cl
open PySem L2
/-! ### sorted -/
def encD (d : D) : PyData := (toP d).getD .none
noncomputable def gSorted (x : S) : M S := fun st => match (lstOf x st).bind datas with
  | some ds => match toPs ds with
    | some ps => if alikesB ps = true ∧ sortB ps = true ∧ (ps.all fun p => decide (p.depth ≤ 60)) = true then ok1 (.lst (ds.mergeSort (PySem.W.dataLe false encD))) st else none
    | none => none
  | none => none
section
variable {K : PySem.W.Frag} {mg : Str → Option Value} {B F : Hp} {rho : List Addr} {st : List O} {H : Hp}
theorem toPs_enc : ∀ {ds : List D} {ps : List PyData}, toPs ds = some ps → ps = ds.map encD ∧ ∀ d ∈ ds, toP d = some (encD d)
  | [], ps, h => by unfold toPs at h; cases h; exact ⟨rfl, fun d hd => by cases hd⟩
  | d :: r, ps, h => by
    unfold toPs at h
    match e1 : toP d, e2 : toPs r with
    | some a, some b =>
      rw [e1, e2] at h; cases h
      obtain ⟨h1, h2⟩ := toPs_enc e2
      have ed : encD d = a := by unfold encD; rw [e1]; rfl
      refine ⟨by rw [List.map_cons, ed, h1], fun d' hd => ?_⟩
      rcases List.mem_cons.mp hd with rfl | hd
      · rw [e1, ed]
      · exact h2 d' hd
    | none, _ => rw [e1] at h; cases h
    | some a, none => rw [e1, e2] at h; cases h
theorem Reps.zip : ∀ {vs : List V} {ds : List D}, Reps K mg F vs ds → ∀ z ∈ vs.zip ds, Rep K mg F z.1 z.2
  | _, _, .nil, z, h => by cases h
  | _, _, .cons r t, z, h => by
    rcases List.mem_cons.mp h with rfl | h
    · exact r
    · exact Reps.zip t z h
theorem reps_of_zip : ∀ {l : List (V × D)}, (∀ z ∈ l, Rep K mg F z.1 z.2) → Reps K mg F (l.map (·.1)) (l.map (·.2))
  | [], _ => .nil
  | z :: l, h => .cons (h z List.mem_cons_self) (reps_of_zip fun y hy => h y (List.mem_cons_of_mem _ hy))
theorem cs_sorted : CallS K mg (rSortedAny K) (g1 gSorted) := cs_one fun W B F rho st H x dx Q c rx h => by
  unfold gSorted at h
  match e : (lstOf dx st).bind datas with
  | none => rw [e] at h; exact h.elim
  | some ds =>
    rw [e] at h
    dsimp only at h
    match e2 : toPs ds with
    | none => rw [e2] at h; exact h.elim
    | some ps =>
      rw [e2] at h
      dsimp only at h
      split at h
      · rename_i hc
        obtain ⟨ss, h1, h2⟩ := Option.bind_eq_some_iff.mp e
        obtain ⟨a, vs, rfl, hs, rs⟩ := lst_at c rx h1
        have rd := rs.datas h2
        obtain ⟨eP, tP⟩ := toPs_enc e2
        have hl := rd.length
        let T := vs.zip ds
        have hT1 : T.map (·.1) = vs := by show (vs.zip ds).map _ = _; rw [List.map_fst_zip (by omega)]
        have hT2 : T.map (·.2) = ds := by show (vs.zip ds).map _ = _; rw [List.map_snd_zip (by omega)]
        have e3 : (T.map fun z => (z.1, encD z.2)).map (·.1) = vs := by rw [List.map_map]; exact hT1
        have e4 : (T.map fun z => (z.1, encD z.2)).map (·.2) = ps := by rw [List.map_map, eP, ← hT2, List.map_map]; rfl
        refine ⟨a, T.map fun z => (z.1, encD z.2), rfl, by rw [e3]; exact SqL.of hs, fun y hy => ?_, by rw [e4]; exact hc.1, by rw [e4]; exact hc.2.1, fun y hy => ?_, fun p hp => ?_⟩
        · obtain ⟨z, hz, rfl⟩ := List.mem_map.mp hy
          exact toP_ok c.same (rd.zip z hz) (tP _ (List.of_mem_zip hz).2)
        · have : y.2 ∈ ps := by rw [← e4]; exact List.mem_map_of_mem hy
          exact of_decide_eq_true (List.all_eq_true.mp hc.2.2 _ this)
        · have m1 : ((T.map fun z => (z.1, encD z.2)).mergeSort (PySem.W.dataLe false (·.2))).map (·.1) = (T.mergeSort (PySem.W.dataLe false fun z => encD z.2)).map (·.1) := by
            rw [← List.map_mergeSort (f := fun z : V × D => (z.1, encD z.2)) (r := PySem.W.dataLe false fun z => encD z.2) (fun _ _ _ _ => rfl), List.map_map]
            rfl
          have m2 : ds.mergeSort (PySem.W.dataLe false encD) = (T.mergeSort (PySem.W.dataLe false fun z => encD z.2)).map (·.2) := by
            rw [List.map_mergeSort (f := fun z : V × D => z.2) (r := PySem.W.dataLe false fun z => encD z.2) (s := PySem.W.dataLe false encD) (fun _ _ _ _ => rfl), hT2]
          rw [m2] at h
          rw [m1]
          have rr : Reps K mg F ((T.mergeSort (PySem.W.dataLe false fun z => encD z.2)).map (·.1)) ((T.mergeSort (PySem.W.dataLe false fun z => encD z.2)).map (·.2)) := reps_of_zip fun z hz => rd.zip z ((List.mergeSort_perm T _).mem_iff.mp hz)
          exact h (upd F p _) rho _ (same_upd (c.same.free hp)) (Pre.refl _) (c.alloc hp) _ (.val (.lst upd_same (rr.mono (same_upd (c.same.free hp)))))
      · exact h.elim
end
/-- sorted by the first two numbers -/
def twoO (d : D) : Option (Int × Int) := match d with
  | .tup (.int i :: .int j :: _ :: _) => some (i, j)
  | _ => none
def twoD (d : D) : Int × Int := (twoO d).getD (0, 0)
def leTwo (a b : D) : Bool := decide ((twoD a).1 < (twoD b).1 ∨ ((twoD a).1 = (twoD b).1 ∧ (twoD a).2 ≤ (twoD b).2))
def gSort2 (x : S) : M S := fun st => match (lstOf x st).bind datas with
  | some ds => if (ds.all fun d => (twoO d).isSome) = true then ok1 (.lst (ds.mergeSort leTwo)) st else none
  | none => none
@[simp] def eSort2 (fe : ME) : ME := fun sl => (fe sl).bind gSort2
section
variable {X : Cx} {B : Hp} {W : WX}
theorem qe_sortLam {k : Nat} {c P : Addr} {e : Expr} {fe : ME} {p p0 p1 p2 p3 p4 lp kp pos : Pos} (hr : Room (k + 1) X.A) (TB : LamX.TabB X.base X.mg c P) (hcode : X.env.code = .ref c) (it : IsTab X.K P (X.env.qual ++ "<lambda>")) (hm : X.mg "sorted" = none) (he : QE X B W e fe) (hg : Gl X "sorted" := by rfl)
    (hst : backTo pos (starEach [e] X.env) = (false, eval e X.env) :: backTo pos (starEach [] X.env) := by rfl) (hpl : (backTo pos (starEach [e] X.env)).any (·.1) = false := by rfl) (na : starEach [e] X.env = (false, eval e X.env) :: starEach [] X.env := by rfl) :
    QE X B W (.Call (.Name "sorted" p) [e] [⟨some "key", .Lambda (Cl.lamArgs p0) (Cl.lamBody p1 p2 p3 p4) Cl.lamScope lp, kp⟩] pos) (eSort2 fe) := by
  refine PEimp (pe_sortLam hr TB hcode he hm hg hst hpl na) fun s H Q q => one_of q fun F rho sl st H x dx c S' rx h => ?_
  unfold gSort2 at h
  match e : (lstOf dx st).bind datas with
  | none => rw [e] at h; exact h.elim
  | some ds =>
    rw [e] at h
    dsimp only at h
    split at h
    · rename_i hc
      obtain ⟨ss, h1, h2⟩ := Option.bind_eq_some_iff.mp e
      obtain ⟨a, vs, rfl, hs, rs⟩ := lst_at c rx h1
      have rd := rs.datas h2
      have hl := rd.length
      let T := vs.zip ds
      have hT1 : T.map (·.1) = vs := by show (vs.zip ds).map _ = _; rw [List.map_fst_zip (by omega)]
      have hT2 : T.map (·.2) = ds := by show (vs.zip ds).map _ = _; rw [List.map_snd_zip (by omega)]
      have e3 : (T.map fun z => (z.1, twoD z.2)).map (·.1) = vs := by rw [List.map_map]; exact hT1
      refine ⟨a, T.map fun z => (z.1, twoD z.2), rfl, by rw [e3]; exact SqL.of hs, fun y hy => ?_, (c.tabs _ _ it).2.2, fun H2 p k2 T2 hp => ?_⟩
      · obtain ⟨z, hz, rfl⟩ := List.mem_map.mp hy
        have rz := rd.zip z hz
        have := List.all_eq_true.mp hc z.2 (List.of_mem_zip hz).2
        match z, this, rz with
        | (v, .tup (.int i :: .int j :: d3 :: r)), _, rz =>
          cases rz with
          | tup h3 h4 =>
            cases h4 with
            | cons ra h4 =>
              cases ra
              cases h4 with
              | cons rb h4 =>
                cases rb
                refine ⟨_, _, rfl, SqT_mono c.same h3, fun z => ?_⟩
                subst z
                cases h4
      · have c2 := c.lam it k2 T2
        have m1 : ((T.map fun z => (z.1, twoD z.2)).mergeSort fun u v => decide (u.2.1 < v.2.1 ∨ (u.2.1 = v.2.1 ∧ u.2.2 ≤ v.2.2))).map (·.1) = (T.mergeSort fun u v => leTwo u.2 v.2).map (·.1) := by
          rw [← List.map_mergeSort (f := fun z : V × D => (z.1, twoD z.2)) (r := fun u v => leTwo u.2 v.2) (fun _ _ _ _ => rfl), List.map_map]
          rfl
        have m2 : ds.mergeSort leTwo = (T.mergeSort fun u v => leTwo u.2 v.2).map (·.2) := by
          rw [List.map_mergeSort (f := fun z : V × D => z.2) (s := leTwo) (fun _ _ _ _ => rfl), hT2]
        rw [m2] at h
        rw [m1]
        have rr : Reps X.K X.mg F ((T.mergeSort fun u v => leTwo u.2 v.2).map (·.1)) ((T.mergeSort fun u v => leTwo u.2 v.2).map (·.2)) := reps_of_zip fun z hz => rd.zip z ((List.mergeSort_perm T _).mem_iff.mp hz)
        exact h (upd F p _) rho _ (same_upd (c2.same.free hp)) (Pre.refl _) (c2.alloc hp) _ (.val (.lst upd_same (rr.mono (same_upd (c2.same.free hp)))))
    · exact h.elim
end
end Cl
namespace Cl
open PySem L2
/-! ### a def that returns a new list -/
section
variable (K : PySem.W.Frag) (mg : Str → Option Value)
def PostN (F H : Hp) (Q : VK) (E : XK) (m : Option (Except XD D)) : Prop := match m with
  | some (.ok (.lst ds)) => ∀ F' H' a vs, Same F F' → Same F' H' → SameX K H H' → Fresh F F' H → Tabs K F' H' → F' a = none → H a = none → H' a = some (.lst vs) → Reps K mg F' vs ds → Q (.ref a) H'
  | some (.error x) => ∀ F' H', Same F F' → Same F' H' → SameX K H H' → Fresh F F' H → Tabs K F' H' → ∀ cls dd, XRep K mg F' cls dd x → E cls dd H'
  | _ => False
def spN (n : Nat) (f : PF) : Sp := fun vs H Q E => ∃ F ds, Same F H ∧ Tabs K F H ∧ Reps K mg F vs ds ∧ ds.length = n ∧ PostN K mg F H Q E (f ds)
end
@[simp] def exitN (r : Option (Fl × Sl × List O)) : Option (Except XD D) := match r with
  | some (.rt (.obj j), _, st) => match st[j]? with
    | some (.lst l) => (datas l).map fun ds => .ok (.lst ds)
    | _ => none
  | some (.xc x, _, _) => some (.error x)
  | _ => none
@[simp] def asN (n : Nat) (b : MS) : PF := fun ds => exitN (b (mkSl n (ds.map .val)) [])
section
variable {P : Program} {w : World} {K : PySem.W.Frag} {mg : Str → Option Value} {base : Heap} {x qual : Str} {stm : Stmt} {f : Addr} {fd : FuncData} {N ps : List Str} {k : Nat} {b : MS} {dvs : List V} {kws : List (Str × V)}
theorem fn_N (Fn : FunD K x qual (defArgs stm) (defBody stm) (defScope stm) dvs kws f fd) (Sc : FnScope N ps (defScope stm)) (hb : Body P w K mg base N qual stm f k b) : FnOk P w K mg base (L2.CX P w) (k + 1) f fd ps (spN K mg ps.length (asN N.length b)) := by
  refine Fn.ok Sc (fun vs H Q E h => ?_) (fun cdv A outer s H vs Q E hr h => ?_)
  · obtain ⟨F, ds, _, _, r, l, _⟩ := h
    rw [r.length]; exact l
  · obtain ⟨F, ds, e, tb, r, l, h⟩ := h
    refine ⟨_, hb cdv A outer s H E (less K H F) hr, F, [], _, [], Core.start e tb, slots_start r.vals, ?_⟩
    unfold asN exitN at h
    match q : b (mkSl N.length (ds.map .val)) [] with
    | none => rw [q] at h; exact h.elim
    | some (.nx, sl', st') => rw [q] at h; exact h.elim
    | some (.bk, sl', st') => rw [q] at h; exact h.elim
    | some (.ct, sl', st') => rw [q] at h; exact h.elim
    | some (.xc z, sl', st') =>
      rw [q] at h
      exact fun F' rho' H' s' e1 p1 c1 S1 cls dd xr => h F' H' e1 c1.same (c1.all e e1) c1.fresh c1.tb cls dd xr
    | some (.rt (.val d), sl', st') => rw [q] at h; exact h.elim
    | some (.rt (.obj j), sl', st') =>
      rw [q] at h
      dsimp only at h
      intro F' rho' H' s' e1 p1 c1 S1 v rv
      cases rv with
      | @obj _ a q2 =>
        match e2 : st'[j]? with
        | some (.lst ss) =>
          rw [e2] at h
          dsimp only at h
          match e3 : datas ss with
          | none => rw [e3] at h; exact h.elim
          | some dd =>
            rw [e3] at h
            obtain ⟨hF, us, hH, rs⟩ := c1.own j a _ q2 e2
            have hB := c1.off j a q2
            have hn : H a = none := by
              unfold less at hB
              split at hB
              · exact hB
              · rename_i hc
                have fa0 : F a = none := by
                  cases z : F a with
                  | none => rfl
                  | some u => rw [e1 a u z] at hF; cases hF
                exact absurd ⟨fa0, c1.noX q2⟩ hc
            exact h F' H' a us e1 c1.same (c1.all e e1) c1.fresh c1.tb hF hn hH (rs.datas e3)
        | some (.frz _) => rw [e2] at h; exact h.elim
        | some (.ins _ _) => rw [e2] at h; exact h.elim
        | some (.dct _) => rw [e2] at h; exact h.elim
        | none => rw [e2] at h; exact h.elim
end
@[simp] def gCallN (n : Nat) (f : PF) (dds : List D) (ss : List S) : M S := (toDs ss).bind fun ds => fun st => if (ds ++ dds).length = n then (match f (ds ++ dds) with
  | some (.ok (.lst l)) => some (.ok (.obj st.length), st ++ [.lst (l.map .val)])
  | some (.error x) => some (.error x, st)
  | _ => none) else none
section
variable {K : PySem.W.Frag} {mg : Str → Option Value} {B F : Hp} {rho : List Addr} {st : List O} {H : Hp} {vs dvs : List V} {ss : List S} {dds : List D} {n : Nat} {Q : VK} {E : XK}
/-- a list that came from elsewhere -/
theorem Core.adopt {a : Addr} {us : List V} {l : List D} (c : Core K mg B F rho st H) (hF : F a = none) (hB : B a = none) (hr : a ∉ rho) (hH : H a = some (.lst us)) (r : Reps K mg F us l) : Core K mg B F (rho ++ [a]) (st ++ [.lst (l.map .val)]) H := by
  have at_ : ∀ (k : Nat) (b : Addr), (rho ++ [a])[k]? = some b → (k < rho.length ∧ rho[k]? = some b) ∨ (k = rho.length ∧ b = a) := fun k b e => by
    by_cases hk : k < rho.length
    · rw [List.getElem?_append_left hk] at e; exact .inl ⟨hk, e⟩
    · have hk' : k = rho.length := by
        have := (List.getElem?_eq_some_iff.mp e).1
        rw [List.length_append] at this; simp at this; omega
      subst hk'
      rw [List.getElem?_append_right (Nat.le_refl _), Nat.sub_self] at e
      cases e
      exact .inr ⟨rfl, rfl⟩
  refine ⟨c.same, c.frame, c.apart, fun k b e => ?_, ?_, ?_, fun k b q e1 e2 => ?_, fun k b e => ?_, c.tabs⟩
  · rcases at_ k b e with ⟨_, e⟩ | ⟨_, rfl⟩
    · exact c.off k b e
    · exact hB
  · refine List.nodup_append.mpr ⟨c.nd, by simp, fun x hx y hy => ?_⟩
    have : y = a := by simpa using hy
    rw [this]; exact fun z => hr (z ▸ hx)
  · rw [List.length_append, List.length_append, c.len]; rfl
  · rcases at_ k b e1 with ⟨hk, e⟩ | ⟨rfl, rfl⟩
    · rw [List.getElem?_append_left (by rw [← c.len]; exact hk)] at e2
      exact (c.own k b q e e2).mono (Same.refl _) (Pre.app _ _) (fun z => z) (fun u z => z)
    · rw [c.len, List.getElem?_append_right (Nat.le_refl _), Nat.sub_self] at e2
      cases e2
      exact ⟨hF, us, hH, r.vals⟩
  · rcases at_ k b e with ⟨_, e⟩ | ⟨_, rfl⟩
    · exact c.liv k b e
    · exact ⟨_, hH, rfl⟩
theorem callN_post {f : PF} (c : Core K mg B F rho st H) (rs : RepSs K mg F rho vs ss) (rd : ∀ F, Reps K mg F dvs dds) (h : Post K mg B (fun F' rho' H' d => ∀ v, RepS K mg F' rho' v d → Q v H') (fun c d H' => E c d H') F rho (gCallN n f dds ss st)) :
    spN K mg n f (vs ++ dvs) H Q E := by
  obtain ⟨F1, st1, ds, e1, c1, r1, st2, c2, e2, p2, h2⟩ := toDs_ok c rs h.bind
  split at h2
  · rename_i hl
    refine ⟨F1, ds ++ dds, c2.same, c2.tb, r1.append (rd F1), hl, ?_⟩
    match q : f (ds ++ dds) with
    | none => rw [q] at h2; exact h2.elim
    | some (.ok (.lst l)) =>
      rw [q] at h2
      intro F' H' a us e e' e3 fr tb hF hn hH r
      have c3 := c2.grow e e' e3 fr tb
      have hr : a ∉ rho := fun z => by
        obtain ⟨k, hk⟩ := List.getElem?_of_mem z
        exact c2.live k a hk hn
      refine h2 F' (rho ++ [a]) H' e (Pre.app _ _) (c3.adopt hF (c2.frame.free hn) hr hH r) _ (.obj ?_)
      rw [← c2.len, List.getElem?_append_right (Nat.le_refl _), Nat.sub_self]; rfl
    | some (.error x) => rw [q] at h2; exact fun F' H' e e' e3 fr tb cls dd xr => h2 F' rho H' e (Pre.refl _) (c2.grow e e' e3 fr tb) cls dd xr
    | some (.ok .non) => rw [q] at h2; exact h2.elim
    | some (.ok (.bl _)) => rw [q] at h2; exact h2.elim
    | some (.ok (.int _)) => rw [q] at h2; exact h2.elim
    | some (.ok (.str _)) => rw [q] at h2; exact h2.elim
    | some (.ok (.tup _)) => rw [q] at h2; exact h2.elim
    | some (.ok (.scr _)) => rw [q] at h2; exact h2.elim
    | some (.ok (.ins _ _)) => rw [q] at h2; exact h2.elim
    | some (.ok (.dct _)) => rw [q] at h2; exact h2.elim
    | some (.ok (.vv _)) => rw [q] at h2; exact h2.elim
  · exact h2.elim
end
def CallNOk (P : Program) (w : World) (K : PySem.W.Frag) (mg : Str → Option Value) (base : Heap) (x : Str) (k n : Nat) (dds : List D) (f : PF) : Prop := ∃ (fa : Addr) (fd : FuncData) (ps : List Str) (dvs : List V) (dsv : List Value), FnOk P w K mg base (L2.CX P w) k fa fd ps (spN K mg n f) ∧ mg x = some (.ref fa) ∧ PySem.W.keepIn K (.ref fa) = true ∧ Binds K fd ps dsv ∧ Vals dvs dsv ∧ (∀ F, Reps K mg F dvs dds)
section
variable {X : Cx} {B : Hp} {W : WX} {k j n : Nat} {dds : List D} {x c m : Str} {p p2 pos apos pos2 : Pos} {e o : Expr} {es : List Expr} {fs : MA} {fo fe : ME} {f : PF} {g : OF}
theorem qe_cN (h : CallNOk X.prog X.w X.K X.mg X.base x j n dds f) (hr : Room k X.A) (hj : j ≤ k) (tk : Takes X W) (ha : QA X B W (e :: es) fs) (hg : Gl X x := by rfl) (hdb : (x == ("__debug__" : Str)) = false := by decide) (he : starEach (e :: es) X.env = (false, eval e X.env) :: starEach es X.env := by rfl) (hpl : (backTo pos (starEach es X.env)).any (·.1) = false := by rfl) :
    QE X B W (.Call (.Name x p) (e :: es) [] pos) (eArgs (gCallN n f dds) fs) := by
  obtain ⟨fa, fd, ps, dvs, dsv, F, hm, hk, hb, hd, rd⟩ := h
  exact PEimp (pe_callSD F (hr.mono hj) hg hm hk hb hd (fun σ => passAt tk σ) ha hdb he hpl) fun s H Q q => args_of q fun F rho st H vs ds c rs p => callN_post c rs rd p
/-! ### names of built-in types; isinstance -/
theorem qe_ty {T : String} (hm : X.mg x = none) (hv : bootBuiltins x = some (.type T)) (hg : Gl X x := by rfl) (hn : x ≠ "__name__" := by decide) (hdb : (x == ("__debug__" : Str)) = false := by decide) : QE X B W (.Name x pos) (eC (.vv (.ty T))) :=
  ⟨fun pins s σ H Q I ⟨F, rho, sl, st, c, S', h⟩ => ld_blt I hg hm hv ⟨.ty T, H, I, rfl, h.done c _ (.val (.vv _))⟩ hn hdb⟩
/-! ### -x -/
@[simp] def gNeg : S → M S
  | .val (.int i) => fun st => ok1 (.int (-i)) st
  | _ => M.stuck
@[simp] def eNeg (a : ME) : ME := fun sl => (a sl).bind gNeg
theorem qe_neg (he : QE X B W e fe) : QE X B W (.UnaryOp .USub e pos) (eNeg fe) := by
  refine PEimp (pe_un un_neg he) fun s H Q q => one_of q fun F rho sl st H x dx c S' rx h => ?_
  cases rx with
  | obj _ => exact h.elim
  | val rx =>
    cases rx with
    | int i => exact ⟨i, rfl, h.done c _ (.val (.int _))⟩
    | _ => exact h.elim
/-! ### *xs among the items -/
@[simp] def aStar (a : ME) (r : MA) : MA := fun sl => (a sl).bind fun x => fun st => match seqOf x st with
  | some l => (r sl).bind (fun l2 => M.pure (l ++ l2)) st
  | none => none
theorem qa_star (he : QE X B W e fe) (ha : QA X B W es fs) (hs : starEach (.Starred e p :: es) X.env = (true, eval e X.env) :: starEach es X.env := by rfl) : QA X B W (.Starred e p :: es) (aStar fe fs) := by
  refine PAimp (StX.pa_star he ha hs) fun s H Q q => ?_
  obtain ⟨F, rho, sl, st, c, S', h⟩ := q
  refine ⟨F, rho, sl, st, c, S', h.bind.mono (Same.refl _) (Pre.refl _) (fun F1 r1 H1 dx e1 p1 h1 x rx => ?_) fun _ _ _ z => z⟩
  obtain ⟨st1, c1, _, _, h1⟩ := h1
  match e2 : seqOf dx st1 with
  | none => rw [e2] at h1; exact h1.elim
  | some l =>
    rw [e2] at h1
    obtain ⟨a, vs, rfl, hs', rs⟩ := seq_at c1 rx e2
    refine ⟨a, vs, rfl, hs'.symm, F1, r1, sl, st1, c1, S'.mono e1 p1, Post.mono (Post.bind h1) (Same.refl _) (Pre.refl _) (fun F2 r2 H2 l2 e3 p3 h2 ys rys => ?_) fun _ _ _ z => z⟩
    obtain ⟨st2, c2, _, _, h2⟩ := h2
    exact h2.done c2 _ ((rs.mono e3 p3).append rys)
end
section
variable {K : PySem.W.Frag} {mg : Str → Option Value}
def tyS : S → List O → Option String
  | .val .non, _ => some "NoneType"
  | .val (.bl _), _ => some "bool"
  | .val (.int _), _ => some "int"
  | .val (.str _), _ => some "str"
  | .val (.tup _), _ => some "tuple"
  | .val (.lst _), _ => some "list"
  | .val (.dct _), _ => some "dict"
  | .obj k, st => match st[k]? with
    | some (.lst _) => some "list"
    | some (.dct _) => some "dict"
    | _ => none
  | _, _ => none
theorem ty_at {B F : Hp} {rho : List Addr} {st : List O} {H : Hp} {v : V} {d : S} {t : String} (c : Core K mg B F rho st H) (r : RepS K mg F rho v d) (h : tyS d st = some t) : TyX K H v (.type t) := by
  cases r with
  | @obj k a q =>
    match e : st[k]? with
    | some (.lst l) => simp only [tyS, e, Option.some.injEq] at h; subst h; obtain ⟨_, vs, hH, _⟩ := c.own k a _ q e; exact .base (.lst hH)
    | some (.dct l) => simp only [tyS, e, Option.some.injEq] at h; subst h; obtain ⟨_, vs, hH, _⟩ := c.own k a _ q e; exact .base (.dK hH)
    | some (.ins _ _) => simp only [tyS, e] at h; cases h
    | some (.frz _) => simp only [tyS, e] at h; cases h
    | none => simp only [tyS, e] at h; cases h
  | val r =>
    cases r with
    | non => cases h; exact .base .non
    | bl b => cases h; exact .base (.bl b)
    | int b => cases h; exact .base (.int b)
    | str b => cases h; exact .base (.str b)
    | tup h1 _ =>
      cases h
      rcases h1 with (z | ⟨o, z⟩) | ⟨o, its, n, hk, hc, hs, hz, r⟩
      · exact .base (.tup (c.same _ _ z))
      · exact .fTuple (c.same _ _ z)
      · exact .kTuple hk hc
    | lst h1 _ => cases h; exact .base (.lst (c.same _ _ h1))
    | dct h1 _ => cases h; exact .base (.dK (c.same _ _ h1))
    | scr _ _ => cases h
    | ins _ _ _ => cases h
    | vv _ => cases h
def tyN : S → Option String
  | .val (.vv (.ty T)) => some T
  | _ => none
noncomputable def gIsi (ds : List S) : M S := fun st => match ds with
  | [x, y] => match tyS x st, tyN y with
    | some t, some T => match kitB t T with
      | some b => ok1 (.bl b) st
      | none => none
    | _, _ => none
  | _ => none
theorem cs_isi : CallS K mg (rIsi K) gIsi := by
  intro W B F rho st H vs ds Q c rs h
  cases rs with
  | nil => exact h.elim
  | @cons v d _ _ r t =>
    cases t with
    | nil => exact h.elim
    | @cons v2 d2 _ _ r2 t =>
      cases t with
      | cons _ _ => exact h.elim
      | nil =>
        simp only [gIsi] at h
        match e : tyS d st, e3 : tyN d2 with
        | none, _ => rw [e] at h; exact h.elim
        | some t, none => rw [e, e3] at h; exact h.elim
        | some t, some T =>
          rw [e, e3] at h
          dsimp only at h
          match e2 : kitB t T with
          | none => rw [e2] at h; exact h.elim
          | some b =>
            rw [e2] at h
            have hd : d2 = .val (.vv (.ty T)) := by
              unfold tyN at e3
              split at e3
              · cases e3; rfl
              · cases e3
            subst hd
            cases r2 with
            | val r2 =>
              cases r2
              exact ⟨v, _, _, _, b, rfl, .ty T, ty_at c r e, kit_ty e2, h.done c _ (.val (.bl b))⟩
/-! ### xs * n -/
def gRep (x y : S) : M S := fun st => match (lstOf x st).bind datas, y with
  | some ds, .val (.int k) => if -(2 ^ 63) ≤ k ∧ k < 2 ^ 63 ∧ ds.length * k.toNat ≤ sizeLine then ok1 (.lst (List.replicate k.toNat ds).flatten) st else none
  | _, _ => none
theorem reps_flat {F : Hp} {vs : List V} {ds : List D} (r : Reps K mg F vs ds) : ∀ n, Reps K mg F (List.replicate n vs).flatten (List.replicate n ds).flatten
  | 0 => .nil
  | n + 1 => by rw [List.replicate_succ, List.replicate_succ, List.flatten_cons, List.flatten_cons]; exact r.append (reps_flat r n)
theorem os_rep : OpS K mg rRep gRep := by
  intro W B F rho st H x y dx dy Q c rx ry h
  unfold gRep at h
  match e : (lstOf dx st).bind datas, dy, ry with
  | none, _, _ => rw [e] at h; exact h.elim
  | some ds, .obj _, _ => rw [e] at h; exact h.elim
  | some ds, .val (.int k), ry =>
    rw [e] at h
    dsimp only at h
    split at h
    · rename_i hc
      obtain ⟨ss, h1, h2⟩ := Option.bind_eq_some_iff.mp e
      obtain ⟨a, vs, rfl, hs, rs⟩ := lst_at c rx h1
      have rd := rs.datas h2
      cases ry with
      | val ry =>
        cases ry
        exact ⟨a, k, vs, rfl, rfl, hs, hc.1, hc.2.1, by rw [rd.length]; exact hc.2.2, fun p hp => h (upd F p _) rho _ (same_upd (c.same.free hp)) (Pre.refl _) (c.alloc hp) _ (.val (.lst upd_same ((reps_flat rd _).mono (same_upd (c.same.free hp)))))⟩
    · exact h.elim
  | some ds, .val .non, _ => rw [e] at h; exact h.elim
  | some ds, .val (.bl _), _ => rw [e] at h; exact h.elim
  | some ds, .val (.str _), _ => rw [e] at h; exact h.elim
  | some ds, .val (.tup _), _ => rw [e] at h; exact h.elim
  | some ds, .val (.lst _), _ => rw [e] at h; exact h.elim
  | some ds, .val (.scr _), _ => rw [e] at h; exact h.elim
  | some ds, .val (.ins _ _), _ => rw [e] at h; exact h.elim
  | some ds, .val (.dct _), _ => rw [e] at h; exact h.elim
  | some ds, .val (.vv _), _ => rw [e] at h; exact h.elim
/-! ### text.index(text) -/
def gSIndex : S → List S → M S
  | .val (.str a), [.val (.str b)] => fun st => match Builtin.Str.occurrences a b 0 a.length 1 with
    | i :: _ => ok1 (.int (i : Nat)) st
    | [] => none
  | _, _ => M.stuck
theorem ms_sindex : MtS K mg (fun x xs H Q => ∃ a b i rest, x = .str a ∧ xs = [.str b] ∧ Builtin.Str.occurrences a b 0 a.length 1 = i :: rest ∧ Q (.int (i : Nat)) H) gSIndex := by
  intro W B F rho st H x vs dx ds Q c rx rs h
  cases rx with
  | obj _ => exact h.elim
  | val rx =>
    cases rx with
    | str a =>
      cases rs with
      | nil => exact h.elim
      | cons r t =>
        cases r with
        | obj _ => exact h.elim
        | val r =>
          cases r with
          | str b =>
            cases t with
            | cons _ _ => exact h.elim
            | nil =>
              simp only [gSIndex] at h
              match e : Builtin.Str.occurrences a b 0 a.length 1 with
              | [] => rw [e] at h; exact h.elim
              | i :: r => rw [e] at h; exact ⟨a, b, i, r, rfl, rfl, e, h.done c _ (.val (.int _))⟩
          | _ => exact h.elim
    | _ => exact h.elim
end
/-! ### list(range(..)) -/
def rgD (a b : Int) : List D := (List.range (b - a).toNat).map fun i => D.int (a + (i : Nat))
theorem reps_rg {K : PySem.W.Frag} {mg : Str → Option Value} {F : Hp} (a b : Int) : Reps K mg F (rgV a b) (rgD a b) := by
  unfold rgV rgD
  generalize List.range (b - a).toNat = l
  induction l with
  | nil => exact .nil
  | cons x l ih => exact .cons (.int _) ih
def gLRg1 (x : S) : M S := fun st => match x with
  | .val (.int n) => if 0 ≤ n ∧ n ≤ 16777216 then ok1 (.lst (rgD 0 n)) st else none
  | _ => none
@[simp] def eLRg1 (a : ME) : ME := fun sl => (a sl).bind gLRg1
section
variable {X : Cx} {B : Hp} {W : WX} {e : Expr} {fe : ME} {p pos p2 pos2 : Pos}
theorem qe_lrg1 (hc : X.calm = true) (hm : X.mg "list" = none) (hm2 : X.mg "range" = none) (he : QE X B W e fe) (hg : Gl X "list" := by rfl) (hg2 : Gl X "range" := by rfl)
    (na : starEach [e] X.env = (false, eval e X.env) :: starEach [] X.env := by rfl) (na2 : starEach [.Call (.Name "range" p2) [e] [] pos2] X.env = (false, eval (.Call (.Name "range" p2) [e] [] pos2) X.env) :: starEach [] X.env := by rfl) :
    QE X B W (.Call (.Name "list" p) [.Call (.Name "range" p2) [e] [] pos2] [] pos) (eLRg1 fe) := by
  refine PEimp (pe_listRg hc hg hm (prg_1 hg2 hm2 he na) na2) fun s H Q q => one_of q fun F rho sl st H x dx c S' rx h => ?_
  unfold gLRg1 at h
  split at h
  · rename_i n
    split at h
    · rename_i hn
      cases rx with
      | val rx =>
        cases rx
        exact ⟨n, rfl, RgOk.of_le (by omega) hn.2 (by omega) hn.1, fun q hq => h (upd F q _) rho _ (same_upd (c.same.free hq)) (Pre.refl _) (c.alloc hq) _ (.val (.lst upd_same (reps_rg 0 n)))⟩
    · exact h.elim
  · exact h.elim
end
/-! ### a def that calls itself: the bottom -/
theorem fn_bot {P : Program} {w : World} {K : PySem.W.Frag} {mg : Str → Option Value} {base : Heap} {CX : CXT} {k n : Nat} {f : Addr} {fd : FuncData} {ps : List Str} : FnOk P w K mg base CX k f fd ps (spO K mg n fun _ _ => none) :=
  ⟨fun vs H Q E ⟨_, _, _, _, _, _, _, _, h⟩ => h.elim, fun _ _ _ _ _ _ _ _ _ _ _ _ _ ⟨_, _, _, _, _, _, _, _, h⟩ => h.elim⟩
end Cl
namespace Cl
open PySem L2
/-- a def that makes lambdas: its code object, its table -/
def LamOk (K : PySem.W.Frag) (mg : Str → Option Value) (base : Heap) (fd : FuncData) (qual : Str) : Prop := ∃ c P, fd.code = .ref c ∧ LamX.TabB base mg c P ∧ IsTab K P ((qual ++ ".<locals>.") ++ "<lambda>")
section
variable {P : Program} {w : World} {K : PySem.W.Frag} {mg : Str → Option Value} {base : Heap} {x qual : Str} {stm : Stmt} {f : Addr} {fd : FuncData} {N ps : List Str} {k : Nat} {b : MS} {dvs : List V} {kws : List (Str × V)}
abbrev BodyL (P : Program) (w : World) (K : PySem.W.Frag) (mg : Str → Option Value) (base : Heap) (N : List Str) (qual : Str) (stm : Stmt) (f : Addr) (fd : FuncData) (k : Nat) (b : MS) : Prop :=
  ∀ (cdv : Value) (A : Around) (outer : List Env) (s : Shared) (H : Hp) (E : XK) (B : Hp), fd.code = cdv → Room k (A.deeper (PyProof.Rows.envOfC qual (defScope stm) s.heap.objs.size f cdv)) →
    QSs (cxOf (L2.CX P w) P w K mg base N qual (defScope stm) f cdv A outer s H E) B (fun c d _ H => E c d H) (defBody stm) b
theorem fn_CL (Fn : FunD K x qual (defArgs stm) (defBody stm) (defScope stm) dvs kws f fd) (Sc : FnScope N ps (defScope stm)) (hb : BodyL P w K mg base N qual stm f fd k b) : FnOk P w K mg base (L2.CX P w) (k + 1) f fd ps (spO K mg ps.length (asC N.length b)) := by
  obtain ⟨oc, od, dV, kV, doc, pm, an, cdv, ct, osl, rfl, lk, hcd, _, _⟩ := Fn.ex
  refine fn_of lk hcd Sc (fun vs H Q E h => ?_) (fun A outer s H vs Q E hr h => ?_)
  · obtain ⟨B, F, rho, st, ss, _, r, l, _⟩ := h
    rw [r.length]; exact l
  · obtain ⟨B, F, rho, st, ss, c, r, l, h⟩ := h
    refine ⟨_, hb cdv A outer s H E B rfl hr, F, rho, _, st, c, slots_start r, ?_⟩
    unfold asC exitC at h
    rw [← c.len] at h
    match q : b (mkSl N.length ss) st with
    | none => rw [q] at h; exact h
    | some (.nx, sl', st') =>
      rw [q] at h
      dsimp only at h
      split at h
      · rename_i hc
        exact fun F' rho' H' s' e1 p1 c1 S1 => h F' rho H' e1 (Pre.refl _) (c1.cut p1 hc.1 hc.2) .non (.val .non)
      · exact h.elim
    | some (.bk, sl', st') => rw [q] at h; exact h.elim
    | some (.ct, sl', st') => rw [q] at h; exact h.elim
    | some (.xc z, sl', st') =>
      rw [q] at h
      dsimp only at h
      split at h
      · rename_i hc
        exact fun F' rho' H' s' e1 p1 c1 S1 cls dd xr => h F' rho H' e1 (Pre.refl _) (c1.cut p1 hc.1 hc.2) cls dd xr
      · exact h.elim
    | some (.rt (.obj j), sl', st') => rw [q] at h; exact h.elim
    | some (.rt (.val d), sl', st') =>
      rw [q] at h
      dsimp only at h
      split at h
      · rename_i hc
        intro F' rho' H' s' e1 p1 c1 S1 v rv
        cases rv with
        | val rv => exact h F' rho H' e1 (Pre.refl _) (c1.cut p1 hc.1 hc.2) v (.val rv)
      · exact h.elim
end
end Cl
namespace G
open PySem L2 Cl
noncomputable def c1_run_end : MT := (tAndM (tBin gLt (eVar 3) (eArgs (g1 gLen) (aCons (eVar 0) aNil))) (tBin (gInB false) (eBin gIx (eVar 0) (eVar 3)) (eVar 2)))
noncomputable def l1_run_end : MS := (sAug 3 gAddI (eC (.int 1)))
noncomputable def b_run_end : MS := (sSeq (sSet 3 (eVar 1))
    (sSeq (sWhile c1_run_end l1_run_end)
    (sRet (eVar 3))))
noncomputable def F_run_end : PF := asP 4 b_run_end
noncomputable def b_Token_init : MS := (sSeq (sFldSet ["Token"] "kind" (eVar 0) (eVar 1))
    (sSeq (sFldSet ["Token"] "text" (eVar 0) (eVar 2))
    (sSeq (sFldSet ["Token"] "line" (eVar 0) (eVar 3))
    (sFldSet ["Token"] "column" (eVar 0) (eVar 4)))))
noncomputable def F_Token_init : PF := asM "Token" 5 b_Token_init
noncomputable def b_read_token : MS := (sSeq (sSet 3 (eBin gIx (eVar 0) (eVar 2)))
    (sSeq (sIf (tBin gEq (eVar 3) (eC (.str ";"))) (sRet (eArgs (gMakeM 5 F_Token_init []) (aCons (eC (.str "sign")) (aCons (eVar 3) (aCons (eVar 1) (aCons (eVar 2) aNil)))))) sNext)
    (sSeq (sIf (tBin (gInB false) (eVar 3) (eC (.str "0123456789"))) (sSeq (sSet 4 (eSl gSl (eVar 0) (some (eVar 2)) (some (eArgs (gCallP 3 F_run_end []) (aCons (eVar 0) (aCons (eVar 2) (aCons (eC (.str "0123456789")) aNil)))))))
    (sSeq (sIf (tOrM (tBin gGt (eArgs (g1 gLen) (aCons (eVar 4) aNil)) (eC (.int 2))) (tAndM (tBin gGt (eArgs (g1 gLen) (aCons (eVar 4) aNil)) (eC (.int 1))) (tBin gEq (eVar 3) (eC (.str "0"))))) (sRaise "SyntaxFault" ["line", "column"] (aCons (eVar 1) (aCons (eVar 2) aNil))) sNext)
    (sRet (eArgs (gMakeM 5 F_Token_init []) (aCons (eC (.str "number")) (aCons (eVar 4) (aCons (eVar 1) (aCons (eVar 2) aNil)))))))) sNext)
    (sSeq (sSet 4 (eSl gSl (eVar 0) (some (eVar 2)) (some (eArgs (gCallP 3 F_run_end []) (aCons (eVar 0) (aCons (eVar 2) (aCons (eC (.str "abcdefghijklmnopqrstuvwxyz")) aNil)))))))
    (sSeq (sIf (tBin (gInB false) (eVar 4) (eC (.tup ((["round", "open", "valves", "start", "for", "pause", "rank"] : List Str).map D.str)))) (sRet (eArgs (gMakeM 5 F_Token_init []) (aCons (eC (.str "keyword")) (aCons (eVar 4) (aCons (eVar 1) (aCons (eVar 2) aNil)))))) sNext)
    (sSeq (sIf (tNotM (tOfE (eChain gLe gLe (eC (.int 1)) (eArgs (g1 gLen) (aCons (eVar 4) aNil)) (eC (.int 8))))) (sRaise "SyntaxFault" ["line", "column"] (aCons (eVar 1) (aCons (eVar 2) aNil))) sNext)
    (sRet (eArgs (gMakeM 5 F_Token_init []) (aCons (eC (.str "name")) (aCons (eVar 4) (aCons (eVar 1) (aCons (eVar 2) aNil))))))))))))
noncomputable def F_read_token : PF := asP 5 b_read_token
noncomputable def c1_tokenize : MT := (tBin gLt (eVar 5) (eArgs (g1 gLen) (aCons (eVar 4) aNil)))
noncomputable def l1_tokenize : MS := (sIf (tBin (gInB false) (eBin gIx (eVar 4) (eVar 5)) (eC (.str " \n"))) (sAug 5 gAddI (eC (.int 1))) (sSeq (sSet 6 (eArgs (gCallP 3 F_read_token []) (aCons (eVar 4) (aCons (eVar 3) (aCons (eVar 5) aNil)))))
    (sSeq (sExpr (eBM "list" gAppend (eVar 1) (aCons (eVar 6) aNil)))
    (sAug 5 gAddI (eArgs (g1 gLen) (aCons (eFld ["Token"] "text" (eVar 6)) aNil))))))
noncomputable def l2_tokenize : MS := (sSeq (sSet 5 (eC (.int 0)))
    (sWhile c1_tokenize l1_tokenize))
noncomputable def b_tokenize : MS := (sSeq (sSet 1 (eArgs gLstO aNil))
    (sSeq (sSet 2 (eBM "str" gSplit (eVar 0) (aCons (eC (.str "\n")) aNil)))
    (sSeq (sFor (iArgs gEnum (aCons (eVar 2) aNil)) (tgTup 2 (tgCons (tgName 3) (tgCons (tgName 4) tgNil))) l2_tokenize)
    (sRet (eBin gAdd (eVar 1) (eArgs gLst (aCons (eArgs (gMakeM 5 F_Token_init []) (aCons (eC (.str "end")) (aCons (eC (.str "")) (aCons (eArgs (g1 gLen) (aCons (eVar 2) aNil)) (aCons (eC (.int 0)) aNil))))) aNil)))))))
noncomputable def F_tokenize : PF := asP 7 b_tokenize
noncomputable def b_Plan_init : MS := (sSeq (sFldSet ["Plan"] "length" (eVar 0) (eVar 1))
    (sSeq (sFldSet ["Plan"] "most" (eVar 0) (eVar 2))
    (sSeq (sFldSet ["Plan"] "names" (eVar 0) (eVar 3))
    (sSeq (sFldSet ["Plan"] "starts" (eVar 0) (eVar 4))
    (sSeq (sFldSet ["Plan"] "paused" (eVar 0) (eVar 5))
    (sFldSet ["Plan"] "ranks" (eVar 0) (eVar 6)))))))
noncomputable def F_Plan_init : PF := asM "Plan" 7 b_Plan_init
noncomputable def b_Parser_init : MS := (sSeq (sFldSet ["Parser"] "tokens" (eVar 0) (eVar 1))
    (sSeq (sFldSet ["Parser"] "at" (eVar 0) (eC (.int 0)))
    (sSeq (sFldSet ["Parser"] "faults" (eVar 0) (eArgs gLstO aNil))
    (sSeq (sFldSet ["Parser"] "names" (eVar 0) (eArgs gLstO aNil))
    (sSeq (sFldSet ["Parser"] "starts" (eVar 0) (eArgs gLstO aNil))
    (sSeq (sFldSet ["Parser"] "pauses" (eVar 0) (eArgs gLstO aNil))
    (sFldSet ["Parser"] "ranks" (eVar 0) (eC .non))))))))
noncomputable def F_Parser_init : OF := asK 2 b_Parser_init
noncomputable def b_Parser_peek : MS := (sRet (eBin gIx (eFld ["Parser"] "tokens" (eVar 0)) (eFld ["Parser"] "at" (eVar 0))))
noncomputable def F_Parser_peek : OF := asC 1 b_Parser_peek
noncomputable def b_Parser_fail : MS := (sSeq (sSet 1 (eMeth ["Parser"] "peek" (gCallO 1 F_Parser_peek []) (eVar 0) aNil))
    (sRaise "SyntaxFault" ["line", "column"] (aCons (eFld ["Token"] "line" (eVar 1)) (aCons (eFld ["Token"] "column" (eVar 1)) aNil))))
noncomputable def F_Parser_fail : OF := asC 2 b_Parser_fail
noncomputable def b_Parser_found : MS := (sExpr (eBM "list" gAppend (eFld ["Parser"] "faults" (eVar 0)) (aCons (eArgs gTup (aCons (eFld ["Token"] "line" (eVar 2)) (aCons (eFld ["Token"] "column" (eVar 2)) (aCons (eArgs (g1 gLen) (aCons (eFld ["Parser"] "faults" (eVar 0)) aNil)) (aCons (eVar 1) aNil))))) aNil)))
noncomputable def F_Parser_found : OF := asC 3 b_Parser_found
noncomputable def b_Parser_take : MS := (sSeq (sSet 2 (eMeth ["Parser"] "peek" (gCallO 1 F_Parser_peek []) (eVar 0) aNil))
    (sSeq (sIf (tBin gNe (eFld ["Token"] "kind" (eVar 2)) (eVar 1)) (sExpr (eMeth ["Parser"] "fail" (gCallO 1 F_Parser_fail []) (eVar 0) aNil)) sNext)
    (sSeq (sFldAug ["Parser"] "at" gAddI (eVar 0) (eC (.int 1)))
    (sRet (eVar 2)))))
noncomputable def F_Parser_take : OF := asC 3 b_Parser_take
noncomputable def b_Parser_take_word : MS := (sSeq (sIf (tBin gNe (eFld ["Token"] "text" (eMeth ["Parser"] "peek" (gCallO 1 F_Parser_peek []) (eVar 0) aNil)) (eVar 1)) (sExpr (eMeth ["Parser"] "fail" (gCallO 1 F_Parser_fail []) (eVar 0) aNil)) sNext)
    (sFldAug ["Parser"] "at" gAddI (eVar 0) (eC (.int 1))))
noncomputable def F_Parser_take_word : OF := asC 2 b_Parser_take_word
noncomputable def c1_Parser_take_names : MT := (tBin gEq (eFld ["Token"] "kind" (eMeth ["Parser"] "peek" (gCallO 1 F_Parser_peek []) (eVar 0) aNil)) (eC (.str "name")))
noncomputable def l1_Parser_take_names : MS := (sExpr (eBM "list" gAppend (eVar 1) (aCons (eMeth ["Parser"] "take" (gCallO 2 F_Parser_take []) (eVar 0) (aCons (eC (.str "name")) aNil)) aNil)))
noncomputable def b_Parser_take_names : MS := (sSeq (sSet 1 (eArgs gLstO (aCons (eMeth ["Parser"] "take" (gCallO 2 F_Parser_take []) (eVar 0) (aCons (eC (.str "name")) aNil)) aNil)))
    (sSeq (sWhile c1_Parser_take_names l1_Parser_take_names)
    (sSeq (sExpr (eMeth ["Parser"] "take_word" (gCallO 2 F_Parser_take_word []) (eVar 0) (aCons (eC (.str ";")) aNil)))
    (sRet (eFrz (eVar 1))))))
noncomputable def F_Parser_take_names : OF := asC 2 b_Parser_take_names
noncomputable def b_Parser_valve : MS := (sSeq (sIf (tBin (gInB false) (eFld ["Token"] "text" (eVar 1)) (eFld ["Parser"] "names" (eVar 0))) (sRet (eBM "list" gIndex (eFld ["Parser"] "names" (eVar 0)) (aCons (eFld ["Token"] "text" (eVar 1)) aNil))) sNext)
    (sSeq (sExpr (eMeth ["Parser"] "found" (gCallO 3 F_Parser_found []) (eVar 0) (aCons (eC (.str "unknown")) (aCons (eVar 1) aNil))))
    (sRet (eC (.int 0)))))
noncomputable def F_Parser_valve : OF := asC 2 b_Parser_valve
noncomputable def b_Parser_parse_number : MS := (sSeq (sExpr (eMeth ["Parser"] "take_word" (gCallO 2 F_Parser_take_word []) (eVar 0) (aCons (eVar 1) aNil)))
    (sSeq (sSet 3 (eMeth ["Parser"] "take" (gCallO 2 F_Parser_take []) (eVar 0) (aCons (eC (.str "number")) aNil)))
    (sSeq (sExpr (eMeth ["Parser"] "take_word" (gCallO 2 F_Parser_take_word []) (eVar 0) (aCons (eC (.str ";")) aNil)))
    (sSeq (sIf (tNotM (tOfE (eChain gLe gLe (eC (.int 1)) (eArgs (g1 gInt) (aCons (eFld ["Token"] "text" (eVar 3)) aNil)) (eVar 2)))) (sExpr (eMeth ["Parser"] "found" (gCallO 3 F_Parser_found []) (eVar 0) (aCons (eVar 1) (aCons (eVar 3) aNil)))) sNext)
    (sRet (eArgs (g1 gInt) (aCons (eFld ["Token"] "text" (eVar 3)) aNil)))))))
noncomputable def F_Parser_parse_number : OF := asC 4 b_Parser_parse_number
noncomputable def l1_Parser_parse_valves : MS := (sIf (tBin (gInB false) (eFld ["Token"] "text" (eVar 1)) (eFld ["Parser"] "names" (eVar 0))) (sExpr (eMeth ["Parser"] "found" (gCallO 3 F_Parser_found []) (eVar 0) (aCons (eC (.str "duplicate")) (aCons (eVar 1) aNil)))) (sIf (tBin gEq (eArgs (g1 gLen) (aCons (eFld ["Parser"] "names" (eVar 0)) aNil)) (eC (.int 8))) (sExpr (eMeth ["Parser"] "found" (gCallO 3 F_Parser_found []) (eVar 0) (aCons (eC (.str "valves")) (aCons (eVar 1) aNil)))) (sExpr (eBM "list" gAppend (eFld ["Parser"] "names" (eVar 0)) (aCons (eFld ["Token"] "text" (eVar 1)) aNil)))))
noncomputable def b_Parser_parse_valves : MS := (sSeq (sExpr (eMeth ["Parser"] "take_word" (gCallO 2 F_Parser_take_word []) (eVar 0) (aCons (eC (.str "valves")) aNil)))
    (sFor (iOf (eMeth ["Parser"] "take_names" (gCallO 1 F_Parser_take_names []) (eVar 0) aNil)) (tgName 1) l1_Parser_parse_valves))
noncomputable def F_Parser_parse_valves : OF := asC 2 b_Parser_parse_valves
noncomputable def b_Parser_parse_start : MS := (sSeq (sSet 2 (eMeth ["Parser"] "peek" (gCallO 1 F_Parser_peek []) (eVar 0) aNil))
    (sSeq (sExpr (eMeth ["Parser"] "take_word" (gCallO 2 F_Parser_take_word []) (eVar 0) (aCons (eC (.str "start")) aNil)))
    (sSeq (sSet 3 (eMeth ["Parser"] "valve" (gCallO 2 F_Parser_valve []) (eVar 0) (aCons (eMeth ["Parser"] "take" (gCallO 2 F_Parser_take []) (eVar 0) (aCons (eC (.str "name")) aNil)) aNil)))
    (sSeq (sSet 4 (eMeth ["Parser"] "take" (gCallO 2 F_Parser_take []) (eVar 0) (aCons (eC (.str "number")) aNil)))
    (sSeq (sExpr (eMeth ["Parser"] "take_word" (gCallO 2 F_Parser_take_word []) (eVar 0) (aCons (eC (.str "for")) aNil)))
    (sSeq (sSet 5 (eMeth ["Parser"] "take" (gCallO 2 F_Parser_take []) (eVar 0) (aCons (eC (.str "number")) aNil)))
    (sSeq (sExpr (eMeth ["Parser"] "take_word" (gCallO 2 F_Parser_take_word []) (eVar 0) (aCons (eC (.str ";")) aNil)))
    (sSeq (sIf (tBin gGe (eArgs (g1 gInt) (aCons (eFld ["Token"] "text" (eVar 4)) aNil)) (eVar 1)) (sExpr (eMeth ["Parser"] "found" (gCallO 3 F_Parser_found []) (eVar 0) (aCons (eC (.str "tick")) (aCons (eVar 4) aNil)))) sNext)
    (sSeq (sIf (tNotM (tOfE (eChain gLe gLe (eC (.int 1)) (eArgs (g1 gInt) (aCons (eFld ["Token"] "text" (eVar 5)) aNil)) (eC (.int 30))))) (sExpr (eMeth ["Parser"] "found" (gCallO 3 F_Parser_found []) (eVar 0) (aCons (eC (.str "length")) (aCons (eVar 5) aNil)))) sNext)
    (sSeq (sIf (tBin gEq (eArgs (g1 gLen) (aCons (eFld ["Parser"] "starts" (eVar 0)) aNil)) (eC (.int 20))) (sExpr (eMeth ["Parser"] "found" (gCallO 3 F_Parser_found []) (eVar 0) (aCons (eC (.str "starts")) (aCons (eVar 2) aNil)))) sNext)
    (sExpr (eBM "list" gAppend (eFld ["Parser"] "starts" (eVar 0)) (aCons (eArgs gTup (aCons (eArgs (g1 gInt) (aCons (eFld ["Token"] "text" (eVar 4)) aNil)) (aCons (eVar 3) (aCons (eArgs (g1 gInt) (aCons (eFld ["Token"] "text" (eVar 5)) aNil)) aNil)))) aNil)))))))))))))
noncomputable def F_Parser_parse_start : OF := asC 6 b_Parser_parse_start
noncomputable def b_Parser_parse_pause : MS := (sSeq (sExpr (eMeth ["Parser"] "take_word" (gCallO 2 F_Parser_take_word []) (eVar 0) (aCons (eC (.str "pause")) aNil)))
    (sSeq (sPar 2 3 (aCons (eMeth ["Parser"] "take" (gCallO 2 F_Parser_take []) (eVar 0) (aCons (eC (.str "number")) aNil)) (aCons (eMeth ["Parser"] "take" (gCallO 2 F_Parser_take []) (eVar 0) (aCons (eC (.str "number")) aNil)) aNil)))
    (sSeq (sExpr (eMeth ["Parser"] "take_word" (gCallO 2 F_Parser_take_word []) (eVar 0) (aCons (eC (.str ";")) aNil)))
    (sSeq (sIf (tBin gGe (eArgs (g1 gInt) (aCons (eFld ["Token"] "text" (eVar 3)) aNil)) (eVar 1)) (sExpr (eMeth ["Parser"] "found" (gCallO 3 F_Parser_found []) (eVar 0) (aCons (eC (.str "pause")) (aCons (eVar 3) aNil)))) (sIf (tBin gGt (eArgs (g1 gInt) (aCons (eFld ["Token"] "text" (eVar 2)) aNil)) (eArgs (g1 gInt) (aCons (eFld ["Token"] "text" (eVar 3)) aNil))) (sExpr (eMeth ["Parser"] "found" (gCallO 3 F_Parser_found []) (eVar 0) (aCons (eC (.str "pause")) (aCons (eVar 2) aNil)))) sNext))
    (sExpr (eBM "list" gAppend (eFld ["Parser"] "pauses" (eVar 0)) (aCons (eArgs gTup (aCons (eArgs (g1 gInt) (aCons (eFld ["Token"] "text" (eVar 2)) aNil)) (aCons (eArgs (g1 gInt) (aCons (eFld ["Token"] "text" (eVar 3)) aNil)) aNil))) aNil)))))))
noncomputable def F_Parser_parse_pause : OF := asC 4 b_Parser_parse_pause
noncomputable def l1_Parser_parse_rank : MS := (sSeq (sSet 4 (eMeth ["Parser"] "valve" (gCallO 2 F_Parser_valve []) (eVar 0) (aCons (eVar 3) aNil)))
    (sSeq (sIf (tAndM (tBin (gInB false) (eFld ["Token"] "text" (eVar 3)) (eFld ["Parser"] "names" (eVar 0))) (tBin (gInB false) (eVar 4) (eVar 2))) (sExpr (eMeth ["Parser"] "found" (gCallO 3 F_Parser_found []) (eVar 0) (aCons (eC (.str "rank")) (aCons (eVar 3) aNil)))) sNext)
    (sExpr (eBM "list" gAppend (eVar 2) (aCons (eVar 4) aNil)))))
noncomputable def b_Parser_parse_rank : MS := (sSeq (sSet 1 (eMeth ["Parser"] "peek" (gCallO 1 F_Parser_peek []) (eVar 0) aNil))
    (sSeq (sExpr (eMeth ["Parser"] "take_word" (gCallO 2 F_Parser_take_word []) (eVar 0) (aCons (eC (.str "rank")) aNil)))
    (sSeq (sSet 2 (eArgs gLstO aNil))
    (sSeq (sFor (iOf (eMeth ["Parser"] "take_names" (gCallO 1 F_Parser_take_names []) (eVar 0) aNil)) (tgName 3) l1_Parser_parse_rank)
    (sSeq (sIf (tBin (gIsN true) (eFld ["Parser"] "ranks" (eVar 0)) (eC .non)) (sExpr (eMeth ["Parser"] "found" (gCallO 3 F_Parser_found []) (eVar 0) (aCons (eC (.str "twice")) (aCons (eVar 1) aNil)))) sNext)
    (sFldSet ["Parser"] "ranks" (eVar 0) (eFrz (eVar 2))))))))
noncomputable def F_Parser_parse_rank : OF := asC 5 b_Parser_parse_rank
noncomputable def t1_Parser_parse_plan : MT := (tBin (gInB true) (eVar 12) (eVar 11))
noncomputable def e1_Parser_parse_plan : ME := (eVar 12)
noncomputable def e2_Parser_parse_plan : ME := (eChain gLe gLe (eVar 8) (eVar 10) (eVar 9))
noncomputable def e3_Parser_parse_plan : ME := (eArgs (g1 (gAnyAll fun l => l.any id)) (aCons (eLc [8, 9] (iOf (eFld ["Parser"] "pauses" (eVar 0))) (tgTup 2 (tgCons (tgName 8) (tgCons (tgName 9) tgNil))) tTrue e2_Parser_parse_plan) aNil))
noncomputable def c1_Parser_parse_plan : MT := (tBin gNe (eFld ["Token"] "kind" (eMeth ["Parser"] "peek" (gCallO 1 F_Parser_peek []) (eVar 0) aNil)) (eC (.str "end")))
noncomputable def l1_Parser_parse_plan : MS := (sMatch (eFld ["Token"] "text" (eMeth ["Parser"] "peek" (gCallO 1 F_Parser_peek []) (eVar 0) aNil)) (mcVal gEq (eC (.str "start")) (sExpr (eMeth ["Parser"] "parse_start" (gCallO 2 F_Parser_parse_start []) (eVar 0) (aCons (eVar 1) aNil))) (mcVal gEq (eC (.str "pause")) (sExpr (eMeth ["Parser"] "parse_pause" (gCallO 2 F_Parser_parse_pause []) (eVar 0) (aCons (eVar 1) aNil))) (mcVal gEq (eC (.str "rank")) (sExpr (eMeth ["Parser"] "parse_rank" (gCallO 1 F_Parser_parse_rank []) (eVar 0) aNil)) (mcAny (sExpr (eMeth ["Parser"] "fail" (gCallO 1 F_Parser_fail []) (eVar 0) aNil)))))))
noncomputable def b_Parser_parse_plan : MS := (sSeq (sSet 1 (eMeth ["Parser"] "parse_number" (gCallO 3 F_Parser_parse_number []) (eVar 0) (aCons (eC (.str "round")) (aCons (eC (.int 60)) aNil))))
    (sSeq (sSet 2 (eMeth ["Parser"] "parse_number" (gCallO 3 F_Parser_parse_number []) (eVar 0) (aCons (eC (.str "open")) (aCons (eC (.int 9)) aNil))))
    (sSeq (sExpr (eMeth ["Parser"] "parse_valves" (gCallO 1 F_Parser_parse_valves []) (eVar 0) aNil))
    (sSeq (sWhile c1_Parser_parse_plan l1_Parser_parse_plan)
    (sSeq (sIf (tBin gNe (eFld ["Parser"] "faults" (eVar 0)) (eArgs gLst aNil)) (sSeq sStuck
    sStuck) sNext)
    (sSeq (sSet 7 (eLc [10] (iArgs gRange1 (aCons (eVar 1) aNil)) (tgName 10) tTrue e3_Parser_parse_plan))
    (sSeq (sSet 11 (eIf (tBin (gIsN true) (eFld ["Parser"] "ranks" (eVar 0)) (eC .non)) (eFld ["Parser"] "ranks" (eVar 0)) (eArgs gLst aNil)))
    (sSeq (sSet 11 (eBin gAdd (eVar 11) (eLc [12] (iArgs gRange1 (aCons (eArgs (g1 gLen) (aCons (eFld ["Parser"] "names" (eVar 0)) aNil)) aNil)) (tgName 12) t1_Parser_parse_plan e1_Parser_parse_plan)))
    (sSeq (sSet 13 (eSort2 (eFld ["Parser"] "starts" (eVar 0))))
    (sRet (eArgs (gMakeM 7 F_Plan_init []) (aCons (eVar 1) (aCons (eVar 2) (aCons (eArgs (g1 gTuple) (aCons (eFld ["Parser"] "names" (eVar 0)) aNil)) (aCons (eVar 13) (aCons (eVar 7) (aCons (eVar 11) aNil)))))))))))))))))
noncomputable def F_Parser_parse_plan : OF := asC 14 b_Parser_parse_plan
noncomputable def b_load : MS := (sRet (eMeth ["Parser"] "parse_plan" (gCallO 1 F_Parser_parse_plan []) (eArgs (gMakeO "Parser" 2 F_Parser_init []) (aCons (eArgs (gCallP 1 F_tokenize []) (aCons (eVar 0) aNil)) aNil)) aNil))
noncomputable def F_load : PF := asP 1 b_load
noncomputable def l1_runs_of : MS := (sIf (tAndM (tOfE (eVar 3)) (tAndM (tBin gGt (eVar 2) (eC (.int 0))) (tOfE (eBin gIx (eVar 0) (eBin gSub (eVar 2) (eC (.int 1))))))) (sSetItem (eVar 1) (eNeg (eC (.int 1))) (eArgs gTup (aCons (eBin gIx (eBin gIx (eVar 1) (eNeg (eC (.int 1)))) (eC (.int 0))) (aCons (eVar 2) aNil)))) (sIf (tOfE (eVar 3)) (sExpr (eBM "list" gAppend (eVar 1) (aCons (eArgs gTup (aCons (eVar 2) (aCons (eVar 2) aNil))) aNil))) sNext))
noncomputable def b_runs_of : MS := (sSeq (sSet 1 (eArgs gLstO aNil))
    (sSeq (sFor (iArgs gEnum (aCons (eVar 0) aNil)) (tgTup 2 (tgCons (tgName 2) (tgCons (tgName 3) tgNil))) l1_runs_of)
    (sRet (eVar 1))))
noncomputable def F_runs_of : PF := asP 4 b_runs_of
noncomputable def l1_format_parsed : MS := (sExpr (eBM "list" gAppend (eVar 2) (aCons (eBin gAdd (eBin gAdd (eBin gAdd (eBin gAdd (eC (.str "pause ")) (eArgs (g1 gStr) (aCons (eVar 6) aNil))) (eC (.str " "))) (eArgs (g1 gStr) (aCons (eVar 7) aNil))) (eC (.str ";"))) aNil)))
noncomputable def l2_format_parsed : MS := (sExpr (eBM "list" gAppend (eVar 2) (aCons (eBin gAdd (eBin gAdd (eBin gAdd (eBin gAdd (eBin gAdd (eBin gAdd (eC (.str "start ")) (eBin gIx (eVar 1) (eVar 3))) (eC (.str " "))) (eArgs (g1 gStr) (aCons (eVar 4) aNil))) (eC (.str " for "))) (eArgs (g1 gStr) (aCons (eVar 5) aNil))) (eC (.str ";"))) aNil)))
noncomputable def e1_format_parsed : ME := (eBin gIx (eVar 1) (eVar 3))
noncomputable def b_format_parsed : MS := (sSeq (sSet 1 (eFld ["Plan"] "names" (eVar 0)))
    (sSeq (sSet 2 (eArgs gLstO (aCons (eBin gAdd (eBin gAdd (eC (.str "round ")) (eArgs (g1 gStr) (aCons (eFld ["Plan"] "length" (eVar 0)) aNil))) (eC (.str ";"))) (aCons (eBin gAdd (eBin gAdd (eC (.str "open ")) (eArgs (g1 gStr) (aCons (eFld ["Plan"] "most" (eVar 0)) aNil))) (eC (.str ";"))) (aCons (eBin gAdd (eBin gAdd (eC (.str "valves ")) (eBM "str" gJoin (eC (.str " ")) (aCons (eVar 1) aNil))) (eC (.str ";"))) aNil)))))
    (sSeq (sIf (tBin gNe (eFld ["Plan"] "ranks" (eVar 0)) (eLRg1 (eArgs (g1 gLen) (aCons (eVar 1) aNil)))) (sExpr (eBM "list" gAppend (eVar 2) (aCons (eBin gAdd (eBin gAdd (eC (.str "rank ")) (eBM "str" gJoin (eC (.str " ")) (aCons (eLc [3] (iOf (eFld ["Plan"] "ranks" (eVar 0))) (tgName 3) tTrue e1_format_parsed) aNil))) (eC (.str ";"))) aNil))) sNext)
    (sSeq (sFor (iOf (eFld ["Plan"] "starts" (eVar 0))) (tgTup 3 (tgCons (tgName 4) (tgCons (tgName 3) (tgCons (tgName 5) tgNil)))) l2_format_parsed)
    (sSeq (sFor (iOf (eArgs (gCallP 1 F_runs_of []) (aCons (eFld ["Plan"] "paused" (eVar 0)) aNil))) (tgTup 2 (tgCons (tgName 6) (tgCons (tgName 7) tgNil))) l1_format_parsed)
    (sRet (eBM "str" gJoin (eC (.str "\n")) (aCons (eVar 2) aNil))))))))
noncomputable def F_format_parsed : PF := asP 8 b_format_parsed
noncomputable def b_is_int_in : MS := (sRet (eAnd (eArgs gIsi (aCons (eVar 0) (aCons (eC (.vv (.ty "int"))) aNil))) (eAnd (eNot (eArgs gIsi (aCons (eVar 0) (aCons (eC (.vv (.ty "bool"))) aNil)))) (eChain gLe gLe (eVar 1) (eVar 0) (eVar 2)))))
noncomputable def F_is_int_in : PF := asP 3 b_is_int_in
noncomputable def l1_encode : MS := (sExpr (eBM "list" gExtend (eVar 2) (aCons (eArgs gLst (aCons (eVar 7) (aCons (eVar 8) aNil))) aNil)))
noncomputable def l2_encode : MS := (sExpr (eBM "list" gExtend (eVar 2) (aCons (eArgs (g1 gList) (aCons (eVar 5) aNil)) aNil)))
noncomputable def e1_encode : ME := (eBM "str" gSIndex (eC (.str "abcdefghijklmnopqrstuvwxyz")) (aCons (eVar 4) aNil))
noncomputable def l3_encode : MS := (sExpr (eBM "list" gExtend (eVar 2) (aCons (eBin gAdd (eArgs gLst (aCons (eArgs (g1 gLen) (aCons (eVar 3) aNil)) aNil)) (eLc [4] (iOf (eVar 3)) (tgName 4) tTrue e1_encode)) aNil)))
noncomputable def b_encode : MS := (sSeq (sSet 1 (eArgs (gCallP 1 F_load []) (aCons (eVar 0) aNil)))
    (sSeq (sSet 2 (eArgs gLstO (aCons (eC (.int 87)) (aCons (eFld ["Plan"] "length" (eVar 1)) (aCons (eFld ["Plan"] "most" (eVar 1)) (aCons (eArgs (g1 gLen) (aCons (eFld ["Plan"] "names" (eVar 1)) aNil)) aNil))))))
    (sSeq (sFor (iOf (eFld ["Plan"] "names" (eVar 1))) (tgName 3) l3_encode)
    (sSeq (sExpr (eBM "list" gExtend (eVar 2) (aCons (eArgs gLst (aStar (eFld ["Plan"] "ranks" (eVar 1)) (aCons (eArgs (g1 gLen) (aCons (eFld ["Plan"] "starts" (eVar 1)) aNil)) aNil))) aNil)))
    (sSeq (sFor (iOf (eFld ["Plan"] "starts" (eVar 1))) (tgName 5) l2_encode)
    (sSeq (sSet 6 (eArgs (gCallP 1 F_runs_of []) (aCons (eFld ["Plan"] "paused" (eVar 1)) aNil)))
    (sSeq (sExpr (eBM "list" gAppend (eVar 2) (aCons (eArgs (g1 gLen) (aCons (eVar 6) aNil)) aNil)))
    (sSeq (sFor (iOf (eVar 6)) (tgTup 2 (tgCons (tgName 7) (tgCons (tgName 8) tgNil))) l1_encode)
    (sRet (eArgs gLstO (aStar (eVar 2) (aCons (eBin gMod (eArgs (g1 gSum) (aCons (eVar 2) aNil)) (eC (.int 256))) aNil))))))))))))
noncomputable def F_encode : PF := asN 9 b_encode
noncomputable def b_Reader_init : MS := (sSeq (sFldSet ["Reader"] "code" (eVar 0) (eVar 1))
    (sFldSet ["Reader"] "place" (eVar 0) (eC (.int 0))))
noncomputable def F_Reader_init : OF := asK 2 b_Reader_init
noncomputable def b_Reader_fail : MS := (sRaise "InvalidCode" ["place"] (aCons (eVar 1) aNil))
noncomputable def F_Reader_fail : OF := asC 2 b_Reader_fail
noncomputable def b_Reader_read_byte : MS := (sSeq (sIf (tOrM (tBin gEq (eFld ["Reader"] "place" (eVar 0)) (eArgs (g1 gLen) (aCons (eFld ["Reader"] "code" (eVar 0)) aNil))) (tNotM (tOfE (eArgs (gCallP 3 F_is_int_in []) (aCons (eBin gIx (eFld ["Reader"] "code" (eVar 0)) (eFld ["Reader"] "place" (eVar 0))) (aCons (eVar 1) (aCons (eVar 2) aNil))))))) (sRaise "InvalidCode" ["place"] (aCons (eFld ["Reader"] "place" (eVar 0)) aNil)) sNext)
    (sSeq (sFldAug ["Reader"] "place" gAddI (eVar 0) (eC (.int 1)))
    (sRet (eBin gIx (eFld ["Reader"] "code" (eVar 0)) (eBin gSub (eFld ["Reader"] "place" (eVar 0)) (eC (.int 1)))))))
noncomputable def F_Reader_read_byte : OF := asC 3 b_Reader_read_byte
noncomputable def e1_Reader_read_name : ME := (eBin gIx (eC (.str "abcdefghijklmnopqrstuvwxyz")) (eMeth ["Reader"] "read_byte" (gCallO 3 F_Reader_read_byte []) (eVar 0) (aCons (eC (.int 0)) (aCons (eBin gSub (eArgs (g1 gLen) (aCons (eC (.str "abcdefghijklmnopqrstuvwxyz")) aNil)) (eC (.int 1))) aNil))))
noncomputable def b_Reader_read_name : MS := (sSeq (sSet 2 (eFld ["Reader"] "place" (eVar 0)))
    (sSeq (sSet 3 (eMeth ["Reader"] "read_byte" (gCallO 3 F_Reader_read_byte []) (eVar 0) (aCons (eC (.int 1)) (aCons (eC (.int 8)) aNil))))
    (sSeq (sSet 4 (eBM "str" gJoin (eC (.str "")) (aCons (eLc [5] (iArgs gRange1 (aCons (eVar 3) aNil)) (tgName 5) tTrue e1_Reader_read_name) aNil)))
    (sSeq (sIf (tOrM (tBin (gInB false) (eVar 4) (eC (.tup ((["round", "open", "valves", "start", "for", "pause", "rank"] : List Str).map D.str)))) (tBin (gInB false) (eVar 4) (eVar 1))) (sExpr (eMeth ["Reader"] "fail" (gCallO 2 F_Reader_fail []) (eVar 0) (aCons (eVar 2) aNil))) sNext)
    (sRet (eVar 4))))))
noncomputable def F_Reader_read_name : OF := asC 6 b_Reader_read_name
noncomputable def l1_Reader_read_ranks : MS := (sSeq (sSet 4 (eMeth ["Reader"] "read_byte" (gCallO 3 F_Reader_read_byte []) (eVar 0) (aCons (eC (.int 0)) (aCons (eBin gSub (eVar 1) (eC (.int 1))) aNil))))
    (sSeq (sIf (tBin (gInB false) (eVar 4) (eVar 2)) (sExpr (eMeth ["Reader"] "fail" (gCallO 2 F_Reader_fail []) (eVar 0) (aCons (eBin gSub (eFld ["Reader"] "place" (eVar 0)) (eC (.int 1))) aNil))) sNext)
    (sExpr (eBM "list" gAppend (eVar 2) (aCons (eVar 4) aNil)))))
noncomputable def b_Reader_read_ranks : MS := (sSeq (sSet 2 (eArgs gLstO aNil))
    (sSeq (sFor (iArgs gRange1 (aCons (eVar 1) aNil)) (tgName 3) l1_Reader_read_ranks)
    (sRet (eFrz (eVar 2)))))
noncomputable def F_Reader_read_ranks : OF := asC 5 b_Reader_read_ranks
noncomputable def l1_Reader_read_starts : MS := (sSeq (sSet 5 (eMeth ["Reader"] "read_byte" (gCallO 3 F_Reader_read_byte []) (eVar 0) (aCons (eIf (tBin gNe (eVar 3) (eArgs gLst aNil)) (eBin gIx (eBin gIx (eVar 3) (eNeg (eC (.int 1)))) (eC (.int 0))) (eC (.int 0))) (aCons (eBin gSub (eVar 1) (eC (.int 1))) aNil))))
    (sSeq (sSet 6 (eIf (tAndM (tBin gNe (eVar 3) (eArgs gLst aNil)) (tBin gEq (eVar 5) (eBin gIx (eBin gIx (eVar 3) (eNeg (eC (.int 1)))) (eC (.int 0))))) (eBin gIx (eBin gIx (eVar 3) (eNeg (eC (.int 1)))) (eC (.int 1))) (eC (.int 0))))
    (sSeq (sSet 7 (eMeth ["Reader"] "read_byte" (gCallO 3 F_Reader_read_byte []) (eVar 0) (aCons (eVar 6) (aCons (eBin gSub (eVar 2) (eC (.int 1))) aNil))))
    (sExpr (eBM "list" gAppend (eVar 3) (aCons (eArgs gTup (aCons (eVar 5) (aCons (eVar 7) (aCons (eMeth ["Reader"] "read_byte" (gCallO 3 F_Reader_read_byte []) (eVar 0) (aCons (eC (.int 1)) (aCons (eC (.int 30)) aNil))) aNil)))) aNil))))))
noncomputable def b_Reader_read_starts : MS := (sSeq (sSet 3 (eArgs gLstO aNil))
    (sSeq (sFor (iArgs gRange1 (aCons (eMeth ["Reader"] "read_byte" (gCallO 3 F_Reader_read_byte []) (eVar 0) (aCons (eC (.int 0)) (aCons (eC (.int 20)) aNil))) aNil)) (tgName 4) l1_Reader_read_starts)
    (sRet (eFrz (eVar 3)))))
noncomputable def F_Reader_read_starts : OF := asC 8 b_Reader_read_starts
noncomputable def e1_Reader_read_paused : ME := (eOr (eVar 8) (eChain gLe gLe (eVar 5) (eVar 7) (eVar 6)))
noncomputable def l1_Reader_read_paused : MS := (sSeq (sSet 5 (eMeth ["Reader"] "read_byte" (gCallO 3 F_Reader_read_byte []) (eVar 0) (aCons (eVar 3) (aCons (eBin gSub (eVar 1) (eC (.int 1))) aNil))))
    (sSeq (sSet 6 (eMeth ["Reader"] "read_byte" (gCallO 3 F_Reader_read_byte []) (eVar 0) (aCons (eVar 5) (aCons (eBin gSub (eVar 1) (eC (.int 1))) aNil))))
    (sSeq (sSet 2 (eLc [7, 8] (iArgs gEnum (aCons (eVar 2) aNil)) (tgTup 2 (tgCons (tgName 7) (tgCons (tgName 8) tgNil))) tTrue e1_Reader_read_paused))
    (sSet 3 (eBin gAdd (eVar 6) (eC (.int 2)))))))
noncomputable def b_Reader_read_paused : MS := (sSeq (sPar 2 3 (aCons (eBin gRep (eArgs gLst (aCons (eC (.bl false)) aNil)) (eVar 1)) (aCons (eC (.int 0)) aNil)))
    (sSeq (sFor (iArgs gRange1 (aCons (eMeth ["Reader"] "read_byte" (gCallO 3 F_Reader_read_byte []) (eVar 0) (aCons (eC (.int 0)) (aCons (eVar 1) aNil))) aNil)) (tgName 4) l1_Reader_read_paused)
    (sRet (eVar 2))))
noncomputable def F_Reader_read_paused : OF := asC 9 b_Reader_read_paused
noncomputable def l1_decode : MS := (sExpr (eBM "list" gAppend (eVar 4) (aCons (eMeth ["Reader"] "read_name" (gCallO 2 F_Reader_read_name []) (eVar 1) (aCons (eVar 4) aNil)) aNil)))
noncomputable def b_decode : MS := (sSeq (sIf (tNotM (tOfE (eArgs gIsi (aCons (eVar 0) (aCons (eC (.vv (.ty "list"))) aNil))))) (sRaise "InvalidCode" ["place"] (aCons (eC (.int 0)) aNil)) sNext)
    (sSeq (sSet 1 (eArgs (gMakeO "Reader" 2 F_Reader_init []) (aCons (eVar 0) aNil)))
    (sSeq (sExpr (eMeth ["Reader"] "read_byte" (gCallO 3 F_Reader_read_byte []) (eVar 1) (aCons (eC (.int 87)) (aCons (eC (.int 87)) aNil))))
    (sSeq (sSet 2 (eMeth ["Reader"] "read_byte" (gCallO 3 F_Reader_read_byte []) (eVar 1) (aCons (eC (.int 1)) (aCons (eC (.int 60)) aNil))))
    (sSeq (sSet 3 (eMeth ["Reader"] "read_byte" (gCallO 3 F_Reader_read_byte []) (eVar 1) (aCons (eC (.int 1)) (aCons (eC (.int 9)) aNil))))
    (sSeq (sSet 4 (eArgs gLstO aNil))
    (sSeq (sFor (iArgs gRange1 (aCons (eMeth ["Reader"] "read_byte" (gCallO 3 F_Reader_read_byte []) (eVar 1) (aCons (eC (.int 1)) (aCons (eC (.int 8)) aNil))) aNil)) (tgName 5) l1_decode)
    (sSeq (sSet 6 (eMeth ["Reader"] "read_ranks" (gCallO 2 F_Reader_read_ranks []) (eVar 1) (aCons (eArgs (g1 gLen) (aCons (eVar 4) aNil)) aNil)))
    (sSeq (sSet 7 (eMeth ["Reader"] "read_starts" (gCallO 3 F_Reader_read_starts []) (eVar 1) (aCons (eVar 2) (aCons (eArgs (g1 gLen) (aCons (eVar 4) aNil)) aNil))))
    (sSeq (sSet 8 (eMeth ["Reader"] "read_paused" (gCallO 2 F_Reader_read_paused []) (eVar 1) (aCons (eVar 2) aNil)))
    (sSeq (sSet 9 (eBin gMod (eArgs (g1 gSum) (aCons (eSl gSl (eVar 0) none (some (eFld ["Reader"] "place" (eVar 1)))) aNil)) (eC (.int 256))))
    (sSeq (sExpr (eMeth ["Reader"] "read_byte" (gCallO 3 F_Reader_read_byte []) (eVar 1) (aCons (eVar 9) (aCons (eVar 9) aNil))))
    (sSeq (sIf (tBin gLt (eFld ["Reader"] "place" (eVar 1)) (eArgs (g1 gLen) (aCons (eVar 0) aNil))) (sRaise "InvalidCode" ["place"] (aCons (eFld ["Reader"] "place" (eVar 1)) aNil)) sNext)
    (sRet (eArgs (gCallP 1 F_format_parsed []) (aCons (eArgs (gMakeM 7 F_Plan_init []) (aCons (eVar 2) (aCons (eVar 3) (aCons (eArgs (g1 gTuple) (aCons (eVar 4) aNil)) (aCons (eVar 7) (aCons (eVar 8) (aCons (eVar 6) aNil))))))) aNil))))))))))))))))
noncomputable def F_decode : OF := asC 10 b_decode
end G
namespace Cl
open PySem L2
@[simp] theorem ofString_inj (a b : String) : (Str.ofString a = Str.ofString b) = (a = b) := by
  apply propext
  refine ⟨fun h => ?_, fun h => by rw [h]⟩
  have h2 := congrArg (fun z : Str => z.cps.toList) h
  simp only [PyProof.Rows.signs_ofString] at h2
  have h3 : a.toList = b.toList := by
    have inj : ∀ (x y : List Char), x.map Char.toNat = y.map Char.toNat → x = y := by
      intro x
      induction x with
      | nil => intro y e; cases y with | nil => rfl | cons _ _ => cases e
      | cons c x ih =>
        intro y e
        cases y with
        | nil => cases e
        | cons d y =>
          simp only [List.map_cons, List.cons.injEq] at e
          rw [ih y e.2, Char.toNat_inj.mp e.1]
    exact inj _ _ h2
  exact String.toList_inj.mp h3
@[simp] theorem ofString_beq (a b : String) : (Str.ofString a == Str.ofString b) = (a == b) := by
  rw [Bool.eq_iff_iff, beq_iff_eq, beq_iff_eq, ofString_inj]
@[simp] theorem lookup_c {β : Type} (a b : Str) (x : β) (l : List (Str × β)) : List.lookup a ((b, x) :: l) = if a = b then some x else List.lookup a l := by
  rw [List.lookup_cons]
  by_cases h : a = b
  · subst h; simp
  · have : (a == b) = false := by rw [beq_eq_false_iff_ne]; exact h
    rw [this, if_neg h]
/-! ### loops -/
theorem while_eq (c : MT) (b : MS) (sl : Sl) (st : List O) : sWhile c b sl st = match c sl st with
    | none => none
    | some (.error x, st1) => some (.xc x, sl, st1)
    | some (.ok false, st1) => some (.nx, sl, st1)
    | some (.ok true, st1) => match b sl st1 with
      | some (.nx, sl2, st2) => sWhile c b sl2 st2
      | some (.ct, sl2, st2) => sWhile c b sl2 st2
      | some (.bk, sl2, st2) => some (.nx, sl2, st2)
      | r => r := by
  have go : ∀ r, (match c sl st with
    | none => none
    | some (.error x, st1) => some (.xc x, sl, st1)
    | some (.ok false, st1) => some (.nx, sl, st1)
    | some (.ok true, st1) => match b sl st1 with
      | some (.nx, sl2, st2) => sWhile c b sl2 st2
      | some (.ct, sl2, st2) => sWhile c b sl2 st2
      | some (.bk, sl2, st2) => some (.nx, sl2, st2)
      | r => r : Option (Fl × Sl × List O)) = some r → sWhile c b sl st = some r := by
    intro r h
    match q : c sl st with
    | none => rw [q] at h; cases h
    | some (.error x, st1) => rw [q] at h; exact sWhile_of (n := 1) (by rw [whileN, q]; exact h)
    | some (.ok false, st1) => rw [q] at h; exact sWhile_of (n := 1) (by rw [whileN, q]; exact h)
    | some (.ok true, st1) =>
      rw [q] at h
      match q2 : b sl st1 with
      | none => simp only [q2] at h; cases h
      | some (.nx, sl2, st2) =>
        simp only [q2] at h
        obtain ⟨n, hn⟩ := of_sWhile h
        exact sWhile_of (n := n + 1) (by rw [whileN, q]; simp only [q2]; exact hn)
      | some (.ct, sl2, st2) =>
        simp only [q2] at h
        obtain ⟨n, hn⟩ := of_sWhile h
        exact sWhile_of (n := n + 1) (by rw [whileN, q]; simp only [q2]; exact hn)
      | some (.bk, sl2, st2) => simp only [q2] at h; exact sWhile_of (n := 1) (by rw [whileN, q]; simp only [q2]; exact h)
      | some (.rt d, sl2, st2) => simp only [q2] at h; exact sWhile_of (n := 1) (by rw [whileN, q]; simp only [q2]; exact h)
      | some (.xc d, sl2, st2) => simp only [q2] at h; exact sWhile_of (n := 1) (by rw [whileN, q]; simp only [q2]; exact h)
  have back : ∀ r, sWhile c b sl st = some r → (match c sl st with
    | none => none
    | some (.error x, st1) => some (.xc x, sl, st1)
    | some (.ok false, st1) => some (.nx, sl, st1)
    | some (.ok true, st1) => match b sl st1 with
      | some (.nx, sl2, st2) => sWhile c b sl2 st2
      | some (.ct, sl2, st2) => sWhile c b sl2 st2
      | some (.bk, sl2, st2) => some (.nx, sl2, st2)
      | r => r : Option (Fl × Sl × List O)) = some r := by
    intro r h
    obtain ⟨n, hn⟩ := of_sWhile h
    cases n with
    | zero => cases hn
    | succ n =>
      rw [whileN] at hn
      match q : c sl st with
      | none => rw [q] at hn; cases hn
      | some (.error x, st1) => rw [q] at hn; exact hn
      | some (.ok false, st1) => rw [q] at hn; exact hn
      | some (.ok true, st1) =>
        rw [q] at hn
        match q2 : b sl st1 with
        | none => simp only [q2] at hn; cases hn
        | some (.nx, sl2, st2) => simp only [q2] at hn ⊢; exact sWhile_of hn
        | some (.ct, sl2, st2) => simp only [q2] at hn ⊢; exact sWhile_of hn
        | some (.bk, sl2, st2) => simp only [q2] at hn ⊢; exact hn
        | some (.rt d, sl2, st2) => simp only [q2] at hn ⊢; exact hn
        | some (.xc d, sl2, st2) => simp only [q2] at hn ⊢; exact hn
  exact Option.ext fun r => ⟨fun h => back r h, fun h => go r h⟩
/-- a while that goes on -/
theorem while_go {c : MT} {b : MS} {sl sl2 : Sl} {st st1 st2 : List O} (h1 : c sl st = some (.ok true, st1)) (h2 : b sl st1 = some (.nx, sl2, st2)) : sWhile c b sl st = sWhile c b sl2 st2 := by
  rw [while_eq, h1]; simp only [h2]
theorem while_stop {c : MT} {b : MS} {sl : Sl} {st st1 : List O} (h1 : c sl st = some (.ok false, st1)) : sWhile c b sl st = some (.nx, sl, st1) := by
  rw [while_eq, h1]
theorem for_nil {C : List O → Prop} {g : MG} {b : MS} {sl : Sl} {st : List O} (h : C st) : forL C g b [] sl st = some (.nx, sl, st) := by rw [forL, if_pos h]
theorem for_cons {C : List O → Prop} {g : MG} {b : MS} {d : S} {ds : List S} {sl sl1 sl2 : Sl} {st st1 st2 : List O} (h : C st) (h1 : g d sl st = some (sl1, st1)) (h2 : b sl1 st1 = some (.nx, sl2, st2)) : forL C g b (d :: ds) sl st = forL C g b ds sl2 st2 := by
  rw [forL, if_pos h, h1]; simp only [h2]
/-- a comprehension that changes nothing -/
theorem lc_map {C : List O → Prop} {g : MG} {t : MT} {e : ME} {sl : Sl} {st : List O} (sl1 : S → Sl) (p : S → Bool) (f : S → D) (hC : C st) : ∀ (ds : List S) (acc : List D), (∀ d ∈ ds, g d sl st = some (sl1 d, st)) → (∀ d ∈ ds, t (sl1 d) st = some (.ok (p d), st)) →
    (∀ d ∈ ds, p d = true → e (sl1 d) st = some (.ok (.val (f d)), st)) → acc.length + ds.length ≤ sizeLine → lcL C g t e sl ds acc st = some (acc ++ (ds.filter p).map f, st)
  | [], acc, _, _, _, _ => by rw [lcL, if_pos hC]; simp
  | d :: ds, acc, h1, h2, h3, hl => by
    simp only [List.length_cons] at hl
    rw [lcL, if_pos hC, h1 d List.mem_cons_self]
    simp only
    rw [h2 d List.mem_cons_self]
    cases hp : p d with
    | false =>
      simp only
      rw [lc_map sl1 p f hC ds acc (fun d hd => h1 d (List.mem_cons_of_mem _ hd)) (fun d hd => h2 d (List.mem_cons_of_mem _ hd)) (fun d hd => h3 d (List.mem_cons_of_mem _ hd)) (by omega)]
      simp [hp]
    | true =>
      simp only
      have := h3 d List.mem_cons_self hp
      simp only [M.bind, this, toD, M.pure]
      rw [if_pos (by omega), lc_map sl1 p f hC ds (acc ++ [f d]) (fun d hd => h1 d (List.mem_cons_of_mem _ hd)) (fun d hd => h2 d (List.mem_cons_of_mem _ hd)) (fun d hd => h3 d (List.mem_cons_of_mem _ hd)) (by simp; omega)]
      simp [hp]
theorem lc_all {C : List O → Prop} {g : MG} {e : ME} {sl : Sl} {st : List O} (sl1 : S → Sl) (f : S → D) (hC : C st) (ds : List S) (h1 : ∀ d ∈ ds, g d sl st = some (sl1 d, st)) (h3 : ∀ d ∈ ds, e (sl1 d) st = some (.ok (.val (f d)), st)) (hl : ds.length ≤ sizeLine) :
    lcL C g tTrue e sl ds [] st = some (ds.map f, st) := by
  rw [lc_map sl1 (fun _ => true) f hC ds [] h1 (fun d _ => rfl) (fun d hd _ => h3 d hd) (by simpa using hl)]
  rw [List.nil_append, List.filter_eq_self.mpr (by simp)]
theorem atI_nat {α : Type} {l : List α} {i : Nat} {x : α} (h : l[i]? = some x) : atI l (i : Int) = some x := by
  have hl : i < l.length := (List.getElem?_eq_some_iff.mp h).1
  unfold atI ixN
  rw [if_pos (by omega), if_pos (by omega)]
  simpa using h
theorem atI_last {α : Type} {l : List α} {x : α} : atI (l ++ [x]) (-1) = some x := by
  unfold atI ixN
  have e : (-1 + (((l ++ [x]).length : Nat) : Int)).toNat = l.length := by simp; omega
  rw [if_neg (by omega), if_pos (by simp; omega), e]
  simp
@[simp] theorem all_below (n : Nat) (l : List D) : (l.map S.val).all (belowS n) = true := by
  induction l with
  | nil => rfl
  | cons a l ih => simp
@[simp] theorem datas_val (l : List D) : datas (l.map S.val) = some l := datas_map l
@[simp] theorem datas_comp {α : Type} (f : α → D) (l : List α) : datas (l.map (S.val ∘ f)) = some (l.map f) := by rw [← List.map_map]; exact datas_map _
end Cl
namespace G
open PySem L2 Cl
abbrev tokD (k t : Str) (l c : Int) : D := .ins "Token" [("kind", .str k), ("text", .str t), ("line", .int l), ("column", .int c)]
theorem str_eqv (a b : Str) : PyData.eqv (.str a) (.str b) = decide (a = b) := by simp [PyData.eqv]; exact Bool.eq_iff_iff.mpr (by simp)
theorem shaped_str {a : Str} (h : PyData.strOk a = true) : SeqAt.shaped (.str a) = true := by
  unfold SeqAt.shaped
  rw [show (PyData.str a).canLay0 = PyData.strOk a from rfl, h]; rfl
@[simp] theorem strOk_lit (s : String) : PyData.strOk (Str.ofString s) = true := by
  unfold PyData.strOk
  rw [← Array.all_toList, PyProof.Rows.signs_ofString]
  simp only [List.all_map, List.all_eq_true, Function.comp, decide_eq_true_eq]
  intro c _
  have := c.valid
  rcases this with h | h
  · exact Nat.lt_trans h (by decide)
  · exact h.2
theorem gNe_str {a b : Str} (st : List O) (ha : PyData.strOk a = true) (hb : PyData.strOk b = true) : gNe (.val (.str a)) (.val (.str b)) st = some (.ok (.val (.bl (!decide (a = b)))), st) := by
  simp [gNe, gEqB, toPS, toP, shaped_str ha, shaped_str hb, str_eqv]
theorem gEq_str {a b : Str} (st : List O) (ha : PyData.strOk a = true) (hb : PyData.strOk b = true) : gEq (.val (.str a)) (.val (.str b)) st = some (.ok (.val (.bl (decide (a = b)))), st) := by
  simp [gEq, gEqB, toPS, toP, shaped_str ha, shaped_str hb, str_eqv]
theorem sz {n : Nat} (h : n ≤ 1000) : n < sizeLine := by rw [sizeLine_eq]; omega
theorem drop_get {l : List D} {i : Nat} {x : D} {m : List D} (h : l.drop i = x :: m) : l[i]? = some x ∧ l.drop (i + 1) = m := by
  constructor
  · have := congrArg (fun z => z[0]?) h
    simpa using this
  · have : l.drop (i + 1) = (l.drop i).drop 1 := by rw [List.drop_drop]
    rw [this, h]; rfl
/-! ### the parser's store -/
structure PS where
  i : Nat
  fa : List D
  na : List D
  sts : List D
  pa : List D
  r : D
def PSt (toks : List D) (p : PS) (ex : List O) : List O := .ins "Parser" [("tokens", .val (.lst toks)), ("at", .val (.int p.i)), ("faults", .obj 1), ("names", .obj 2), ("starts", .obj 3), ("pauses", .obj 4), ("ranks", .val p.r)] ::
  .lst (p.fa.map .val) :: .lst (p.na.map .val) :: .lst (p.sts.map .val) :: .lst (p.pa.map .val) :: ex
def exOk (ex : List O) : Prop := ex.all (belowO (ex.length + 5)) = true
variable {toks : List D} {p : PS} {ex ys : List O} {k t : Str} {l c : Int}
@[simp] theorem P_len : (PSt toks p ex).length = ex.length + 5 := rfl
@[simp] theorem P_app (o : List O) : PSt toks p ex ++ o = PSt toks p (ex ++ o) := rfl
@[simp high] theorem P_0 : (PSt toks p ex)[0]? = some (O.ins "Parser" [("tokens", .val (.lst toks)), ("at", .val (.int p.i)), ("faults", .obj 1), ("names", .obj 2), ("starts", .obj 3), ("pauses", .obj 4), ("ranks", .val p.r)]) := rfl
@[simp high] theorem P_1 : (PSt toks p ex)[1]? = some (.lst (p.fa.map .val)) := rfl
@[simp high] theorem P_2 : (PSt toks p ex)[2]? = some (.lst (p.na.map .val)) := rfl
@[simp high] theorem P_3 : (PSt toks p ex)[3]? = some (.lst (p.sts.map .val)) := rfl
@[simp high] theorem P_4 : (PSt toks p ex)[4]? = some (.lst (p.pa.map .val)) := rfl
@[simp high] theorem P_5 (n : Nat) : (PSt toks p ex)[n + 5]? = ex[n]? := rfl
@[simp] theorem P_set2 (x : List S) (d : List D) (h : x = d.map .val) : (PSt toks p ex).set 2 (.lst x) = PSt toks { p with na := d } ex := by rw [h]; rfl
@[simp] theorem P_set3 (x : List S) (d : List D) (h : x = d.map .val) : (PSt toks p ex).set 3 (.lst x) = PSt toks { p with sts := d } ex := by rw [h]; rfl
@[simp] theorem P_set4 (x : List S) (d : List D) (h : x = d.map .val) : (PSt toks p ex).set 4 (.lst x) = PSt toks { p with pa := d } ex := by rw [h]; rfl
@[simp] theorem P_set5 (n : Nat) (o : O) : (PSt toks p ex).set (n + 5) o = PSt toks p (ex.set n o) := rfl
@[simp] theorem P_set0 (n : Nat) : (PSt toks p ex).set 0 (O.ins "Parser" [("tokens", .val (.lst toks)), ("at", .val (.int n)), ("faults", .obj 1), ("names", .obj 2), ("starts", .obj 3), ("pauses", .obj 4), ("ranks", .val p.r)]) = PSt toks { p with i := n } ex := rfl
@[simp] theorem P_set0' (n : Nat) : (PSt toks p ex).set 0 (O.ins "Parser" [("tokens", .val (.lst toks)), ("at", .val (.int ((n : Int) + 1))), ("faults", .obj 1), ("names", .obj 2), ("starts", .obj 3), ("pauses", .obj 4), ("ranks", .val p.r)]) = PSt toks { p with i := n + 1 } ex := rfl
@[simp] theorem P_set0r (d : D) : (PSt toks p ex).set 0 (O.ins "Parser" [("tokens", .val (.lst toks)), ("at", .val (.int p.i)), ("faults", .obj 1), ("names", .obj 2), ("starts", .obj 3), ("pauses", .obj 4), ("ranks", .val d)]) = PSt toks { p with r := d } ex := rfl
theorem P_cut (hx : exOk ex) : ex.length + 5 ≤ (PSt toks p (ex ++ ys)).length ∧ ((PSt toks p (ex ++ ys)).take (ex.length + 5)).all (belowO (ex.length + 5)) = true := by
  unfold exOk at hx
  refine ⟨by simp, ?_⟩
  simp [PSt, hx]
theorem P_take : (PSt toks p (ex ++ ys)).take (ex.length + 5) = PSt toks p ex := by simp [PSt]
theorem P_cut0 (hx : exOk ex) : ex.length + 5 ≤ (PSt toks p ex).length ∧ ((PSt toks p ex).take (ex.length + 5)).all (belowO (ex.length + 5)) = true := by
  have := P_cut (toks := toks) (p := p) (ys := []) hx
  simpa using this
theorem P_take0 : (PSt toks p ex).take (ex.length + 5) = PSt toks p ex := by have := P_take (toks := toks) (p := p) (ex := ex) (ys := []); simpa using this
theorem exit_rt (hx : exOk ex) (d : D) (sl : Sl) : exitC (ex.length + 5) (some (.rt (.val d), sl, PSt toks p (ex ++ ys))) = some (.ok (.val d), PSt toks p ex) := by
  unfold exitC
  dsimp only
  rw [if_pos (P_cut hx), P_take]
theorem exit_rt0 (hx : exOk ex) (d : D) (sl : Sl) : exitC (ex.length + 5) (some (.rt (.val d), sl, PSt toks p ex)) = some (.ok (.val d), PSt toks p ex) := by
  unfold exitC
  dsimp only
  rw [if_pos (P_cut0 hx), P_take0]
theorem exit_nx (hx : exOk ex) (sl : Sl) : exitC (ex.length + 5) (some (.nx, sl, PSt toks p (ex ++ ys))) = some (.ok (.val .non), PSt toks p ex) := by
  unfold exitC
  dsimp only
  rw [if_pos (P_cut hx), P_take]
theorem exit_nx0 (hx : exOk ex) (sl : Sl) : exitC (ex.length + 5) (some (.nx, sl, PSt toks p ex)) = some (.ok (.val .non), PSt toks p ex) := by
  unfold exitC
  dsimp only
  rw [if_pos (P_cut0 hx), P_take0]
@[simp] theorem get_end (ex : List O) (x : O) : (ex ++ [x])[ex.length]? = some x := by simp
theorem exOk_nil : exOk [] := rfl
theorem exOk_app (hx : exOk ex) (l : List D) : exOk (ex ++ [.lst (l.map .val)]) := by
  unfold exOk at hx ⊢
  rw [List.all_append, Bool.and_eq_true]
  refine ⟨?_, by simp⟩
  rw [List.all_eq_true] at hx ⊢
  intro o ho
  have := hx o ho
  have mS : ∀ s, belowS (ex.length + 5) s = true → belowS ((ex ++ [O.lst (l.map .val)]).length + 5) s = true := fun s hs => by
    cases s with
    | val d => rfl
    | obj k => simp only [belowS, decide_eq_true_eq] at hs ⊢; simp; omega
  cases o with
  | lst m => simp only [belowO, List.all_eq_true] at this ⊢; exact fun s hs => mS s (this s hs)
  | ins n fs => simp only [belowO, List.all_eq_true] at this ⊢; exact fun s hs => mS _ (this s hs)
  | dct m => simp only [belowO, List.all_eq_true] at this ⊢; exact fun s hs => mS _ (this s hs)
  | frz d => rfl
/-! ### the methods -/
theorem peek_eq (hx : exOk ex) (h : toks[p.i]? = some (tokD k t l c)) : F_Parser_peek [.obj 0] (PSt toks p ex) = some (.ok (.val (tokD k t l c)), PSt toks p ex) := by
  have h2 := Cl.atI_nat (show (toks.map S.val)[p.i]? = some (.val (tokD k t l c)) by rw [List.getElem?_map, h]; rfl)
  simp [-exitC, F_Parser_peek, b_Parser_peek, gIx, h2, exit_rt0 hx]
theorem take_eq (hx : exOk ex) (hk : PyData.strOk k = true) (h : toks[p.i]? = some (tokD k t l c)) : F_Parser_take [.obj 0, .val (.str k)] (PSt toks p ex) = some (.ok (.val (tokD k t l c)), PSt toks { p with i := p.i + 1 } ex) := by
  simp [-exitC, F_Parser_take, b_Parser_take, gNe_str _ hk hk, peek_eq hx h, exit_rt0 hx]
theorem take_word_eq (hx : exOk ex) (ht : PyData.strOk t = true) (h : toks[p.i]? = some (tokD k t l c)) : F_Parser_take_word [.obj 0, .val (.str t)] (PSt toks p ex) = some (.ok (.val .non), PSt toks { p with i := p.i + 1 } ex) := by
  simp [-exitC, F_Parser_take_word, b_Parser_take_word, gNe_str _ ht ht, peek_eq hx h, exit_nx0 hx]
abbrev nmD (x : Str × Int × Int) : D := tokD "name" x.1 x.2.1 x.2.2
theorem names_loop (hx : exOk ex) : ∀ (ns : List (Str × Int × Int)) (p : PS) (acc : List D) (rest : List D), toks.drop p.i = ns.map nmD ++ tokD "sign" ";" l c :: rest → acc.length + ns.length ≤ 1000 →
    sWhile c1_Parser_take_names l1_Parser_take_names [some (.obj 0), some (.obj (ex.length + 5))] (PSt toks p (ex ++ [.lst (acc.map .val)])) =
      some (.nx, [some (.obj 0), some (.obj (ex.length + 5))], PSt toks { p with i := p.i + ns.length } (ex ++ [.lst ((acc ++ ns.map nmD).map .val)]))
  | [], p, acc, rest, h, hl => by
    rw [while_stop (st1 := PSt toks p (ex ++ [.lst (acc.map .val)]))]
    · simp
    · simp [c1_Parser_take_names, peek_eq (exOk_app hx acc) (drop_get h).1, gEq_str]
  | n :: ns, p, acc, rest, h, hl => by
    have h1 := (drop_get h).1
    rw [while_go (st1 := PSt toks p (ex ++ [.lst (acc.map .val)])) (sl2 := [some (.obj 0), some (.obj (ex.length + 5))]) (st2 := PSt toks { p with i := p.i + 1 } (ex ++ [.lst ((acc ++ [nmD n]).map .val)]))]
    · rw [names_loop hx ns { p with i := p.i + 1 } (acc ++ [nmD n]) rest (drop_get h).2 (by simp at hl ⊢; omega)]
      simp [Nat.add_assoc, Nat.add_comm 1]
    · simp [c1_Parser_take_names, peek_eq (exOk_app hx acc) h1, gEq_str]
    · simp at hl
      have hs : acc.length < sizeLine := sz (by omega)
      simp [l1_Parser_take_names, take_eq (exOk_app hx acc) (strOk_lit _) h1, gAppend, hs]
theorem take_names_eq (hx : exOk ex) (n : Str × Int × Int) (ns : List (Str × Int × Int)) (rest : List D) (h : toks.drop p.i = (n :: ns).map nmD ++ tokD "sign" ";" l c :: rest) (hl : ns.length ≤ 900) :
    F_Parser_take_names [.obj 0] (PSt toks p ex) = some (.ok (.val (.lst ((n :: ns).map nmD))), PSt toks { p with i := p.i + (ns.length + 2) } ex) := by
  have h1 := take_eq hx (strOk_lit _) (drop_get h).1
  have h2 := names_loop hx ns { p with i := p.i + 1 } [nmD n] rest (drop_get h).2 (by simp; omega)
  have h3 : toks[p.i + 1 + ns.length]? = some (tokD "sign" ";" l c) := by
    have := congrArg (fun z => z[ns.length + 1]?) h
    simp at this
    rw [show p.i + 1 + ns.length = p.i + (ns.length + 1) by omega]; exact this
  have h4 := take_word_eq (p := { p with i := p.i + 1 + ns.length }) (exOk_app hx ([nmD n] ++ ns.map nmD)) (strOk_lit _) h3
  have hs : 1 ≤ sizeLine := Nat.le_of_lt (sz (by omega))
  have e1 : p.i + 1 + ns.length + 1 = p.i + (ns.length + 2) := by omega
  simp only [e1] at h4
  simp only [List.map_append, List.map_cons, List.map_nil, List.cons_append, List.nil_append, List.map_map] at h2 h4
  simp [-exitC, F_Parser_take_names, b_Parser_take_names, gLstO, h1, hs, h2, h4, exit_rt hx]
end G
namespace G
open PySem L2 Cl
def Sc (l : List Nat) : Str := ⟨l.toArray⟩
@[simp] theorem Sc_one (a : Nat) : (⟨#[a]⟩ : Str) = Sc [a] := rfl
@[simp] theorem Sc_cps (a : List Nat) : (Sc a).cps.toList = a := rfl
@[simp] theorem gAdd_int (a b : Int) (st : List O) : gAdd (.val (.int a)) (.val (.int b)) st = some (.ok (.val (.int (a + b))), st) := rfl
theorem Sc_of (s : String) : Str.ofString s = Sc (s.toList.map Char.toNat) := by
  have := PyProof.Rows.signs_ofString s
  exact TL.ext_tl (by rw [Sc, TL.tl_mk]; exact this)
@[simp] theorem Sc_eq (a b : List Nat) : (Sc a = Sc b) = (a = b) := propext ⟨fun h => congrArg (fun x : Str => x.cps.toList) h, fun h => by rw [h]⟩
@[simp] theorem Sc_len (a : List Nat) : (Sc a).length = a.length := by simp [Sc, Str.length]
abbrev iV (i : Int) : S := .val (.int i)
theorem sizes {n : Nat} (h : n ≤ 16000000) : n < sizeLine := by rw [sizeLine_eq]; omega
@[simp] theorem sz_1 : 1 ≤ sizeLine := by rw [sizeLine_eq]; omega
@[simp] theorem sz_2 : 2 ≤ sizeLine := by rw [sizeLine_eq]; omega
@[simp] theorem sz_3 : 3 ≤ sizeLine := by rw [sizeLine_eq]; omega
@[simp] theorem sz_4 : 4 ≤ sizeLine := by rw [sizeLine_eq]; omega
@[simp] theorem sz_5 : 5 ≤ sizeLine := by rw [sizeLine_eq]; omega
@[simp] theorem sz_6 : 6 ≤ sizeLine := by rw [sizeLine_eq]; omega
@[simp] theorem sz_7 : 7 ≤ sizeLine := by rw [sizeLine_eq]; omega
@[simp] theorem sz_8 : 8 ≤ sizeLine := by rw [sizeLine_eq]; omega
@[simp] theorem sz_9 : 9 ≤ sizeLine := by rw [sizeLine_eq]; omega
@[simp] theorem sz_10 : 10 ≤ sizeLine := by rw [sizeLine_eq]; omega
@[simp] theorem sz_11 : 11 ≤ sizeLine := by rw [sizeLine_eq]; omega
@[simp] theorem sz_12 : 12 ≤ sizeLine := by rw [sizeLine_eq]; omega
@[simp] theorem sz_13 : 13 ≤ sizeLine := by rw [sizeLine_eq]; omega
@[simp] theorem sz_14 : 14 ≤ sizeLine := by rw [sizeLine_eq]; omega
@[simp] theorem sz_15 : 15 ≤ sizeLine := by rw [sizeLine_eq]; omega
@[simp] theorem sz_16 : 16 ≤ sizeLine := by rw [sizeLine_eq]; omega
@[simp] theorem sz_17 : 17 ≤ sizeLine := by rw [sizeLine_eq]; omega
@[simp] theorem sz_18 : 18 ≤ sizeLine := by rw [sizeLine_eq]; omega
@[simp] theorem sz_19 : 19 ≤ sizeLine := by rw [sizeLine_eq]; omega
@[simp] theorem sz_20 : 20 ≤ sizeLine := by rw [sizeLine_eq]; omega
@[simp] theorem datas_lam {α : Type} (f : α → D) (l : List α) : datas (l.map fun a => S.val (f a)) = some (l.map f) := datas_comp f l
@[simp] theorem datas_app (l m : List S) : datas (l ++ m) = (datas l).bind fun a => (datas m).map (a ++ ·) := by
  induction l with
  | nil => simp
  | cons a l ih =>
    cases a with
    | obj k => rfl
    | val d =>
      simp only [List.cons_append, datas, ih]
      cases datas l with
      | none => rfl
      | some x => cases datas m <;> rfl
@[simp] theorem sl_0 : 0 < sizeLine := by rw [sizeLine_eq]; omega
@[simp] theorem sl_1 : 1 < sizeLine := by rw [sizeLine_eq]; omega
@[simp] theorem sl_2 : 2 < sizeLine := by rw [sizeLine_eq]; omega
@[simp] theorem sl_3 : 3 < sizeLine := by rw [sizeLine_eq]; omega
@[simp] theorem sl_4 : 4 < sizeLine := by rw [sizeLine_eq]; omega
@[simp] theorem sl_5 : 5 < sizeLine := by rw [sizeLine_eq]; omega
@[simp] theorem sl_6 : 6 < sizeLine := by rw [sizeLine_eq]; omega
@[simp] theorem sl_7 : 7 < sizeLine := by rw [sizeLine_eq]; omega
@[simp] theorem sl_8 : 8 < sizeLine := by rw [sizeLine_eq]; omega
@[simp] theorem sl_9 : 9 < sizeLine := by rw [sizeLine_eq]; omega
@[simp] theorem sl_10 : 10 < sizeLine := by rw [sizeLine_eq]; omega
@[simp] theorem sl_11 : 11 < sizeLine := by rw [sizeLine_eq]; omega
@[simp] theorem sl_12 : 12 < sizeLine := by rw [sizeLine_eq]; omega
@[simp] theorem sl_13 : 13 < sizeLine := by rw [sizeLine_eq]; omega
@[simp] theorem sl_14 : 14 < sizeLine := by rw [sizeLine_eq]; omega
@[simp] theorem sl_15 : 15 < sizeLine := by rw [sizeLine_eq]; omega
@[simp] theorem sl_16 : 16 < sizeLine := by rw [sizeLine_eq]; omega
@[simp] theorem sl_17 : 17 < sizeLine := by rw [sizeLine_eq]; omega
@[simp] theorem sl_18 : 18 < sizeLine := by rw [sizeLine_eq]; omega
@[simp] theorem sl_19 : 19 < sizeLine := by rw [sizeLine_eq]; omega
@[simp] theorem sl_20 : 20 < sizeLine := by rw [sizeLine_eq]; omega
theorem token_init (a b c d : D) : F_Token_init [a, b, c, d] = some (.ok (.ins "Token" [("kind", a), ("text", b), ("line", c), ("column", d)])) := by
  simp [F_Token_init, b_Token_init, deepD, deepF]
theorem in_str (a : Nat) (z : List Nat) (st : List O) : gInB false (.val (.str (Sc [a]))) (.val (.str (Sc z))) st = some (.ok (.val (.bl (decide (a ∈ z)))), st) := by
  simp [gInB]
  congr
/-! ### run_end -/
theorem run_loop {row ls : List Nat} (hR : row.length ≤ sizeLine) (x : Option S) (st : List O) : ∀ (m : List Nat) (e : Nat), row.drop e = m →
    sWhile c1_run_end l1_run_end [some (.val (.str (Sc row))), x, some (.val (.str (Sc ls))), some (.val (.int e))] st =
      some (.nx, [some (.val (.str (Sc row))), x, some (.val (.str (Sc ls))), some (.val (.int ((e + (m.takeWhile fun c => decide (c ∈ ls)).length : Nat) : Int)))], st)
  | [], e, h => by
    have he : row.length ≤ e := List.drop_eq_nil_iff.mp h
    have he2 : ¬ ((e : Int) < (row.length : Int)) := by omega
    rw [while_stop (st1 := st)]
    · simp
    · simp [c1_run_end, gLen, hR, he2]
  | c :: m, e, h => by
    have he : e < row.length := by
      rcases Nat.lt_or_ge e row.length with h1 | h1
      · exact h1
      · rw [List.drop_eq_nil_iff.mpr h1] at h; cases h
    have he2 : (e : Int) < (row.length : Int) := by omega
    have hc : row[e]? = some c := by
      have := congrArg (fun z => z[0]?) h
      simpa using this
    have hm : row.drop (e + 1) = m := by
      have : row.drop (e + 1) = (row.drop e).drop 1 := by rw [List.drop_drop]
      rw [this, h]; rfl
    have ha := Cl.atI_nat hc
    by_cases hl : c ∈ ls
    · rw [while_go (st1 := st) (sl2 := [some (.val (.str (Sc row))), x, some (.val (.str (Sc ls))), some (.val (.int ((e + 1 : Nat) : Int)))]) (st2 := st)]
      · rw [run_loop hR x st m (e + 1) hm]
        simp [hl, Nat.add_assoc, Nat.add_comm 1]
      · simp [c1_run_end, gLen, hR, he2, gIx, ha, in_str, hl]
      · simp [l1_run_end]
    · rw [while_stop (st1 := st)]
      · simp [hl]
      · simp [c1_run_end, gLen, hR, he2, gIx, ha, in_str, hl]
theorem run_end_eq {row ls : List Nat} (hR : row.length ≤ sizeLine) (e : Nat) : F_run_end [.str (Sc row), .int e, .str (Sc ls)] = some (.ok (.int ((e + ((row.drop e).takeWhile fun c => decide (c ∈ ls)).length : Nat) : Int))) := by
  have h := run_loop (ls := ls) hR (some (.val (.int e))) [] _ e rfl
  simp [F_run_end, b_run_end, h, deepD]
end G
namespace G
open PySem L2 Cl
variable {toks : List D} {p : PS} {ex ys : List O} {k t : Str} {l c : Int} {nms : List Str}
theorem gEq_int (a b : Int) (st : List O) : gEq (.val (.int a)) (.val (.int b)) st = some (.ok (.val (.bl (decide (a = b)))), st) := by
  have e : PyData.eqv (.int a) (.int b) = decide (a = b) := by simp [PyData.eqv]; exact Bool.eq_iff_iff.mpr (by simp)
  have s : ∀ i : Int, SeqAt.shaped (.int i) = true := fun i => rfl
  simp [gEq, gEqB, toPS, toP, s, e]
theorem gNe_int (a b : Int) (st : List O) : gNe (.val (.int a)) (.val (.int b)) st = some (.ok (.val (.bl (!decide (a = b)))), st) := by
  have e : PyData.eqv (.int a) (.int b) = decide (a = b) := by simp [PyData.eqv]; exact Bool.eq_iff_iff.mpr (by simp)
  have s : ∀ i : Int, SeqAt.shaped (.int i) = true := fun i => rfl
  simp [gNe, gEqB, toPS, toP, s, e]
structure NmOk (nms : List Str) : Prop where
  nd : nms.Nodup
  ok : ∀ x ∈ nms, PyData.strOk x = true
@[simp] theorem toPs_strs (l : List Str) : toPs (l.map D.str) = some (l.map PyData.str) := by
  induction l with
  | nil => simp [toPs]
  | cons a l ih => simp [toPs, toP, ih]
@[simp] theorem flat_strs (l : List Str) : (l.map PyData.str).all flatP = true := by
  induction l with
  | nil => rfl
  | cons a l ih => simp [flatP]
theorem any_strs (x : Str) (l : List Str) : ((l.map PyData.str).any fun z => PyData.eqv z (.str x)) = decide (x ∈ l) := by
  induction l with
  | nil => rfl
  | cons a l ih =>
    simp only [List.map_cons, List.any_cons, str_eqv, ih]
    by_cases h : a = x
    · subst h; simp
    · have h' : ¬ x = a := fun z => h z.symm
      simp [h, h']
theorem lay_strs (l : List Str) (h : ∀ x ∈ l, PyData.strOk x = true) : PyData.canLayAll0 (l.map PyData.str) = true := by
  induction l with
  | nil => rfl
  | cons a l ih => simp [PyData.canLayAll0, PyData.canLay0, h a, ih fun x hx => h x (List.mem_cons_of_mem _ hx)]
theorem depth_strs (l : List Str) : PyData.depthAll (l.map PyData.str) = 0 := by
  induction l with
  | nil => rfl
  | cons a l ih => simp [PyData.depthAll, PyData.depth, ih]
theorem shaped_strs (l : List Str) (h : ∀ x ∈ l, PyData.strOk x = true) : SeqAt.shaped (.list (l.map PyData.str)) = true := by
  simp [SeqAt.shaped, PyData.canLay0, lay_strs l h, PyData.depth, depth_strs]
theorem first_strs {x : Str} : ∀ {l : List Str} {n j : Nat}, l[j]? = some x → l.Nodup → firstP (.str x) (l.map PyData.str) n = some (n + j)
  | [], _, _, h, _ => by simp at h
  | a :: l, n, 0, h, _ => by simp at h; simp [firstP, str_eqv, h]
  | a :: l, n, j + 1, h, nd => by
    have h' : l[j]? = some x := by simpa using h
    have ne : ¬ a = x := fun z => by
      have := List.mem_of_getElem? h'
      rw [← z] at this
      exact (List.nodup_cons.mp nd).1 this
    simp only [List.map_cons, firstP, str_eqv, ne, decide_false, Bool.false_eq_true, if_false]
    rw [first_strs h' (List.nodup_cons.mp nd).2]
    congr 1; omega
theorem in_names (ok : NmOk nms) (hn : p.na = nms.map .str) (x : Str) : gInB false (.val (.str x)) (.obj 2) (PSt toks p ex) = some (.ok (.val (.bl (decide (x ∈ nms)))), PSt toks p ex) := by
  have e := any_strs x nms
  have f := flat_strs nms
  simp [gInB, toPS, toP, hn, flatP, e, f, -List.any_map, -List.all_map]
theorem valve_eq (hx : exOk ex) (ok : NmOk nms) (hn : p.na = nms.map .str) {x : Str} {j : Nat} (h : nms[j]? = some x) : F_Parser_valve [.obj 0, .val (tokD k x l c)] (PSt toks p ex) = some (.ok (.val (.int j)), PSt toks p ex) := by
  have hm := List.mem_of_getElem? h
  have e1 := in_names (toks := toks) (ex := ex) ok hn x
  have e2 := first_strs (n := 0) h ok.nd
  rw [Nat.zero_add] at e2
  simp [-exitC, F_Parser_valve, b_Parser_valve, e1, hm, gIndex, hn, toPS, toP, shaped_strs nms ok.ok, shaped_str (ok.ok x hm), e2, exit_rt0 hx]
/-- a number's text -/
structure Num (t : Str) (n : Nat) : Prop where
  i : intText? t = some (n : Int)
  l : t.length ≤ 640
  ok : PyData.strOk t = true
theorem gInt_num {n : Nat} (h : Num t n) (st : List O) : gInt (.val (.str t)) st = some (.ok (.val (.int n)), st) := by simp [gInt, h.i, h.l]
theorem number_eq (hx : exOk ex) {w : Str} {n : Nat} {hi : Int} {l2 c2 l3 c3 : Int} {rest : List D} (hw : PyData.strOk w = true) (hn : Num t n) (h1 : (1 : Int) ≤ n) (h2 : (n : Int) ≤ hi) (h : toks.drop p.i = tokD k w l c :: tokD "number" t l2 c2 :: tokD "sign" ";" l3 c3 :: rest) :
    F_Parser_parse_number [.obj 0, .val (.str w), .val (.int hi)] (PSt toks p ex) = some (.ok (.val (.int n)), PSt toks { p with i := p.i + 3 } ex) := by
  obtain ⟨a1, b1⟩ := drop_get h
  obtain ⟨a2, b2⟩ := drop_get b1
  obtain ⟨a3, b3⟩ := drop_get b2
  have e1 := take_word_eq (p := p) hx hw a1
  have e2 := take_eq (p := { p with i := p.i + 1 }) hx (strOk_lit _) a2
  have e3 := take_word_eq (p := { p with i := p.i + 1 + 1 }) hx (strOk_lit _) a3
  simp [-exitC, F_Parser_parse_number, b_Parser_parse_number, e1, e2, e3, gInt_num hn, h1, h2, exit_rt0 hx]
theorem valves_loop (hx : exOk ex) : ∀ (ns : List (Str × Int × Int)) (p : PS) (done : List Str) (sl : Option S), p.na = done.map .str → NmOk (done ++ ns.map (·.1)) → done.length + ns.length ≤ 8 →
    ∃ sl', forL always (tgName 1) l1_Parser_parse_valves ((ns.map nmD).map .val) [some (.obj 0), sl] (PSt toks p ex) = some (.nx, [some (.obj 0), sl'], PSt toks { p with na := (done ++ ns.map (·.1)).map .str } ex)
  | [], p, done, sl, hd, _, _ => ⟨sl, by rw [List.map_nil, List.map_nil, for_nil (by simp)]; simp [← hd]⟩
  | n :: ns, p, done, sl, hd, ok, hl => by
    have ok1 : NmOk done := ⟨(List.nodup_append.mp ok.nd).1, fun x hx => ok.ok x (List.mem_append_left _ hx)⟩
    have hn : ¬ n.1 ∈ done := fun z => (List.nodup_append.mp ok.nd).2.2 _ z n.1 (by simp) rfl
    have e1 := in_names (toks := toks) (ex := ex) ok1 hd n.1
    simp at hl
    have hs : done.length < sizeLine := sz (by omega)
    have h8 : ¬ ((done.length : Int) = 8) := by omega
    obtain ⟨sl', ih⟩ := valves_loop hx ns { p with na := (done ++ [n.1]).map .str } (done ++ [n.1]) (some (.val (nmD n))) rfl (by simpa using ok) (by simp; omega)
    refine ⟨sl', ?_⟩
    rw [List.map_cons, List.map_cons, for_cons (sl1 := [some (.obj 0), some (.val (nmD n))]) (st1 := PSt toks p ex) (sl2 := [some (.obj 0), some (.val (nmD n))]) (st2 := PSt toks { p with na := (done ++ [n.1]).map .str } ex) (by simp) (by simp), ih]
    · simp
    · have e2 := P_set2 (toks := toks) (p := p) (ex := ex) (done.map (S.val ∘ D.str) ++ [.val (.str n.1)]) ((done ++ [n.1]).map .str) (by simp)
      simp [l1_Parser_parse_valves, e1, hn, gLen, hd, gEq_int, h8, gAppend, hs] at e2 ⊢
      exact e2
end G
namespace G
open PySem L2 Cl
def isDig (c : Nat) : Bool := decide (48 ≤ c) && decide (c ≤ 57)
def isLet (c : Nat) : Bool := decide (97 ≤ c) && decide (c ≤ 122)
def digL : List Nat := [48, 49, 50, 51, 52, 53, 54, 55, 56, 57]
def letL : List Nat := [97, 98, 99, 100, 101, 102, 103, 104, 105, 106, 107, 108, 109, 110, 111, 112, 113, 114, 115, 116, 117, 118, 119, 120, 121, 122]
theorem in_dig (c : Nat) : decide (c ∈ digL) = isDig c := by
  rw [Bool.eq_iff_iff]
  simp only [decide_eq_true_eq, isDig, Bool.and_eq_true, digL, List.mem_cons, List.not_mem_nil, or_false]
  omega
theorem in_let (c : Nat) : decide (c ∈ letL) = isLet c := by
  rw [Bool.eq_iff_iff]
  simp only [decide_eq_true_eq, isLet, Bool.and_eq_true, letL, List.mem_cons, List.not_mem_nil, or_false]
  omega
theorem mem_dig (c : Nat) : (c ∈ digL) = (isDig c = true) := by rw [← in_dig]; simp
theorem mem_let (c : Nat) : (c ∈ letL) = (isLet c = true) := by rw [← in_let]; simp
theorem lit_dig : Str.ofString "0123456789" = Sc digL := by rw [Sc_of]; rfl
theorem lit_let : Str.ofString "abcdefghijklmnopqrstuvwxyz" = Sc letL := by rw [Sc_of]; rfl
theorem lit_semi : Str.ofString ";" = Sc [59] := by rw [Sc_of]; rfl
theorem lit_zero : Str.ofString "0" = Sc [48] := by rw [Sc_of]; rfl
theorem lit_sp : Str.ofString " \n" = Sc [32, 10] := by rw [Sc_of]; rfl
theorem lit_nl : Str.ofString "\n" = Sc [10] := by rw [Sc_of]; rfl
def keyW : List Str := ["round", "open", "valves", "start", "for", "pause", "rank"]
structure Tk where
  k : Str
  t : List Nat
  l : Nat
  c : Nat
abbrev Tk.d (x : Tk) : D := tokD x.k (Sc x.t) x.l x.c
/-- the token at the head of a row's rest, or a fault there -/
def readT (m : List Nat) (l c : Nat) : Option Tk := match m with
  | [] => none
  | a :: r =>
    if a = 59 then some ⟨"sign", [59], l, c⟩
    else if isDig a = true then (
      if 2 < ((a :: r).takeWhile isDig).length ∨ (1 < ((a :: r).takeWhile isDig).length ∧ a = 48) then none else some ⟨"number", (a :: r).takeWhile isDig, l, c⟩)
    else (
      if Sc ((a :: r).takeWhile isLet) ∈ keyW then some ⟨"keyword", (a :: r).takeWhile isLet, l, c⟩
      else if 1 ≤ ((a :: r).takeWhile isLet).length ∧ ((a :: r).takeWhile isLet).length ≤ 8 then some ⟨"name", (a :: r).takeWhile isLet, l, c⟩ else none)
abbrev synX (l c : Nat) : XD := ⟨"SyntaxFault", [("column", .int c), ("line", .int l)]⟩
def okC (a : List Nat) : Prop := ∀ c ∈ a, c < 1114112
theorem ok_Sc {a : List Nat} (h : okC a) : PyData.strOk (Sc a) = true := by
  unfold PyData.strOk
  rw [← Array.all_toList, List.all_eq_true]
  intro c hc
  exact decide_eq_true (h c hc)
theorem cut_S {row : List Nat} {c n : Nat} (h : c + n ≤ row.length) : cutS (Sc row) (some (c : Int)) (some ((c + n : Nat) : Int)) = Sc ((row.drop c).take n) := by
  unfold cutS
  rw [HT.sIx_nat, HT.sIx_nat, Sc_len, Nat.min_eq_left h, Nat.min_eq_left (by omega), Nat.add_sub_cancel_left]
  rfl
theorem take_tw (p : Nat → Bool) (l : List Nat) : l.take (l.takeWhile p).length = l.takeWhile p :=
  (List.prefix_iff_eq_take.mp (List.takeWhile_prefix p)).symm
theorem tw_len (p : Nat → Bool) (l : List Nat) : (l.takeWhile p).length ≤ l.length := (List.takeWhile_prefix p).length_le
theorem cut_tw {row : List Nat} {c : Nat} {m : List Nat} (p : Nat → Bool) (h : row.drop c = m) (hc : c ≤ row.length) : cutS (Sc row) (some (c : Int)) (some ((c + (m.takeWhile p).length : Nat) : Int)) = Sc (m.takeWhile p) := by
  rw [cut_S, h, take_tw]
  have := tw_len p m
  have h2 := congrArg List.length h
  rw [List.length_drop] at h2
  omega
theorem in_key (w : Str) (st : List O) : gInB false (.val (.str w)) (.val (.tup (keyW.map D.str))) st = some (.ok (.val (.bl (decide (w ∈ keyW)))), st) := by
  have e := any_strs w keyW
  have f := flat_strs keyW
  simp [gInB, toPS, toP, flatP, e, f, -List.any_map, -List.all_map]
theorem read_eq {row : List Nat} (hR : row.length ≤ 16000000) (hok : okC row) (l c : Nat) {a : Nat} {r : List Nat} (h : row.drop c = a :: r) :
    F_read_token [.str (Sc row), .int l, .int c] = match readT (a :: r) l c with
      | some t => some (.ok t.d)
      | none => some (.error (synX l c)) := by
  have hz := Nat.le_of_lt (sizes hR)
  have hc : row[c]? = some a := by
    have := congrArg (fun z => z[0]?) h
    simpa using this
  have hcl : c ≤ row.length := Nat.le_of_lt (List.getElem?_eq_some_iff.mp hc).1
  have ha := Cl.atI_nat hc
  have e1 := run_end_eq (ls := digL) hz c
  have e2 := run_end_eq (ls := letL) hz c
  simp only [in_dig, in_let, h] at e1 e2
  have c1 := cut_tw isDig h hcl
  have c2 := cut_tw isLet h hcl
  have okA : okC [a] := fun x hx => by
    rw [List.mem_singleton.mp hx]; exact hok a (List.mem_of_getElem? hc)
  have q1 := gEq_str (a := Sc [a]) (b := Sc [59]) [] (ok_Sc okA) (by rw [← lit_semi]; exact strOk_lit _)
  have q2 := gEq_str (a := Sc [a]) (b := Sc [48]) [] (ok_Sc okA) (by rw [← lit_zero]; exact strOk_lit _)
  simp only [Sc_eq, List.cons.injEq, and_true] at q1 q2
  have l1 : ∀ p : Nat → Bool, ((a :: r).takeWhile p).length ≤ sizeLine := fun p => by
    have := tw_len p (a :: r)
    have h2 := congrArg List.length h
    rw [List.length_drop] at h2
    exact Nat.le_trans this (by omega)
  have k1 : ∀ w : Str, gInB false (.val (.str w)) (.val (.tup ((["round", "open", "valves", "start", "for", "pause", "rank"] : List Str).map D.str))) [] = some (.ok (.val (.bl (decide (w ∈ keyW)))), []) := fun w => in_key w []
  simp only [List.map_cons, List.map_nil] at k1
  have ld := l1 isDig
  have ll := l1 isLet
  simp only [show (fun c => isDig c) = isDig from rfl, show (fun c => isLet c) = isLet from rfl, Int.natCast_add] at e1 e2 c1 c2
  unfold F_read_token asP b_read_token readT
  dsimp only
  generalize (a :: r).takeWhile isDig = wd at e1 c1 ld ⊢
  generalize (a :: r).takeWhile isLet = wl at e2 c2 ll ⊢
  rw [lit_semi, lit_dig, lit_let, lit_zero]
  by_cases h59 : a = 59
  · subst h59
    simp [gIx, hz, ha, q1, token_init, deepD, deepF]
  · by_cases hd : isDig a = true
    · by_cases hb : 2 < wd.length
      · have hb2 : (2 : Int) < wd.length := by omega
        simp [gIx, hz, ha, q1, h59, in_str, mem_dig, hd, e1, gSl, c1, gLen, ld, ll, hb, hb2, backF]
      · have hb2 : ¬ (2 : Int) < wd.length := by omega
        by_cases hb3 : 1 < wd.length
        · have hb4 : (1 : Int) < wd.length := by omega
          by_cases h48 : a = 48
          · subst h48
            simp [gIx, hz, ha, q1, q2, h59, in_str, mem_dig, hd, e1, gSl, c1, gLen, ld, ll, hb, hb2, hb3, hb4, backF]
          · simp [gIx, hz, ha, q1, q2, h59, in_str, mem_dig, hd, e1, gSl, c1, gLen, ld, ll, hb, hb2, hb3, hb4, h48, backF, token_init, deepD, deepF]
        · have hb4 : ¬ (1 : Int) < wd.length := by omega
          simp [gIx, hz, ha, q1, q2, h59, in_str, mem_dig, hd, e1, gSl, c1, gLen, ld, ll, hb, hb2, hb3, hb4, backF, token_init, deepD, deepF]
    · have hd2 : isDig a = false := by simpa using hd
      by_cases hk : Sc wl ∈ keyW
      · simp [gIx, hz, ha, q1, h59, in_str, mem_dig, hd2, e2, gSl, c2, k1, hk, token_init, deepD, deepF]
      · by_cases h1 : 1 ≤ wl.length
        · have h1' : (1 : Int) ≤ wl.length := by omega
          by_cases h8 : wl.length ≤ 8
          · have h8' : (wl.length : Int) ≤ 8 := by omega
            simp [gIx, hz, ha, q1, h59, in_str, mem_dig, hd2, e2, gSl, c2, k1, hk, gLen, ld, ll, h1, h1', h8, h8', token_init, deepD, deepF]
          · have h8' : ¬ (wl.length : Int) ≤ 8 := by omega
            simp [gIx, hz, ha, q1, h59, in_str, mem_dig, hd2, e2, gSl, c2, k1, hk, gLen, ld, ll, h1, h1', h8, h8', backF]
        · have h1' : ¬ (1 : Int) ≤ wl.length := by omega
          simp [gIx, hz, ha, q1, h59, in_str, mem_dig, hd2, e2, gSl, c2, k1, hk, gLen, ld, ll, h1, h1', backF]
end G
namespace G
open PySem L2 Cl
/-! ### plain data: equality -/
mutual
/-- of depth at most n; bools only where b -/
def okP (b : Bool) : Nat → D → Bool
  | _, .non => true
  | _, .bl _ => b
  | _, .int _ => true
  | _, .str s => PyData.strOk s
  | n + 1, .tup l => okPs b n l
  | n + 1, .lst l => okPs b n l
  | _, _ => false
def okPs (b : Bool) : Nat → List D → Bool
  | _, [] => true
  | n, d :: r => okP b n d && okPs b n r
end
theorem okPs_iff {b : Bool} {n : Nat} : ∀ {l : List D}, okPs b n l = true ↔ ∀ d ∈ l, okP b n d = true
  | [] => by simp [okPs]
  | d :: r => by
    rw [okPs, Bool.and_eq_true, okPs_iff]
    simp
mutual
theorem okP_toP {b : Bool} : ∀ {n : Nat} {d : D}, okP b n d = true → ∃ p, toP d = some p ∧ p.canLay0 = true ∧ p.depth ≤ n
  | n, .non, _ => ⟨_, by rw [toP], rfl, Nat.zero_le _⟩
  | n, .bl k, _ => ⟨_, by rw [toP], rfl, Nat.zero_le _⟩
  | n, .int i, _ => ⟨_, by rw [toP], rfl, Nat.zero_le _⟩
  | n, .str s, h => ⟨_, by rw [toP], by rw [okP] at h; exact h, Nat.zero_le _⟩
  | n + 1, .tup l, h => by
    rw [okP] at h
    obtain ⟨ps, h1, h2, h3⟩ := okPs_toP h
    refine ⟨.tuple ps, by rw [toP, h1]; rfl, by rw [PyData.canLay0]; exact h2, ?_⟩
    rw [PyData.depth]; omega
  | n + 1, .lst l, h => by
    rw [okP] at h
    obtain ⟨ps, h1, h2, h3⟩ := okPs_toP h
    refine ⟨.list ps, by rw [toP, h1]; rfl, by rw [PyData.canLay0]; exact h2, ?_⟩
    rw [PyData.depth]; omega
  | 0, .tup l, h => by simp [okP] at h
  | 0, .lst l, h => by simp [okP] at h
  | n, .scr l, h => by simp [okP] at h
  | n, .ins c l, h => by simp [okP] at h
  | n, .dct l, h => by simp [okP] at h
  | n, .vv l, h => by simp [okP] at h
theorem okPs_toP {b : Bool} : ∀ {n : Nat} {l : List D}, okPs b n l = true → ∃ ps, toPs l = some ps ∧ PyData.canLayAll0 ps = true ∧ PyData.depthAll ps ≤ n
  | n, [], _ => ⟨[], by rw [toPs], rfl, Nat.zero_le _⟩
  | n, d :: r, h => by
    rw [okPs, Bool.and_eq_true] at h
    obtain ⟨p, h1, h2, h3⟩ := okP_toP h.1
    obtain ⟨ps, h4, h5, h6⟩ := okPs_toP h.2
    refine ⟨p :: ps, by rw [toPs, h1, h4], by rw [PyData.canLayAll0, h2, h5]; rfl, ?_⟩
    rw [PyData.depthAll]
    omega
end
mutual
theorem toP_inj : ∀ {n : Nat} {a b : D} {p q : PyData}, okP false n a = true → okP false n b = true → toP a = some p → toP b = some q → PyData.eqv p q = true → a = b
  | n, a, b, p, q, ha, hb, h1, h2, h => by
    cases a with
    | non => rw [toP] at h1; cases h1; cases b <;> first | rfl | (rw [toP] at h2; cases h2; simp_all [PyData.eqv, okP]; done) | (simp [okP] at hb; done) | (rw [toP] at h2; obtain ⟨z, _, rfl⟩ := Option.map_eq_some_iff.mp h2; simp [PyData.eqv] at h)
    | bl k => simp [okP] at ha
    | int i => rw [toP] at h1; cases h1; cases b <;> first | (rw [toP] at h2; cases h2; simp_all [PyData.eqv, okP]; done) | (simp [okP] at hb; done) | (rw [toP] at h2; obtain ⟨z, _, rfl⟩ := Option.map_eq_some_iff.mp h2; simp [PyData.eqv] at h)
    | str s => rw [toP] at h1; cases h1; cases b <;> first | (rw [toP] at h2; cases h2; simp_all [PyData.eqv, okP]; done) | (simp [okP] at hb; done) | (rw [toP] at h2; obtain ⟨z, _, rfl⟩ := Option.map_eq_some_iff.mp h2; simp [PyData.eqv] at h)
    | tup l =>
      rw [toP] at h1
      obtain ⟨ps, h3, rfl⟩ := Option.map_eq_some_iff.mp h1
      cases b with
      | tup m =>
        rw [toP] at h2
        obtain ⟨qs, h4, rfl⟩ := Option.map_eq_some_iff.mp h2
        cases n with
        | zero => simp [okP] at ha
        | succ n =>
          rw [okP] at ha hb
          rw [PyData.eqv] at h
          rw [toPs_inj ha hb h3 h4 h]
      | lst m => rw [toP] at h2; obtain ⟨z, _, rfl⟩ := Option.map_eq_some_iff.mp h2; simp [PyData.eqv] at h
      | bl k => simp [okP] at hb
      | non => rw [toP] at h2; cases h2; simp [PyData.eqv] at h
      | int k => rw [toP] at h2; cases h2; simp [PyData.eqv] at h
      | str k => rw [toP] at h2; cases h2; simp [PyData.eqv] at h
      | scr k => simp [okP] at hb
      | ins k => simp [okP] at hb
      | dct k => simp [okP] at hb
      | vv k => simp [okP] at hb
    | lst l =>
      rw [toP] at h1
      obtain ⟨ps, h3, rfl⟩ := Option.map_eq_some_iff.mp h1
      cases b with
      | lst m =>
        rw [toP] at h2
        obtain ⟨qs, h4, rfl⟩ := Option.map_eq_some_iff.mp h2
        cases n with
        | zero => simp [okP] at ha
        | succ n =>
          rw [okP] at ha hb
          rw [PyData.eqv] at h
          rw [toPs_inj ha hb h3 h4 h]
      | tup m => rw [toP] at h2; obtain ⟨z, _, rfl⟩ := Option.map_eq_some_iff.mp h2; simp [PyData.eqv] at h
      | bl k => simp [okP] at hb
      | non => rw [toP] at h2; cases h2; simp [PyData.eqv] at h
      | int k => rw [toP] at h2; cases h2; simp [PyData.eqv] at h
      | str k => rw [toP] at h2; cases h2; simp [PyData.eqv] at h
      | scr k => simp [okP] at hb
      | ins k => simp [okP] at hb
      | dct k => simp [okP] at hb
      | vv k => simp [okP] at hb
    | scr l => simp [okP] at ha
    | ins k l => simp [okP] at ha
    | dct l => simp [okP] at ha
    | vv l => simp [okP] at ha
theorem toPs_inj : ∀ {n : Nat} {a b : List D} {p q : List PyData}, okPs false n a = true → okPs false n b = true → toPs a = some p → toPs b = some q → PyData.eqvAll p q = true → a = b
  | n, [], [], _, _, _, _, _, _, _ => rfl
  | n, [], y :: ys, p, q, _, _, h1, h2, h => by
    rw [toPs.eq_def] at h1 h2
    dsimp only at h1 h2
    cases h1
    match e1 : toP y, e2 : toPs ys with
    | some c, some d => rw [e1, e2] at h2; cases h2; simp [PyData.eqvAll] at h
    | none, _ => rw [e1] at h2; cases h2
    | some _, none => rw [e1, e2] at h2; cases h2
  | n, x :: xs, [], p, q, _, _, h1, h2, h => by
    rw [toPs.eq_def] at h1 h2
    dsimp only at h1 h2
    cases h2
    match e1 : toP x, e2 : toPs xs with
    | some c, some d => rw [e1, e2] at h1; cases h1; simp [PyData.eqvAll] at h
    | none, _ => rw [e1] at h1; cases h1
    | some _, none => rw [e1, e2] at h1; cases h1
  | n, x :: xs, y :: ys, p, q, ha, hb, h1, h2, h => by
    rw [toPs] at h1 h2
    rw [okPs, Bool.and_eq_true] at ha hb
    match e1 : toP x, e2 : toPs xs, e3 : toP y, e4 : toPs ys with
    | some c, some d, some c', some d' =>
      rw [e1, e2] at h1; rw [e3, e4] at h2
      cases h1; cases h2
      rw [PyData.eqvAll, Bool.and_eq_true] at h
      rw [toP_inj ha.1 hb.1 e1 e3 h.1, toPs_inj ha.2 hb.2 e2 e4 h.2]
    | none, _, _, _ => rw [e1] at h1; cases h1
    | some _, none, _, _ => rw [e1, e2] at h1; cases h1
    | some _, some _, none, _ => rw [e3] at h2; cases h2
    | some _, some _, some _, none => rw [e3, e4] at h2; cases h2
end
noncomputable def eqD (a b : D) : Bool := @decide (a = b) (Classical.propDecidable _)
theorem eqD_iff (a b : D) : eqD a b = true ↔ a = b := by unfold eqD; exact @decide_eq_true_iff _ (Classical.propDecidable _)
@[simp] theorem eqD_self (a : D) : eqD a a = true := (eqD_iff a a).mpr rfl
theorem eqD_ne {a b : D} (h : a ≠ b) : eqD a b = false := by
  cases e : eqD a b
  · rfl
  · exact absurd ((eqD_iff a b).mp e) h
theorem eqD_dec {a b : D} {p : Prop} [Decidable p] (h : a = b ↔ p) : eqD a b = decide p := by
  rw [Bool.eq_iff_iff, eqD_iff, decide_eq_true_iff, h]
mutual
theorem okP_mono {b : Bool} : ∀ {n m : Nat} {d : D}, okP b n d = true → n ≤ m → okP b m d = true
  | n, m, .non, _, _ => by simp [okP]
  | n, m, .bl k, h, _ => by rw [okP] at h ⊢; exact h
  | n, m, .int i, _, _ => by simp [okP]
  | n, m, .str s, h, _ => by rw [okP] at h ⊢; exact h
  | n + 1, m + 1, .tup l, h, hm => by rw [okP] at h ⊢; exact okPs_mono h (by omega)
  | n + 1, m + 1, .lst l, h, hm => by rw [okP] at h ⊢; exact okPs_mono h (by omega)
  | n + 1, 0, .tup l, h, hm => by omega
  | n + 1, 0, .lst l, h, hm => by omega
  | 0, m, .tup l, h, _ => by simp [okP] at h
  | 0, m, .lst l, h, _ => by simp [okP] at h
  | n, m, .scr l, h, _ => by simp [okP] at h
  | n, m, .ins c l, h, _ => by simp [okP] at h
  | n, m, .dct l, h, _ => by simp [okP] at h
  | n, m, .vv l, h, _ => by simp [okP] at h
theorem okPs_mono {b : Bool} : ∀ {n m : Nat} {l : List D}, okPs b n l = true → n ≤ m → okPs b m l = true
  | n, m, [], _, _ => by simp [okPs]
  | n, m, d :: r, h, hm => by
    rw [okPs, Bool.and_eq_true] at h ⊢
    exact ⟨okP_mono h.1 hm, okPs_mono h.2 hm⟩
end
/-- a value as it is compared -/
def asD (x : S) (st : List O) : Option D := match x with
  | .val d => some d
  | .obj _ => match lstOf x st with
    | some l => (datas l).map .lst
    | none => none
theorem asD_toPS {x : S} {st : List O} {d : D} (h : asD x st = some d) : toPS x st = toP d := by
  unfold asD at h
  unfold toPS
  cases x with
  | val d' => cases h; rfl
  | obj k =>
    dsimp only at h ⊢
    match e : lstOf (.obj k) st with
    | none => rw [e] at h; cases h
    | some l =>
      rw [e] at h
      dsimp only at h ⊢
      obtain ⟨ds, h1, rfl⟩ := Option.map_eq_some_iff.mp h
      rw [h1, toP]; rfl
theorem gEqB_eq {x y : S} {st : List O} {a b : D} (neg : Bool) (hx : asD x st = some a) (hy : asD y st = some b) (ha : okP false 60 a = true) (hb : okP false 60 b = true) : gEqB neg x y st = some (.ok (.val (.bl (if neg = true then !eqD a b else eqD a b))), st) := by
  obtain ⟨p, h1, h2, h3⟩ := okP_toP ha
  obtain ⟨q, h4, h5, h6⟩ := okP_toP hb
  unfold gEqB
  rw [asD_toPS hx, asD_toPS hy, h1, h4]
  have s1 : SeqAt.shaped p = true := by unfold SeqAt.shaped; rw [h2]; simp; omega
  have s2 : SeqAt.shaped q = true := by unfold SeqAt.shaped; rw [h5]; simp; omega
  have e : PyData.eqv p q = eqD a b := by
    rw [Bool.eq_iff_iff, eqD_iff]
    refine ⟨fun h => toP_inj ha hb h1 h4 h, fun h => ?_⟩
    subst h
    rw [h1] at h4
    cases h4
    exact SeqAt.eqv_refl p h2
  dsimp only
  rw [if_pos ⟨s1, s2⟩, e]
/-- a value is equal to itself, bools too -/
theorem gEq_refl {x y : S} {st : List O} {a : D} (neg : Bool) (hx : asD x st = some a) (hy : asD y st = some a) (ha : okP true 60 a = true) : gEqB neg x y st = some (.ok (.val (.bl (!neg))), st) := by
  obtain ⟨p, h1, h2, h3⟩ := okP_toP ha
  unfold gEqB
  rw [asD_toPS hx, asD_toPS hy, h1]
  have s1 : SeqAt.shaped p = true := by unfold SeqAt.shaped; rw [h2]; simp; omega
  dsimp only
  rw [if_pos ⟨s1, s1⟩, SeqAt.eqv_refl p h2]
  cases neg <;> rfl
end G
/-! loops as folds -/
namespace Cl
open PySem L2
theorem for_fold {α σ : Type} {C : List O → Prop} {g : MG} {b : MS} (sl : σ → Sl) (st : σ → List O) (v : α → S) (f : σ → α → σ) (I : σ → Prop) (hC : ∀ s, I s → C (st s)) :
    ∀ (xs : List α) (s : σ), I s → (∀ a ∈ xs, ∀ s, I s → I (f s a) ∧ ∃ sl1 st1, g (v a) (sl s) (st s) = some (sl1, st1) ∧ b sl1 st1 = some (.nx, sl (f s a), st (f s a))) →
    forL C g b (xs.map v) (sl s) (st s) = some (.nx, sl (xs.foldl f s), st (xs.foldl f s)) ∧ I (xs.foldl f s)
  | [], s, hs, _ => ⟨for_nil (hC s hs), hs⟩
  | a :: xs, s, hs, h => by
    obtain ⟨h1, sl1, st1, h2, h3⟩ := h a List.mem_cons_self s hs
    have ih := for_fold sl st v f I hC xs (f s a) h1 fun a ha => h a (List.mem_cons_of_mem _ ha)
    rw [List.map_cons, for_cons (hC s hs) h2 h3]
    exact ih
/-- with a way out: a return, an error -/
def outOk : Option (Fl × Sl × List O) → Bool
  | some (.rt _, _, _) => true
  | some (.xc _, _, _) => true
  | _ => false
theorem for_out {C : List O → Prop} {g : MG} {b : MS} {d : S} {ds : List S} {sl sl1 : Sl} {st st1 : List O} {r : Option (Fl × Sl × List O)} (h : C st) (h1 : g d sl st = some (sl1, st1)) (h2 : b sl1 st1 = r) (ho : outOk r = true) : forL C g b (d :: ds) sl st = r := by
  rw [forL, if_pos h, h1]
  simp only [h2]
  match r, ho with
  | some (.rt _, _, _), _ => rfl
  | some (.xc _, _, _), _ => rfl
theorem for_exit {α σ ρ : Type} {C : List O → Prop} {g : MG} {b : MS} (sl : σ → Sl) (st : σ → List O) (v : α → S) (f : σ → α → Except ρ σ) (out : ρ → Option (Fl × Sl × List O)) (I : σ → Prop) (hC : ∀ s, I s → C (st s)) :
    ∀ (xs : List α) (s : σ), I s → (∀ a ∈ xs, ∀ s, I s → ∃ sl1 st1, g (v a) (sl s) (st s) = some (sl1, st1) ∧ (match f s a with
      | .ok s' => I s' ∧ b sl1 st1 = some (.nx, sl s', st s')
      | .error e => b sl1 st1 = out e ∧ outOk (out e) = true)) →
    match xs.foldlM f s with
      | .ok s' => forL C g b (xs.map v) (sl s) (st s) = some (.nx, sl s', st s') ∧ I s'
      | .error e => forL C g b (xs.map v) (sl s) (st s) = out e
  | [], s, hs, _ => ⟨for_nil (hC s hs), hs⟩
  | a :: xs, s, hs, h => by
    obtain ⟨sl1, st1, h2, h3⟩ := h a List.mem_cons_self s hs
    rw [List.foldlM_cons, List.map_cons]
    cases e : f s a with
    | ok s' =>
      rw [e] at h3
      have ih := for_exit sl st v f out I hC xs s' h3.1 fun a ha => h a (List.mem_cons_of_mem _ ha)
      rw [for_cons (hC s hs) h2 h3.2]
      exact ih
    | error e' =>
      rw [e] at h3
      exact for_out (hC s hs) h2 h3.1 h3.2
/-- a for loop by a relation -/
theorem for_rel {α β : Type} {C : List O → Prop} {g : MG} {b : MS} (v : α → S) (f : β → α → β) (R : β → Sl → List O → Prop) (hC : ∀ x sl st, R x sl st → C st) :
    ∀ (xs : List α) (x : β) (sl : Sl) (st : List O), R x sl st → (∀ a ∈ xs, ∀ x sl st, R x sl st → ∃ sl1 st1 sl2 st2, g (v a) sl st = some (sl1, st1) ∧ b sl1 st1 = some (.nx, sl2, st2) ∧ R (f x a) sl2 st2) →
    ∃ sl' st', forL C g b (xs.map v) sl st = some (.nx, sl', st') ∧ R (xs.foldl f x) sl' st'
  | [], x, sl, st, h, _ => ⟨sl, st, for_nil (hC x sl st h), h⟩
  | a :: xs, x, sl, st, h, hs => by
    obtain ⟨sl1, st1, sl2, st2, h1, h2, h3⟩ := hs a List.mem_cons_self x sl st h
    obtain ⟨sl', st', h4, h5⟩ := for_rel v f R hC xs (f x a) sl2 st2 h3 fun a ha => hs a (List.mem_cons_of_mem _ ha)
    exact ⟨sl', st', by rw [List.map_cons, for_cons (hC x sl st h) h1 h2]; exact h4, h5⟩
/-- .. where the next state is only known to be one of many -/
theorem for_ex {α : Type} {C : List O → Prop} {g : MG} {b : MS} (v : α → S) (R : List α → Sl → List O → Prop) (hC : ∀ x sl st, R x sl st → C st) :
    ∀ (xs : List α) (sl : Sl) (st : List O), R xs sl st → (∀ a xs, ∀ sl st, R (a :: xs) sl st → ∃ sl1 st1 sl2 st2, g (v a) sl st = some (sl1, st1) ∧ b sl1 st1 = some (.nx, sl2, st2) ∧ R xs sl2 st2) →
    ∃ sl' st', forL C g b (xs.map v) sl st = some (.nx, sl', st') ∧ R [] sl' st'
  | [], sl, st, h, _ => ⟨sl, st, for_nil (hC [] sl st h), h⟩
  | a :: xs, sl, st, h, hs => by
    obtain ⟨sl1, st1, sl2, st2, h1, h2, h3⟩ := hs a xs sl st h
    obtain ⟨sl', st', h4, h5⟩ := for_ex v R hC xs sl2 st2 h3 hs
    exact ⟨sl', st', by rw [List.map_cons, for_cons (hC (a :: xs) sl st h) h1 h2]; exact h4, h5⟩
/-- a comprehension that changes the store -/
def lcRun {α σ : Type} (f : σ → α → σ × Option D) : List α → σ → List D × σ
  | [], s => ([], s)
  | a :: xs, s => match f s a with
    | (s', none) => lcRun f xs s'
    | (s', some d) => (d :: (lcRun f xs s').1, (lcRun f xs s').2)
theorem lc_fold {α σ : Type} {C : List O → Prop} {g : MG} {t : MT} {e : ME} {sl : Sl} (st : σ → List O) (v : α → S) (f : σ → α → σ × Option D) (I : σ → Prop) (hC : ∀ s, I s → C (st s)) :
    ∀ (xs : List α) (s : σ) (acc : List D), I s → acc.length + xs.length ≤ sizeLine → (∀ a ∈ xs, ∀ s, I s → I (f s a).1 ∧ ∃ sl1 st1, g (v a) sl (st s) = some (sl1, st1) ∧ (match f s a with
      | (s', none) => t sl1 st1 = some (.ok false, st s')
      | (s', some d) => ∃ st2, t sl1 st1 = some (.ok true, st2) ∧ e sl1 st2 = some (.ok (.val d), st s'))) →
    lcL C g t e sl (xs.map v) acc (st s) = some (acc ++ (lcRun f xs s).1, st (lcRun f xs s).2) ∧ I (lcRun f xs s).2
  | [], s, acc, hs, _, _ => by
    rw [List.map_nil, lcL, if_pos (hC s hs)]
    exact ⟨by simp [lcRun], hs⟩
  | a :: xs, s, acc, hs, hl, h => by
    obtain ⟨h1, sl1, st1, h2, h3⟩ := h a List.mem_cons_self s hs
    rw [List.map_cons, lcL, if_pos (hC s hs), h2]
    simp only [List.length_cons] at hl
    match q : f s a, h1, h3 with
    | (s', none), h1, h3 =>
      simp only [h3]
      have ih := lc_fold (t := t) (e := e) st v f I hC xs s' acc h1 (by omega) fun a ha => h a (List.mem_cons_of_mem _ ha)
      rw [lcRun, q]
      exact ih
    | (s', some d), h1, h3 =>
      obtain ⟨st2, h3, h4⟩ := h3
      have ih := lc_fold (t := t) (e := e) st v f I hC xs s' (acc ++ [d]) h1 (by simp; omega) fun a ha => h a (List.mem_cons_of_mem _ ha)
      have hz : acc.length < sizeLine := by omega
      simp only [h3, M.bind, h4, toD, M.pure]
      rw [lcRun, q, if_pos hz, ih.1]
      exact ⟨by simp, ih.2⟩
theorem while_out {c : MT} {b : MS} {sl : Sl} {st st1 : List O} {r : Option (Fl × Sl × List O)} (h1 : c sl st = some (.ok true, st1)) (h2 : b sl st1 = r) (ho : outOk r = true) : sWhile c b sl st = r := by
  rw [while_eq, h1]
  simp only [h2]
  match r, ho with
  | some (.rt _, _, _), _ => rfl
  | some (.xc _, _, _), _ => rfl
/-- comprehensions over data -/
theorem lcL_map {α : Type} {C : List O → Prop} {g : MG} {t : MT} {e : ME} {sl : Sl} {st : List O} (v : α → S) (p : α → Bool) (f : α → D) (hC : C st) : ∀ (xs : List α) (acc : List D), acc.length + xs.length ≤ sizeLine →
    (∀ a ∈ xs, ∃ sl1, g (v a) sl st = some (sl1, st) ∧ t sl1 st = some (.ok (p a), st) ∧ (p a = true → e sl1 st = some (.ok (.val (f a)), st))) → lcL C g t e sl (xs.map v) acc st = some (acc ++ (xs.filter p).map f, st)
  | [], acc, _, _ => by rw [List.map_nil, lcL, if_pos hC]; simp
  | a :: xs, acc, hl, h => by
    simp only [List.length_cons] at hl
    obtain ⟨sl1, h1, h2, h3⟩ := h a List.mem_cons_self
    rw [List.map_cons, lcL, if_pos hC, h1]
    simp only
    rw [h2]
    cases hp : p a with
    | false =>
      simp only
      rw [lcL_map v p f hC xs acc (by omega) fun a ha => h a (List.mem_cons_of_mem _ ha)]
      simp [hp]
    | true =>
      simp only
      simp only [M.bind, h3 hp, toD, M.pure]
      rw [if_pos (by omega), lcL_map v p f hC xs (acc ++ [f a]) (by simp; omega) fun a ha => h a (List.mem_cons_of_mem _ ha)]
      simp [hp]
theorem eLc_map {α : Type} {vs : List Nat} {fi : MI} {g : MG} {t : MT} {e : ME} {sl : Sl} {st : List O} {C : List O → Prop} (v : α → S) (p : α → Bool) (f : α → D) (xs : List α) (hfi : fi sl st = some (.ok (xs.map v, C), st)) (hC : C st) (hz : xs.length ≤ sizeLine)
    (h : ∀ a ∈ xs, ∃ sl1, g (v a) (wipeS sl vs) st = some (sl1, st) ∧ t sl1 st = some (.ok (p a), st) ∧ (p a = true → e sl1 st = some (.ok (.val (f a)), st))) : eLc vs fi g t e sl st = some (.ok (.val (.lst ((xs.filter p).map f))), st) := by
  unfold eLc
  simp only [M.bind, hfi]
  rw [lcL_map v p f hC xs [] (by simpa using hz) h]
  simp
theorem eLc_all {α : Type} {vs : List Nat} {fi : MI} {g : MG} {e : ME} {sl : Sl} {st : List O} {C : List O → Prop} (v : α → S) (f : α → D) (xs : List α) (hfi : fi sl st = some (.ok (xs.map v, C), st)) (hC : C st) (hz : xs.length ≤ sizeLine)
    (h : ∀ a ∈ xs, ∃ sl1, g (v a) (wipeS sl vs) st = some (sl1, st) ∧ e sl1 st = some (.ok (.val (f a)), st)) : eLc vs fi g tTrue e sl st = some (.ok (.val (.lst (xs.map f))), st) := by
  rw [eLc_map v (fun _ => true) f xs hfi hC hz fun a ha => by
    obtain ⟨sl1, h1, h2⟩ := h a ha
    exact ⟨sl1, h1, rfl, fun _ => h2⟩]
  rw [List.filter_eq_self.mpr (by simp)]
/-- a while with a measure: what holds behind it -/
theorem while_run {σ : Type} {c : MT} {b : MS} (sl : σ → Sl) (st : σ → List O) (I : σ → Prop) (go : σ → Bool) (m : σ → Nat) (f : σ → σ)
    (h : ∀ s, I s → c (sl s) (st s) = some (.ok (go s), st s) ∧ (go s = true → b (sl s) (st s) = some (.nx, sl (f s), st (f s)) ∧ I (f s) ∧ m (f s) < m s)) :
    ∀ (n : Nat) (s : σ), m s ≤ n → I s → ∃ s', I s' ∧ go s' = false ∧ sWhile c b (sl s) (st s) = some (.nx, sl s', st s')
  | n, s, hn, hs => by
    obtain ⟨h1, h2⟩ := h s hs
    cases hg : go s with
    | false => rw [hg] at h1; exact ⟨s, hs, hg, while_stop h1⟩
    | true =>
      obtain ⟨h3, h4, h5⟩ := h2 hg
      rw [hg] at h1
      match n with
      | 0 => omega
      | n + 1 =>
        obtain ⟨s', i', g', e'⟩ := while_run sl st I go m f h n (f s) (by omega) h4
        exact ⟨s', i', g', by rw [while_go h1 h3]; exact e'⟩
end Cl
namespace G
open PySem L2 Cl
noncomputable def t1__law_random : MT := (tBin gGe (eVar 3) (eBin gPow (eC (.int 10)) (eC (.int 18))))
noncomputable def e1__law_random : ME := (eVar 3)
noncomputable def l1__law_random : MS := (sSet 2 (eBin gMod (eBin gAdd (eBin gMulI (eVar 2) (eC (.int 31))) (eArgs (g1 gAbs) (aCons (eVar 3) aNil))) (eC (.int 2147483647))))
noncomputable def b__law_random : MS := (sSeq (sSet 2 (eVar 1))
    (sSeq (sFor (iOf (eVar 0)) (tgName 3) l1__law_random)
    (sRet (eBin gCatO (eArgs gLst (aCons (eVar 2) (aCons (eC (.int 0)) aNil))) (eLc [3] (iOf (eVar 0)) (tgName 3) t1__law_random e1__law_random)))))
noncomputable def F__law_random : PF := asN 4 b__law_random
noncomputable def b__law_below : MS := (sSeq (sIf (tAndM (tBin gEq (eBin gIx (eVar 0) (eC (.int 1))) (eC (.int 0))) (tBin gGt (eArgs (g1 gLen) (aCons (eVar 0) aNil)) (eC (.int 2)))) (sSetItem (eVar 0) (eC (.int 1)) (eBM "list" gPopAt (eVar 0) (aCons (eC (.int 2)) aNil))) sNext)
    (sSeq (sIf (tBin gGt (eBin gIx (eVar 0) (eC (.int 1))) (eC (.int 0))) (sSeq (sSet 2 (eBin gMod (eBin gIx (eVar 0) (eC (.int 1))) (eVar 1)))
    (sSeq (sSetItem (eVar 0) (eC (.int 1)) (eBin gDiv (eBin gIx (eVar 0) (eC (.int 1))) (eVar 1)))
    (sRet (eVar 2)))) sNext)
    (sSeq (sSetItem (eVar 0) (eC (.int 0)) (eBin gMod (eBin gAdd (eBin gMulI (eBin gIx (eVar 0) (eC (.int 0))) (eC (.int 48271))) (eC (.int 11))) (eC (.int 2147483647))))
    (sRet (eBin gMod (eBin gDiv (eBin gIx (eVar 0) (eC (.int 0))) (eC (.int 64))) (eVar 1))))))
noncomputable def F__law_below : OF := asK 3 b__law_below
noncomputable def c1__law_shuffled : MT := (tBin gNe (eVar 2) (eArgs gLst aNil))
noncomputable def l1__law_shuffled : MS := (sExpr (eBM "list" gAppend (eVar 3) (aCons (eBM "list" gPopAt (eVar 2) (aCons (eArgs (gCallO 2 F__law_below []) (aCons (eVar 0) (aCons (eArgs (g1 gLen) (aCons (eVar 2) aNil)) aNil))) aNil)) aNil)))
noncomputable def b__law_shuffled : MS := (sSeq (sSet 2 (eArgs (g1 gListO) (aCons (eVar 1) aNil)))
    (sSeq (sSet 3 (eArgs gLstO aNil))
    (sSeq (sWhile c1__law_shuffled l1__law_shuffled)
    (sRet (eFrz (eVar 3))))))
noncomputable def F__law_shuffled : OF := asC 4 b__law_shuffled
noncomputable def e1__law_wide : ME := (eBin gIx (eVar 5) (eBin gIx (eVar 12) (eC (.int 2))))
noncomputable def e2__law_wide : ME := (eArgs gTup (aCons (eBin gIx (eBin gIx (eVar 5) (eVar 6)) (eC (.int 0))) (aCons (eBin gIx (eBin gIx (eVar 5) (eVar 6)) (eC (.int 1))) (aCons (eVar 6) aNil))))
noncomputable def t1__law_wide : MT := (tBin gLt (eArgs (gCallO 2 F__law_below []) (aCons (eVar 0) (aCons (eC (.int 4)) aNil))) (eVar 9))
noncomputable def e3__law_wide : ME := (eVar 6)
noncomputable def l1__law_wide : MS := (sSeq (sSet 7 (eBin gAdd (eC (.int 1)) (eArgs (gCallO 2 F__law_below []) (aCons (eVar 0) (aCons (eBin gIx (eArgs gLst (aCons (eC (.int 4)) (aCons (eC (.int 10)) (aCons (eC (.int 30)) aNil)))) (eArgs (gCallO 2 F__law_below []) (aCons (eVar 0) (aCons (eC (.int 3)) aNil)))) aNil)))))
    (sExpr (eBM "list" gAppend (eVar 5) (aCons (eArgs gTup (aCons (eArgs (gCallO 2 F__law_below []) (aCons (eVar 0) (aCons (eVar 4) aNil))) (aCons (eArgs (gCallO 2 F__law_below []) (aCons (eVar 0) (aCons (eVar 2) aNil))) (aCons (eVar 7) aNil)))) aNil))))
noncomputable def b__law_wide : MS := (sSeq (sSet 2 (eBin gAdd (eC (.int 1)) (eArgs (gCallO 2 F__law_below []) (aCons (eVar 0) (aCons (eVar 1) aNil)))))
    (sSeq (sSet 3 (eArgs (g1 gTuple) (aCons (eSl gSl (eArgs (gCallO 2 F__law_shuffled []) (aCons (eVar 0) (aCons (eArgs gLst (aCons (eC (.str "a")) (aCons (eC (.str "b")) (aCons (eC (.str "cc")) (aCons (eC (.str "longname")) (aCons (eC (.str "x")) (aCons (eC (.str "zed")) (aCons (eC (.str "q")) (aCons (eC (.str "w")) aNil))))))))) aNil))) none (some (eVar 2))) aNil)))
    (sSeq (sSet 4 (eBin gAdd (eC (.int 1)) (eArgs (gCallO 2 F__law_below []) (aCons (eVar 0) (aCons (eBin gIx (eArgs gLst (aCons (eC (.int 10)) (aCons (eC (.int 24)) (aCons (eC (.int 60)) aNil)))) (eArgs (gCallO 2 F__law_below []) (aCons (eVar 0) (aCons (eC (.int 3)) aNil)))) aNil)))))
    (sSeq (sSet 5 (eArgs gLstO aNil))
    (sSeq (sFor (iArgs gRange1 (aCons (eArgs (gCallO 2 F__law_below []) (aCons (eVar 0) (aCons (eBin gIx (eArgs gLst (aCons (eC (.int 4)) (aCons (eC (.int 8)) (aCons (eC (.int 13)) aNil)))) (eArgs (gCallO 2 F__law_below []) (aCons (eVar 0) (aCons (eC (.int 3)) aNil)))) aNil))) aNil)) (tgName 6) l1__law_wide)
    (sSeq (sSet 8 (eArgs gLst aNil))
    (sSeq (sIf (tBin gEq (eArgs (gCallO 2 F__law_below []) (aCons (eVar 0) (aCons (eC (.int 2)) aNil))) (eC (.int 0))) (sSeq (sSet 9 (eBin gAdd (eC (.int 1)) (eArgs (gCallO 2 F__law_below []) (aCons (eVar 0) (aCons (eC (.int 3)) aNil)))))
    (sSet 8 (eLc [6] (iArgs gRange1 (aCons (eVar 4) aNil)) (tgName 6) t1__law_wide e3__law_wide))) sNext)
    (sSeq (sSet 10 (eIf (tBin gEq (eArgs (gCallO 2 F__law_below []) (aCons (eVar 0) (aCons (eC (.int 2)) aNil))) (eC (.int 0))) (eLRg1 (eVar 2)) (eArgs (gCallO 2 F__law_shuffled []) (aCons (eVar 0) (aCons (eLRg1 (eVar 2)) aNil)))))
    (sSeq (sSet 11 (eArgs (g1 gSorted) (aCons (eLc [6] (iArgs gRange1 (aCons (eArgs (g1 gLen) (aCons (eVar 5) aNil)) aNil)) (tgName 6) tTrue e2__law_wide) aNil)))
    (sSeq (sSet 1 (eBin gAdd (eC (.int 1)) (eArgs (gCallO 2 F__law_below []) (aCons (eVar 0) (aCons (eBin gIx (eArgs gLst (aCons (eC (.int 2)) (aCons (eC (.int 9)) aNil))) (eArgs (gCallO 2 F__law_below []) (aCons (eVar 0) (aCons (eC (.int 2)) aNil)))) aNil)))))
    (sRet (eArgs gTup (aCons (eVar 4) (aCons (eVar 1) (aCons (eVar 3) (aCons (eVar 10) (aCons (eLc [12] (iOf (eVar 11)) (tgName 12) tTrue e1__law_wide) (aCons (eVar 8) aNil))))))))))))))))))
noncomputable def F__law_wide : OF := asC 13 b__law_wide
noncomputable def l1__law_runs : MS := (sIf (tAndM (tBin gNe (eVar 1) (eArgs gLst aNil)) (tBin gEq (eBin gIx (eBin gIx (eVar 1) (eNeg (eC (.int 1)))) (eC (.int 1))) (eBin gSub (eVar 2) (eC (.int 1))))) (sSet 1 (eBin gCatO (eSl gSl (eVar 1) none (some (eNeg (eC (.int 1))))) (eArgs gLst (aCons (eArgs gTup (aCons (eBin gIx (eBin gIx (eVar 1) (eNeg (eC (.int 1)))) (eC (.int 0))) (aCons (eVar 2) aNil))) aNil)))) (sExpr (eBM "list" gAppend (eVar 1) (aCons (eArgs gTup (aCons (eVar 2) (aCons (eVar 2) aNil))) aNil))))
noncomputable def b__law_runs : MS := (sSeq (sSet 1 (eArgs gLstO aNil))
    (sSeq (sFor (iOf (eVar 0)) (tgName 2) l1__law_runs)
    (sRet (eVar 1))))
noncomputable def F__law_runs : PF := asP 3 b__law_runs
noncomputable def e1__law_text : ME := (eBin gAdd (eBM "str" gJoin (eC (.str " ")) (aCons (eVar 14) aNil)) (eC (.str ";")))
noncomputable def e2__law_text : ME := (eArgs gLst (aCons (eC (.str "pause")) (aCons (eArgs (g1 gStr) (aCons (eVar 12) aNil)) (aCons (eArgs (g1 gStr) (aCons (eVar 13) aNil)) aNil))))
noncomputable def e3__law_text : ME := (eArgs gLst (aCons (eC (.str "start")) (aCons (eBin gIx (eVar 3) (eVar 10)) (aCons (eArgs (g1 gStr) (aCons (eVar 9) aNil)) (aCons (eC (.str "for")) (aCons (eArgs (g1 gStr) (aCons (eVar 11) aNil)) aNil))))))
noncomputable def e4__law_text : ME := (eBin gIx (eVar 3) (eVar 8))
noncomputable def b__law_text : MS := (sSeq (sAsg (eVar 0) (tgTup 6 (tgCons (tgName 1) (tgCons (tgName 2) (tgCons (tgName 3) (tgCons (tgName 4) (tgCons (tgName 5) (tgCons (tgName 6) tgNil))))))))
    (sSeq (sSet 7 (eArgs gLstO (aCons (eArgs gLst (aCons (eC (.str "round")) (aCons (eArgs (g1 gStr) (aCons (eVar 1) aNil)) aNil))) (aCons (eArgs gLst (aCons (eC (.str "open")) (aCons (eArgs (g1 gStr) (aCons (eVar 2) aNil)) aNil))) (aCons (eBin gAdd (eArgs gLst (aCons (eC (.str "valves")) aNil)) (eArgs (g1 gList) (aCons (eVar 3) aNil))) aNil)))))
    (sSeq (sIf (tBin gNe (eVar 4) (eLRg1 (eArgs (g1 gLen) (aCons (eVar 3) aNil)))) (sExpr (eBM "list" gAppend (eVar 7) (aCons (eBin gAdd (eArgs gLst (aCons (eC (.str "rank")) aNil)) (eLc [8] (iOf (eVar 4)) (tgName 8) tTrue e4__law_text)) aNil))) sNext)
    (sSeq (sSet 7 (eBin gCatO (eVar 7) (eLc [9, 10, 11] (iOf (eVar 5)) (tgTup 3 (tgCons (tgName 9) (tgCons (tgName 10) (tgCons (tgName 11) tgNil)))) tTrue e3__law_text)))
    (sSeq (sSet 7 (eBin gCatO (eVar 7) (eLc [12, 13] (iOf (eArgs (gCallP 1 F__law_runs []) (aCons (eVar 6) aNil))) (tgTup 2 (tgCons (tgName 12) (tgCons (tgName 13) tgNil))) tTrue e2__law_text)))
    (sRet (eBM "str" gJoin (eC (.str "\n")) (aCons (eLc [14] (iOf (eVar 7)) (tgName 14) tTrue e1__law_text) aNil))))))))
noncomputable def F__law_text : PF := asP 15 b__law_text
noncomputable def e1__law_word_bytes : ME := (eBM "str" gSIndex (eC (.str "abcdefghijklmnopqrstuvwxyz")) (aCons (eVar 1) aNil))
noncomputable def b__law_word_bytes : MS := (sRet (eBin gAdd (eArgs gLst (aCons (eArgs (g1 gLen) (aCons (eVar 0) aNil)) aNil)) (eLc [1] (iOf (eVar 0)) (tgName 1) tTrue e1__law_word_bytes)))
noncomputable def F__law_word_bytes : PF := asP 2 b__law_word_bytes
noncomputable def l1__law_bytes : MS := (sSet 7 (eBin gCatO (eVar 7) (eArgs (g1 gList) (aCons (eVar 11) aNil))))
noncomputable def l2__law_bytes : MS := (sSet 7 (eBin gCatO (eVar 7) (eArgs (g1 gList) (aCons (eVar 9) aNil))))
noncomputable def l3__law_bytes : MS := (sSet 7 (eBin gCatO (eVar 7) (eArgs (gCallP 1 F__law_word_bytes []) (aCons (eVar 8) aNil))))
noncomputable def b__law_bytes : MS := (sSeq (sAsg (eVar 0) (tgTup 6 (tgCons (tgName 1) (tgCons (tgName 2) (tgCons (tgName 3) (tgCons (tgName 4) (tgCons (tgName 5) (tgCons (tgName 6) tgNil))))))))
    (sSeq (sSet 7 (eArgs gLstO (aCons (eC (.int 87)) (aCons (eVar 1) (aCons (eVar 2) (aCons (eArgs (g1 gLen) (aCons (eVar 3) aNil)) aNil))))))
    (sSeq (sFor (iOf (eVar 3)) (tgName 8) l3__law_bytes)
    (sSeq (sSet 7 (eBin gCatO (eBin gAdd (eVar 7) (eVar 4)) (eArgs gLst (aCons (eArgs (g1 gLen) (aCons (eVar 5) aNil)) aNil))))
    (sSeq (sFor (iOf (eVar 5)) (tgName 9) l2__law_bytes)
    (sSeq (sSet 10 (eArgs (gCallP 1 F__law_runs []) (aCons (eVar 6) aNil)))
    (sSeq (sExpr (eBM "list" gAppend (eVar 7) (aCons (eArgs (g1 gLen) (aCons (eVar 10) aNil)) aNil)))
    (sSeq (sFor (iOf (eVar 10)) (tgName 11) l1__law_bytes)
    (sRet (eVar 7))))))))))
noncomputable def F__law_bytes : PF := asN 12 b__law_bytes
noncomputable def e1__law_equal (F__law_equal : OF) : ME := (eArgs (gCallO 2 F__law_equal []) (aCons (eBin gIx (eVar 0) (eVar 2)) (aCons (eBin gIx (eVar 1) (eVar 2)) aNil)))
noncomputable def b__law_equal (F__law_equal : OF) : MS := (sSeq (sIf (tBin (gIsN false) (eVar 1) (eC .non)) (sRet (eBin (gIsN false) (eVar 0) (eC .non))) sNext)
    (sSeq (sIf (tOfE (eArgs gIsi (aCons (eVar 1) (aCons (eC (.vv (.ty "bool"))) aNil)))) (sRet (eAnd (eArgs gIsi (aCons (eVar 0) (aCons (eC (.vv (.ty "bool"))) aNil))) (eBin gEq (eVar 0) (eVar 1)))) sNext)
    (sSeq (sIf (tOfE (eArgs gIsi (aCons (eVar 1) (aCons (eC (.vv (.ty "int"))) aNil)))) (sRet (eAnd (eArgs gIsi (aCons (eVar 0) (aCons (eC (.vv (.ty "int"))) aNil))) (eAnd (eNot (eArgs gIsi (aCons (eVar 0) (aCons (eC (.vv (.ty "bool"))) aNil)))) (eBin gEq (eVar 0) (eVar 1))))) sNext)
    (sSeq (sIf (tOfE (eArgs gIsi (aCons (eVar 1) (aCons (eC (.vv (.ty "str"))) aNil)))) (sRet (eAnd (eArgs gIsi (aCons (eVar 0) (aCons (eC (.vv (.ty "str"))) aNil))) (eBin gEq (eVar 0) (eVar 1)))) sNext)
    (sSeq (sIf (tBin gNe (eArgs gIsi (aCons (eVar 1) (aCons (eC (.vv (.ty "tuple"))) aNil))) (eArgs gIsi (aCons (eVar 0) (aCons (eC (.vv (.ty "tuple"))) aNil)))) (sRet (eC (.bl false))) sNext)
    (sSeq (sIf (tBin gNe (eArgs gIsi (aCons (eVar 1) (aCons (eC (.vv (.ty "list"))) aNil))) (eArgs gIsi (aCons (eVar 0) (aCons (eC (.vv (.ty "list"))) aNil)))) (sRet (eC (.bl false))) sNext)
    (sSeq (sIf (tBin gNe (eArgs (g1 gLen) (aCons (eVar 0) aNil)) (eArgs (g1 gLen) (aCons (eVar 1) aNil))) (sRet (eC (.bl false))) sNext)
    (sRet (eArgs (g1 (gAnyAll fun l => l.all id)) (aCons (eLc [2] (iArgs gRange1 (aCons (eArgs (g1 gLen) (aCons (eVar 1) aNil)) aNil)) (tgName 2) tTrue (e1__law_equal F__law_equal)) aNil))))))))))
noncomputable def F__law_equal : Nat → OF
  | 0 => fun _ _ => none
  | n + 1 => asC 3 (b__law_equal (F__law_equal n))
noncomputable def l1_law : MS := (sSeq (sSet 7 (eArgs (gCallN 1 F_encode []) (aCons (eVar 4) aNil)))
    (sSeq (sIf (tOrM (tNotM (tOfE (eArgs (gCallO 2 (F__law_equal 6) []) (aCons (eVar 7) (aCons (eVar 5) aNil))))) (tOrM (tNotM (tOfE (eArgs (gCallO 2 (F__law_equal 6) []) (aCons (eArgs (gCallO 1 F_decode []) (aCons (eVar 7) aNil)) (aCons (eVar 4) aNil))))) (tBin gNe (eVar 7) (eVar 5)))) (sRet (eC (.bl false))) sNext)
    (sExpr (eBM "list" gAppend (eVar 7) (aCons (eC (.int 0)) aNil)))))
noncomputable def l2_law : MS := (sSeq (sSet 3 (eArgs (gCallO 2 F__law_wide []) (aCons (eVar 1) (aCons (eC (.int 8)) aNil))))
    (sSeq (sPar 4 5 (aCons (eArgs (gCallP 1 F__law_text []) (aCons (eVar 3) aNil)) (aCons (eArgs (gCallN 1 F__law_bytes []) (aCons (eVar 3) aNil)) aNil)))
    (sSeq (sExpr (eBM "list" gAppend (eVar 5) (aCons (eBin gMod (eArgs (g1 gSum) (aCons (eVar 5) aNil)) (eC (.int 256))) aNil)))
    (sFor (iArgs gRange1 (aCons (eC (.int 2)) aNil)) (tgName 6) l1_law))))
noncomputable def b_law : MS := (sSeq (sSet 1 (eArgs (gCallN 2 F__law_random []) (aCons (eVar 0) (aCons (eC (.int 15)) aNil))))
    (sSeq (sFor (iArgs gRange1 (aCons (eC (.int 4)) aNil)) (tgName 2) l2_law)
    (sRet (eC (.bl true)))))
noncomputable def F_law : PF := asP 8 b_law
end G
namespace G
open PySem L2 Cl
/-! ### the law's source of numbers -/

def dO (d : List Int) : O := .lst (d.map iV)
def GoodD (d : List Int) : Prop := ∃ s c r, d = s :: c :: r ∧ 0 ≤ s ∧ s < 2147483647 ∧ 0 ≤ c ∧ ∀ x ∈ r, (0 : Int) < x
def nextD (d : List Int) (n : Int) : Int × List Int := match d with
  | s :: c :: r => if 0 < c then (c % n, s :: (c / n) :: r) else (match r with
    | [] => (((s * 48271 + 11) % 2147483647) / 64 % n, [(s * 48271 + 11) % 2147483647, c])
    | x :: r => (x % n, s :: (x / n) :: r))
  | d => (0, d)
theorem atI0 {α : Type} (a : α) (l : List α) : atI (a :: l) 0 = some a := Cl.atI_nat (i := 0) rfl
theorem atI1 {α : Type} (a b : α) (l : List α) : atI (a :: b :: l) 1 = some b := Cl.atI_nat (i := 1) rfl
theorem ix0 (n : Nat) : ixN (n + 1) 0 = some 0 := by unfold ixN; simp
theorem ix1 (n : Nat) : ixN (n + 1 + 1) 1 = some 1 := by unfold ixN; simp; omega
theorem below_run {d : List Int} (hd : GoodD d) {n : Int} (hn : 0 < n) (hn2 : n < 1073741824) {k : Nat} {st : List O} (hk : st[k]? = some (dO d)) :
    F__law_below [.obj k, .val (.int n)] st = some (.ok (.val (.int (nextD d n).1)), st.set k (dO (nextD d n).2)) := by
  obtain ⟨s, c, r, rfl, s0, s1, c0, r0⟩ := hd
  have hkl : k < st.length := (List.getElem?_eq_some_iff.mp hk).1
  simp only [dO, List.map_cons] at hk
  have gs : ∀ o : O, (st.set k o)[k]? = some o := fun o => List.getElem?_set_self hkl
  by_cases hc : 0 < c
  · have hc0 : ¬ c = 0 := by omega
    simp [F__law_below, b__law_below, hk, gs, gIx, atI1, gEq_int, hc0, hc, hn, hn2, gSetL, ix1, nextD, dO]
  · have hc0 : c = 0 := by omega
    subst hc0
    cases r with
    | nil => simp [F__law_below, b__law_below, hk, gs, gIx, atI0, atI1, gEq_int, gLen, hn, hn2, gSetL, ix0, nextD, s0, s1, dO]
    | cons x r =>
      have hx : 0 < x := r0 x List.mem_cons_self
      have hx0 : ¬ x = 0 := by omega
      have h2 : (2 : Int) < r.length + 1 + 1 + 1 := by omega
      have ei : seqIndex? 2 (r.length + 1 + 1 + 1) = some 2 := by unfold seqIndex?; simp; omega
      simp [F__law_below, b__law_below, hk, gs, gIx, atI0, atI1, gEq_int, gLen, gPopAt, ei, h2, hx, hn, hn2, gSetL, ix1, nextD, dO]
theorem next_good {d : List Int} (hd : GoodD d) {n : Int} (hn : 0 < n) : GoodD (nextD d n).2 ∧ 0 ≤ (nextD d n).1 ∧ (nextD d n).1 < n := by
  obtain ⟨s, c, r, rfl, s0, s1, c0, r0⟩ := hd
  have hm : ∀ x : Int, 0 ≤ x % n ∧ x % n < n := fun x => ⟨Int.emod_nonneg x (by omega), Int.emod_lt_of_pos x hn⟩
  have hq : ∀ x : Int, 0 ≤ x → 0 ≤ x / n := fun x hx => Int.ediv_nonneg hx (by omega)
  unfold nextD
  by_cases hc : 0 < c
  · simp only [hc, if_true]
    exact ⟨⟨s, c / n, r, rfl, s0, s1, hq c c0, r0⟩, hm c⟩
  · simp only [hc, if_false]
    cases r with
    | nil => exact ⟨⟨_, c, [], rfl, by omega, by omega, c0, by simp⟩, hm _⟩
    | cons x r => exact ⟨⟨s, x / n, r, rfl, s0, s1, hq x (Int.le_of_lt (r0 x List.mem_cons_self)), fun y hy => r0 y (List.mem_cons_of_mem _ hy)⟩, hm x⟩
/-- the way it is used: some number below n -/
theorem below_eq {d : List Int} (hd : GoodD d) {n : Nat} (hn : 0 < n) (hn2 : n < 1073741824) {k : Nat} {st : List O} (hk : st[k]? = some (dO d)) :
    ∃ (r : Nat) (d' : List Int), r < n ∧ GoodD d' ∧ F__law_below [.obj k, .val (.int n)] st = some (.ok (.val (.int r)), st.set k (dO d')) := by
  have h := next_good hd (n := n) (by omega)
  refine ⟨(nextD d n).1.toNat, (nextD d n).2, by omega, h.1, ?_⟩
  rw [below_run hd (by omega) (by omega) hk, Int.toNat_of_nonneg h.2.1]
end G
namespace G
open PySem L2 Cl
def lexR (l : Nat) (m : List Nat) (c : Nat) : List Tk × Option Nat := match m with
  | [] => ([], none)
  | a :: r => if a = 32 ∨ a = 10 then lexR l r (c + 1) else match readT (a :: r) l c with
    | none => ([], some c)
    | some t => (t :: (lexR l (r.drop (t.t.length - 1)) (c + t.t.length)).1, (lexR l (r.drop (t.t.length - 1)) (c + t.t.length)).2)
termination_by m.length
decreasing_by all_goals (simp only [List.length_drop, List.length_cons]; omega)
theorem readT_len {a : Nat} {r : List Nat} {l c : Nat} {t : Tk} (h : readT (a :: r) l c = some t) : 1 ≤ t.t.length ∧ t.t.length ≤ r.length + 1 ∧ okC t.t ∨ ¬ okC (a :: r) := by
  by_cases ho : okC (a :: r)
  · left
    have sub : ∀ p : Nat → Bool, okC ((a :: r).takeWhile p) := fun p x hx => ho x ((List.takeWhile_prefix p).subset hx)
    have len : ∀ p : Nat → Bool, ((a :: r).takeWhile p).length ≤ r.length + 1 := fun p => tw_len p (a :: r)
    unfold readT at h
    dsimp only at h
    split at h
    · cases h; exact ⟨Nat.le_refl _, Nat.succ_le_succ (Nat.zero_le _), fun x hx => by rw [List.mem_singleton.mp hx]; decide⟩
    · split at h
      · rename_i hd
        split at h
        · cases h
        · cases h
          refine ⟨?_, len _, sub _⟩
          simp [List.takeWhile_cons, hd]
      · split at h
        · rename_i hk
          cases h
          refine ⟨?_, len _, sub _⟩
          rcases Nat.eq_zero_or_pos ((a :: r).takeWhile isLet).length with hz | hz
          · rw [List.length_eq_zero_iff.mp hz] at hk
            exact absurd hk (by unfold keyW; simp only [Sc_of, List.mem_cons, Sc_eq, List.not_mem_nil, or_false]; decide)
          · exact hz
        · split at h
          · rename_i h1
            cases h
            exact ⟨h1.1, len _, sub _⟩
          · cases h
  · exact .inr ho
abbrev tV (t : Tk) : S := .val t.d
theorem row_loop {row : List Nat} (hR : row.length ≤ 8000000) (hok : okC row) (src rows : Option S) (l : Nat) : ∀ (n : Nat) (m : List Nat) (c : Nat) (ts : List Tk) (x : Option S), m.length ≤ n → row.drop c = m → c ≤ row.length → ts.length + m.length ≤ 16000000 →
    (∀ ts', lexR l m c = (ts', none) → ∃ x', sWhile c1_tokenize l1_tokenize [src, some (.obj 0), rows, some (iV l), some (.val (.str (Sc row))), some (iV c), x] [.lst (ts.map tV)] =
      some (.nx, [src, some (.obj 0), rows, some (iV l), some (.val (.str (Sc row))), some (iV row.length), x'], [.lst ((ts ++ ts').map tV)])) ∧
    (∀ ts' cf, lexR l m c = (ts', some cf) → ∃ sl st, sWhile c1_tokenize l1_tokenize [src, some (.obj 0), rows, some (iV l), some (.val (.str (Sc row))), some (iV c), x] [.lst (ts.map tV)] = some (.xc (synX l cf), sl, st)) := by
  have hz : row.length ≤ sizeLine := Nat.le_of_lt (sizes (by omega))
  have stop : ∀ (c : Nat) (ts : List Tk) (x : Option S), row.drop c = [] → c ≤ row.length → (∀ ts', lexR l [] c = (ts', none) → ∃ x', sWhile c1_tokenize l1_tokenize [src, some (.obj 0), rows, some (iV l), some (.val (.str (Sc row))), some (iV c), x] [.lst (ts.map tV)] =
      some (.nx, [src, some (.obj 0), rows, some (iV l), some (.val (.str (Sc row))), some (iV row.length), x'], [.lst ((ts ++ ts').map tV)])) ∧
    (∀ ts' cf, lexR l [] c = (ts', some cf) → ∃ sl st, sWhile c1_tokenize l1_tokenize [src, some (.obj 0), rows, some (iV l), some (.val (.str (Sc row))), some (iV c), x] [.lst (ts.map tV)] = some (.xc (synX l cf), sl, st)) := fun c ts x hm hc => by
    have hcr : c = row.length := by
      have := List.drop_eq_nil_iff.mp hm
      omega
    subst hcr
    rw [lexR]
    refine ⟨fun ts' h => ⟨x, ?_⟩, fun ts' cf h => by simp at h⟩
    simp only [Prod.mk.injEq, and_true] at h
    subst h
    rw [while_stop (st1 := [.lst (ts.map tV)])]
    · simp
    · simp [c1_tokenize, gLen, hz]
  intro n
  induction n with
  | zero =>
    intro m c ts x hn hm hc hl
    have : m = [] := List.length_eq_zero_iff.mp (by omega)
    subst this
    exact stop c ts x hm hc
  | succ n ih =>
    intro m c ts x hn hm hc hl
    match m, hm, hn, hl with
    | [], hm, hn, hl => exact stop c ts x hm hc
    | a :: r, hm, hn, hl =>
      simp only [List.length_cons] at hn hl
      have hca : row[c]? = some a := by
        have := congrArg (fun z => z[0]?) hm
        simpa using this
      have hcl : c < row.length := (List.getElem?_eq_some_iff.mp hca).1
      have hci : (c : Int) < row.length := by omega
      have ha := Cl.atI_nat hca
      have hd : ∀ k, row.drop (c + (k + 1)) = r.drop k := fun k => by
        rw [← List.drop_drop, hm]; rfl
      have hrl : r.length + c + 1 = row.length := by
        have := congrArg List.length hm
        simp only [List.length_drop, List.length_cons] at this
        omega
      have hcond : c1_tokenize [src, some (.obj 0), rows, some (iV l), some (.val (.str (Sc row))), some (iV c), x] [.lst (ts.map tV)] = some (.ok true, [.lst (ts.map tV)]) := by
        simp [c1_tokenize, gLen, hz, hci]
      rw [lexR]
      by_cases hs : a = 32 ∨ a = 10
      · have hgo : l1_tokenize [src, some (.obj 0), rows, some (iV l), some (.val (.str (Sc row))), some (iV c), x] [.lst (ts.map tV)] = some (.nx, [src, some (.obj 0), rows, some (iV l), some (.val (.str (Sc row))), some (iV ((c + 1 : Nat) : Int)), x], [.lst (ts.map tV)]) := by
          unfold l1_tokenize
          rw [lit_sp]
          simp [gIx, hz, ha, in_str, hs]
        rw [while_go hcond hgo]
        simp only [hs, if_true]
        exact ih r (c + 1) ts x (by omega) (hd 0) (by omega) (by omega)
      · simp only [hs, if_false]
        have hr := read_eq (by omega) hok l c hm
        cases ht : readT (a :: r) l c with
        | none =>
          rw [ht] at hr
          refine ⟨fun ts' h => ?_, fun ts' cf h => ?_⟩
          · simp at h
          · simp only [Prod.mk.injEq, Option.some.injEq] at h
            obtain ⟨_, rfl⟩ := h
            refine ⟨_, _, while_out hcond (r := some (.xc (synX l c), [src, some (.obj 0), rows, some (iV l), some (.val (.str (Sc row))), some (iV c), x], [.lst (ts.map tV)])) ?_ rfl⟩
            unfold l1_tokenize
            rw [lit_sp]
            have hs' : ¬ (a ∈ [32, 10]) := by simpa using hs
            simp only [List.mem_cons, List.not_mem_nil, or_false] at hs'
            simp [gIx, hz, ha, in_str, hs', hr]
        | some t =>
          rw [ht] at hr
          rcases readT_len ht with ⟨t1, t2, t3⟩ | hbad
          · have hgo : l1_tokenize [src, some (.obj 0), rows, some (iV l), some (.val (.str (Sc row))), some (iV c), x] [.lst (ts.map tV)] = some (.nx, [src, some (.obj 0), rows, some (iV l), some (.val (.str (Sc row))), some (iV ((c + t.t.length : Nat) : Int)), some (tV t)], [.lst ((ts ++ [t]).map tV)]) := by
              unfold l1_tokenize
              rw [lit_sp]
              have hs' : ¬ (a ∈ [32, 10]) := by simpa using hs
              simp only [List.mem_cons, List.not_mem_nil, or_false] at hs'
              have z1 : ts.length < sizeLine := sizes (by omega)
              have z2 : t.t.length ≤ sizeLine := Nat.le_of_lt (sizes (by omega))
              simp [gIx, hz, ha, in_str, hs', hr, gAppend, z1, gLen, z2]
            rw [while_go hcond hgo]
            obtain ⟨i1, i2⟩ := ih (r.drop (t.t.length - 1)) (c + t.t.length) (ts ++ [t]) (some (tV t)) (by rw [List.length_drop]; omega) (by rw [← hd (t.t.length - 1)]; congr 1; omega) (by omega) (by rw [List.length_drop, List.length_append, List.length_singleton]; omega)
            refine ⟨fun ts' h => ?_, fun ts' cf h => ?_⟩
            · simp only [Prod.mk.injEq] at h
              obtain ⟨h1, h2⟩ := h
              obtain ⟨x', e⟩ := i1 _ (Prod.ext rfl h2)
              exact ⟨x', by rw [e, ← h1]; simp⟩
            · simp only [Prod.mk.injEq] at h
              obtain ⟨h1, h2⟩ := h
              exact i2 _ cf (Prod.ext rfl h2)
          · exact absurd (fun y hy => hok y (List.mem_of_mem_drop (by rw [hm]; exact hy))) hbad
theorem lexR_len (l : Nat) : ∀ (n : Nat) (m : List Nat) (c : Nat), m.length ≤ n → (lexR l m c).1.length ≤ m.length := by
  intro n
  induction n with
  | zero =>
    intro m c h
    have : m = [] := List.length_eq_zero_iff.mp (by omega)
    subst this
    rw [lexR]; simp
  | succ n ih =>
    intro m c h
    match m with
    | [] => rw [lexR]; simp
    | a :: r =>
      simp only [List.length_cons] at h
      rw [lexR]
      split
      · have := ih r (c + 1) (by omega)
        simp only [List.length_cons]; omega
      · split
        · simp
        · rename_i t _
          have := ih (r.drop (t.t.length - 1)) (c + t.t.length) (by rw [List.length_drop]; omega)
          rw [List.length_drop] at this
          simp only [List.length_cons]; omega
/-- all rows -/
def lexA (l : Nat) : List (List Nat) → List Tk × Option (Nat × Nat)
  | [] => ([], none)
  | r :: rs => match lexR l r 0 with
    | (ts, some c) => (ts, some (l, c))
    | (ts, none) => (ts ++ (lexA (l + 1) rs).1, (lexA (l + 1) rs).2)
theorem rows_loop (src rows : Option S) (C : List O → Prop) : ∀ (rs : List (List Nat)) (l : Nat) (ts : List Tk) (x3 x4 x5 x6 : Option S), (∀ ts : List Tk, C [.lst (ts.map tV)]) → (∀ r ∈ rs, okC r) → ts.length + (rs.map List.length).sum ≤ 8000000 →
    (∀ ts', lexA l rs = (ts', none) → ∃ x3' x4' x5' x6', forL C (tgTup 2 (tgCons (tgName 3) (tgCons (tgName 4) tgNil))) l2_tokenize ((enumD l (rs.map fun r => .str (Sc r))).map .val) [src, some (.obj 0), rows, x3, x4, x5, x6] [.lst (ts.map tV)] =
      some (.nx, [src, some (.obj 0), rows, x3', x4', x5', x6'], [.lst ((ts ++ ts').map tV)])) ∧
    (∀ ts' lf cf, lexA l rs = (ts', some (lf, cf)) → ∃ sl st, forL C (tgTup 2 (tgCons (tgName 3) (tgCons (tgName 4) tgNil))) l2_tokenize ((enumD l (rs.map fun r => .str (Sc r))).map .val) [src, some (.obj 0), rows, x3, x4, x5, x6] [.lst (ts.map tV)] = some (.xc (synX lf cf), sl, st))
  | [], l, ts, x3, x4, x5, x6, hC, _, _ => by
    refine ⟨fun ts' h => ⟨x3, x4, x5, x6, ?_⟩, fun ts' lf cf h => by simp [lexA] at h⟩
    simp only [lexA, Prod.mk.injEq, and_true] at h
    subst h
    rw [List.map_nil, enumD, List.map_nil, for_nil (hC ts)]
    simp
  | r :: rs, l, ts, x3, x4, x5, x6, hC, hok, hl => by
    simp only [List.map_cons, List.sum_cons] at hl
    have hr := row_loop (by omega) (hok r List.mem_cons_self) src rows l r.length r 0 ts x6 (Nat.le_refl _) rfl (Nat.zero_le _) (by omega)
    have g : ∀ st : List O, tgTup 2 (tgCons (tgName 3) (tgCons (tgName 4) tgNil)) (.val (.tup [.int l, .str (Sc r)])) [src, some (.obj 0), rows, x3, x4, x5, x6] st = some ([src, some (.obj 0), rows, some (iV l), some (.val (.str (Sc r))), x5, x6], st) := fun st => by simp
    rw [List.map_cons, enumD, List.map_cons]
    rw [lexA]
    match hx : lexR l r 0 with
    | (ts1, some c) =>
      refine ⟨fun ts' h => by simp at h, fun ts' lf cf h => ?_⟩
      simp only [Prod.mk.injEq, Option.some.injEq] at h
      obtain ⟨_, rfl, rfl⟩ := h
      obtain ⟨sl, st, e⟩ := hr.2 _ _ hx
      refine ⟨sl, st, for_out (hC ts) (g _) ?_ rfl⟩
      unfold l2_tokenize
      simp only [show ((0 : Nat) : Int) = 0 from rfl] at e
      simp [e]
    | (ts1, none) =>
      obtain ⟨x', e⟩ := hr.1 _ hx
      have hb : l2_tokenize [src, some (.obj 0), rows, some (iV l), some (.val (.str (Sc r))), x5, x6] [.lst (ts.map tV)] = some (.nx, [src, some (.obj 0), rows, some (iV l), some (.val (.str (Sc r))), some (iV r.length), x'], [.lst ((ts ++ ts1).map tV)]) := by
        unfold l2_tokenize
        simp at e
        simp [e]
      rw [for_cons (hC ts) (g _) hb]
      have hlen := lexR_len l r.length r 0 (Nat.le_refl _)
      rw [hx] at hlen
      obtain ⟨i1, i2⟩ := rows_loop src rows C rs (l + 1) (ts ++ ts1) (some (iV l)) (some (.val (.str (Sc r)))) (some (iV r.length)) x' hC (fun r hr => hok r (List.mem_cons_of_mem _ hr)) (by rw [List.length_append]; simp only at hlen; omega)
      refine ⟨fun ts' h => ?_, fun ts' lf cf h => ?_⟩
      · simp only [Prod.mk.injEq] at h
        obtain ⟨h1, h2⟩ := h
        obtain ⟨y3, y4, y5, y6, e⟩ := i1 _ (Prod.ext rfl h2)
        exact ⟨y3, y4, y5, y6, by rw [e, ← h1]; simp⟩
      · simp only [Prod.mk.injEq] at h
        obtain ⟨h1, h2⟩ := h
        exact i2 _ lf cf (Prod.ext rfl h2)
theorem pre10 (c : Nat) (r : List Nat) : TL.pre [10] (c :: r) = decide (c = 10) := by
  unfold TL.pre
  rw [Bool.eq_iff_iff]
  simp
theorem spl10 (s : List Nat) : ∀ acc : List Nat, (∀ r ∈ TL.spl [10] 0 acc s, ∀ c ∈ r, c ∈ acc ∨ c ∈ s) ∧ ((TL.spl [10] 0 acc s).map List.length).sum ≤ acc.length + s.length ∧ (TL.spl [10] 0 acc s).length ≤ s.length + 1 := by
  induction s with
  | nil => intro acc; simp [TL.spl]
  | cons c s ih =>
    intro acc
    have ev : TL.spl [10] 0 acc (c :: s) = if decide (c = 10) = true then acc :: TL.spl [10] 0 [] s else TL.spl [10] 0 (acc ++ [c]) s := by
      rw [← pre10 c s]; rfl
    rw [ev]
    by_cases h : c = 10
    · obtain ⟨i1, i2, i3⟩ := ih []
      simp only [h, decide_true, if_true, List.length_singleton, Nat.sub_self, List.map_cons, List.sum_cons, List.length_cons]
      refine ⟨fun r hr d hd => ?_, by simp at i2; omega, by omega⟩
      rcases List.mem_cons.mp hr with rfl | hr
      · exact .inl hd
      · rcases i1 r hr d hd with h | h
        · cases h
        · exact .inr (List.mem_cons_of_mem _ h)
    · obtain ⟨i1, i2, i3⟩ := ih (acc ++ [c])
      simp only [h, decide_false, Bool.false_eq_true, if_false, List.length_cons]
      refine ⟨fun r hr d hd => ?_, by simp at i2; omega, by omega⟩
      rcases i1 r hr d hd with h | h
      · rcases List.mem_append.mp h with h | h
        · exact .inl h
        · exact .inr (by rw [List.mem_singleton.mp h]; exact List.mem_cons_self)
      · exact .inr (List.mem_cons_of_mem _ h)
theorem lexA_len (l : Nat) (rs : List (List Nat)) : (lexA l rs).1.length ≤ (rs.map List.length).sum := by
  induction rs generalizing l with
  | nil => simp [lexA]
  | cons r rs ih =>
    rw [lexA]
    have h := lexR_len l r.length r 0 (Nat.le_refl _)
    have h2 := ih (l + 1)
    split
    · rename_i e; rw [e] at h; simp only [List.map_cons, List.sum_cons]; simp only at h; omega
    · rename_i e; rw [e] at h; simp only [List.map_cons, List.sum_cons, List.length_append]; simp only at h; omega
theorem tokenize_eq {s : List Nat} (hok : okC s) (hl : s.length ≤ 4000000) : F_tokenize [.str (Sc s)] = match lexA 0 (TL.spl [10] 0 [] s) with
    | (ts, none) => some (.ok (.lst (ts.map Tk.d ++ [tokD "end" "" (TL.spl [10] 0 [] s).length 0])))
    | (_, some (l, c)) => some (.error (synX l c)) := by
  obtain ⟨r1, r2, r3⟩ := spl10 s []
  have hs := SX.split_S (a := s) (b := [10]) (by simp) (by decide)
  have hsp : gSplit (.val (.str (Sc s))) [.val (.str (Sc [10]))] [.lst []] = some (.ok (.val (.lst ((TL.spl [10] 0 [] s).map fun r => .str (Sc r)))), [.lst []]) := by
    have e : Txt.split (Sc s) (Sc [10]) = (TL.spl [10] 0 [] s).map Sc := hs
    have z : s.length + 2 ≤ sizeLine := Nat.le_of_lt (sizes (by omega))
    simp [gSplit, z, e, Function.comp_def]
  have hr := rows_loop (some (.val (.str (Sc s)))) (some (.val (.lst ((TL.spl [10] 0 [] s).map fun r => .str (Sc r))))) (fun _ => True) (TL.spl [10] 0 [] s) 0 [] none none none none (fun ts => trivial)
    (fun r hr c hc => by
      rcases r1 r hr c hc with h | h
      · cases h
      · exact hok c h) (by simp at r2 ⊢; omega)
  have hln := lexA_len 0 (TL.spl [10] 0 [] s)
  generalize TL.spl [10] 0 [] s = rs at *
  unfold F_tokenize asP b_tokenize
  rw [lit_nl]
  have z0 : (0 : Nat) ≤ sizeLine := Nat.zero_le _
  match hx : lexA 0 rs with
  | (ts, none) =>
    obtain ⟨x3, x4, x5, x6, e⟩ := hr.1 ts hx
    rw [hx] at hln
    simp only at hln
    have z1 : ts.length + 1 ≤ sizeLine := sizes (by simp at r2; omega)
    simp only [List.map_nil, List.nil_append] at e
    have dd : datas (ts.map tV) = some (ts.map Tk.d) := datas_comp Tk.d ts
    simp [gLstO, z0, hsp, gEnum, e, gLen, token_init, Cl.gLst, gAdd, gCat, dd, deepD, z1]
  | (ts, some (l, c)) =>
    obtain ⟨sl, st, e⟩ := hr.2 ts l c hx
    simp only [List.map_nil] at e
    simp [gLstO, z0, hsp, gEnum, e]
end G
namespace G
open PySem L2 Cl
/-! the lexer without places -/
abbrev KW := Str × List Nat
def lexK (m : List Nat) : Option (List KW) := match m with
  | [] => some []
  | a :: r => if a = 32 ∨ a = 10 then lexK r else match readT (a :: r) 0 0 with
    | none => none
    | some t => (lexK (r.drop (t.t.length - 1))).map ((t.k, t.t) :: ·)
termination_by m.length
decreasing_by all_goals (simp only [List.length_drop, List.length_cons]; omega)
def kw (t : Tk) : KW := (t.k, t.t)
theorem readT_place (m : List Nat) (l c l' c' : Nat) : readT m l' c' = (readT m l c).map fun t => ⟨t.k, t.t, l', c'⟩ := by
  unfold readT
  cases m with
  | nil => rfl
  | cons a r => dsimp only; simp only [apply_ite (Option.map _), Option.map_some, Option.map_none]
theorem tw_app {p : Nat → Bool} (hp : p 10 = false) (rest : List Nat) : ∀ m : List Nat, (m ++ 10 :: rest).takeWhile p = m.takeWhile p
  | [] => by simp [hp]
  | a :: m => by
    rw [List.cons_append, List.takeWhile_cons, List.takeWhile_cons, tw_app hp rest m]
theorem readT_app (a : Nat) (r rest : List Nat) (l c : Nat) : readT (a :: (r ++ 10 :: rest)) l c = readT (a :: r) l c := by
  unfold readT
  dsimp only
  rw [← List.cons_append, tw_app (by decide), tw_app (by decide)]
theorem lexK_app (rest : List Nat) : ∀ (n : Nat) (m : List Nat), m.length ≤ n → okC m → lexK (m ++ 10 :: rest) = (lexK m).bind fun x => (lexK rest).map (x ++ ·) := by
  intro n
  induction n with
  | zero =>
    intro m hn ho
    have : m = [] := List.length_eq_zero_iff.mp (by omega)
    subst this
    rw [List.nil_append, lexK, lexK]
    simp
  | succ n ih =>
    intro m hn ho
    match m with
    | [] =>
      rw [List.nil_append, lexK, lexK]
      simp
    | a :: r =>
      simp only [List.length_cons] at hn
      rw [List.cons_append, lexK, lexK]
      by_cases hs : a = 32 ∨ a = 10
      · simp only [hs, if_true]
        exact ih r (by omega) fun c hc => ho c (List.mem_cons_of_mem _ hc)
      · simp only [hs, if_false]
        rw [readT_app]
        cases ht : readT (a :: r) 0 0 with
        | none => rfl
        | some t =>
          dsimp only
          rcases readT_len ht with ⟨t1, t2, _⟩ | hb
          · rw [List.drop_append_of_le_length (by omega), ih _ (by rw [List.length_drop]; omega) fun c hc => ho c (List.mem_cons_of_mem _ (List.mem_of_mem_drop hc))]
            cases lexK (r.drop (t.t.length - 1)) with
            | none => rfl
            | some x => cases lexK rest <;> rfl
          · exact absurd ho hb
theorem lexR_K (l : Nat) : ∀ (n : Nat) (m : List Nat) (c : Nat), m.length ≤ n → ∀ x, lexK m = some x → ∃ ts, lexR l m c = (ts, none) ∧ ts.map kw = x := by
  intro n
  induction n with
  | zero =>
    intro m c hn x h
    have : m = [] := List.length_eq_zero_iff.mp (by omega)
    subst this
    rw [lexK] at h; rw [lexR]
    exact ⟨[], rfl, by cases h; rfl⟩
  | succ n ih =>
    intro m c hn x h
    match m with
    | [] => rw [lexK] at h; rw [lexR]; exact ⟨[], rfl, by cases h; rfl⟩
    | a :: r =>
      simp only [List.length_cons] at hn
      rw [lexK] at h
      rw [lexR]
      by_cases hs : a = 32 ∨ a = 10
      · simp only [hs, if_true] at h ⊢
        exact ih r (c + 1) (by omega) x h
      · simp only [hs, if_false] at h ⊢
        rw [readT_place _ 0 0 l c]
        cases ht : readT (a :: r) 0 0 with
        | none => rw [ht] at h; cases h
        | some t =>
          rw [ht] at h
          dsimp only at h
          obtain ⟨y, h1, rfl⟩ := Option.map_eq_some_iff.mp h
          obtain ⟨ts, h2, h3⟩ := ih _ (c + t.t.length) (by rw [List.length_drop]; omega) y h1
          refine ⟨⟨t.k, t.t, l, c⟩ :: ts, ?_, ?_⟩
          · dsimp only [Option.map_some]
            rw [h2]
          · simp [kw, h3]
/-- rows by rows -/
theorem lexA_K : ∀ (rs : List (List Nat)) (l : Nat) (x : List KW), rs ≠ [] → (∀ r ∈ rs, okC r) → lexK (TL.joinL [10] rs) = some x → ∃ ts, lexA l rs = (ts, none) ∧ ts.map kw = x
  | [], _, _, h, _, _ => absurd rfl h
  | [r], l, x, _, ho, h => by
    have e : TL.joinL [10] [r] = r := by simp [TL.joinL]
    rw [e] at h
    obtain ⟨ts, h1, h2⟩ := lexR_K l r.length r 0 (Nat.le_refl _) x h
    refine ⟨ts, ?_, h2⟩
    rw [lexA, h1]
    simp [lexA]
  | r :: r2 :: rs, l, x, _, ho, h => by
    have e : TL.joinL [10] (r :: r2 :: rs) = r ++ 10 :: TL.joinL [10] (r2 :: rs) := by simp [TL.joinL]
    rw [e, lexK_app _ r.length r (Nat.le_refl _) (ho r List.mem_cons_self)] at h
    obtain ⟨a, h1, h2⟩ := Option.bind_eq_some_iff.mp h
    obtain ⟨b, h3, rfl⟩ := Option.map_eq_some_iff.mp h2
    obtain ⟨ts, h4, h5⟩ := lexR_K l r.length r 0 (Nat.le_refl _) a h1
    obtain ⟨ts2, h6, h7⟩ := lexA_K (r2 :: rs) (l + 1) b (by simp) (fun r hr => ho r (List.mem_cons_of_mem _ hr)) h3
    refine ⟨ts ++ ts2, ?_, by rw [List.map_append, h5, h7]⟩
    rw [lexA, h4]
    simp only [h6]
theorem spl_joinL (s : List Nat) : ∀ acc : List Nat, TL.joinL [10] (TL.spl [10] 0 acc s) = acc ++ s ∧ TL.spl [10] 0 acc s ≠ [] := by
  induction s with
  | nil => intro acc; simp [TL.spl, TL.joinL]
  | cons c s ih =>
    intro acc
    have ev : TL.spl [10] 0 acc (c :: s) = if decide (c = 10) = true then acc :: TL.spl [10] 0 [] s else TL.spl [10] 0 (acc ++ [c]) s := by
      rw [← pre10 c s]; rfl
    rw [ev]
    by_cases h : c = 10
    · obtain ⟨i1, i2⟩ := ih []
      simp only [h, decide_true, if_true]
      match hs : TL.spl [10] 0 [] s, i1, i2 with
      | [], _, i2 => exact absurd rfl i2
      | x :: y, i1, _ => exact ⟨by rw [show TL.joinL [10] (acc :: x :: y) = acc ++ 10 :: TL.joinL [10] (x :: y) by simp [TL.joinL], i1]; simp, by simp⟩
    · obtain ⟨i1, i2⟩ := ih (acc ++ [c])
      simp only [h, decide_false, Bool.false_eq_true, if_false]
      exact ⟨by rw [i1]; simp, i2⟩
/-- the tokens of a text whose words are x -/
theorem tokens_of {s : List Nat} (hok : okC s) (hl : s.length ≤ 4000000) {x : List KW} (h : lexK s = some x) : ∃ ts : List Tk, ∃ n : Nat, F_tokenize [.str (Sc s)] = some (.ok (.lst (ts.map Tk.d ++ [tokD "end" "" n 0]))) ∧ ts.map kw = x := by
  obtain ⟨j1, j2⟩ := spl_joinL s []
  rw [List.nil_append] at j1
  rw [← j1] at h
  obtain ⟨ts, h1, h2⟩ := lexA_K (TL.spl [10] 0 [] s) 0 x j2 (fun r hr c hc => by
    rcases (spl10 s []).1 r hr c hc with h | h
    · cases h
    · exact hok c h) h
  refine ⟨ts, (TL.spl [10] 0 [] s).length, ?_, h2⟩
  rw [tokenize_eq hok hl, h1]
end G
namespace G
open PySem L2 Cl
/-! words -/
def NmW (w : List Nat) : Prop := 1 ≤ w.length ∧ w.length ≤ 8 ∧ (∀ c ∈ w, isLet c = true) ∧ Sc w ∉ keyW
def KyW (w : List Nat) : Prop := Sc w ∈ keyW ∧ (∀ c ∈ w, isLet c = true) ∧ 1 ≤ w.length
def NuW (w : List Nat) : Prop := 1 ≤ w.length ∧ w.length ≤ 2 ∧ (∀ c ∈ w, isDig c = true) ∧ (w.length = 1 ∨ ∀ r, w ≠ 48 :: r)
inductive WdOk : KW → Prop
  | name {w : List Nat} : NmW w → WdOk ("name", w)
  | key {w : List Nat} : KyW w → WdOk ("keyword", w)
  | num {w : List Nat} : NuW w → WdOk ("number", w)
  | sign : WdOk ("sign", [59])
abbrev sgn : KW := ("sign", [59])
def Stop : List Nat → Prop
  | [] => True
  | c :: _ => isLet c = false ∧ isDig c = false
theorem tw_stop {p : Nat → Bool} {w rest : List Nat} (hw : ∀ c ∈ w, p c = true) (hr : ∀ c r, rest = c :: r → p c = false) : (w ++ rest).takeWhile p = w := by
  induction w with
  | nil =>
    cases rest with
    | nil => rfl
    | cons c r => rw [List.nil_append, List.takeWhile_cons, hr c r rfl]; rfl
  | cons a w ih =>
    rw [List.cons_append, List.takeWhile_cons, hw a List.mem_cons_self]
    simp only [if_true]
    rw [ih fun c hc => hw c (List.mem_cons_of_mem _ hc)]
theorem let_dig {c : Nat} (h : isLet c = true) : isDig c = false ∧ c ≠ 59 ∧ c ≠ 32 ∧ c ≠ 10 := by
  simp only [isLet, isDig, Bool.and_eq_true, decide_eq_true_eq, Bool.and_eq_false_iff, decide_eq_false_iff_not] at h ⊢
  omega
theorem dig_let {c : Nat} (h : isDig c = true) : isLet c = false ∧ c ≠ 59 ∧ c ≠ 32 ∧ c ≠ 10 := by
  simp only [isLet, isDig, Bool.and_eq_true, decide_eq_true_eq, Bool.and_eq_false_iff, decide_eq_false_iff_not] at h ⊢
  omega
theorem stop_let {rest : List Nat} (h : Stop rest) : ∀ c r, rest = c :: r → isLet c = false := fun c r e => by rw [e] at h; exact h.1
theorem stop_dig {rest : List Nat} (h : Stop rest) : ∀ c r, rest = c :: r → isDig c = false := fun c r e => by rw [e] at h; exact h.2
theorem lexK_word {x : KW} (hx : WdOk x) {rest : List Nat} (hs : Stop rest) : lexK (x.2 ++ rest) = (lexK rest).map (x :: ·) := by
  have key : ∀ (a : Nat) (r : List Nat) (k : Str), a ≠ 32 ∧ a ≠ 10 → readT (a :: (r ++ rest)) 0 0 = some ⟨k, a :: r, 0, 0⟩ → lexK ((a :: r) ++ rest) = (lexK rest).map ((k, a :: r) :: ·) := fun a r k ha h => by
    rw [List.cons_append, lexK]
    rw [if_neg (by omega), h]
    dsimp only
    rw [List.length_cons, Nat.add_sub_cancel, List.drop_left]
  cases hx with
  | @name w h =>
    obtain ⟨h1, h2, h3, h4⟩ := h
    match w, h1 with
    | a :: r, h1 =>
      have ha := let_dig (h3 a List.mem_cons_self)
      refine key a r _ ⟨ha.2.2.1, ha.2.2.2⟩ ?_
      have tw := tw_stop h3 (stop_let hs)
      unfold readT
      dsimp only
      rw [← List.cons_append, tw, if_neg ha.2.1, if_neg (by rw [ha.1]; decide), if_neg h4, if_pos ⟨h1, h2⟩]
  | @key w h =>
    obtain ⟨h4, h3, h1⟩ := h
    match w, h1 with
    | a :: r, h1 =>
      have ha := let_dig (h3 a List.mem_cons_self)
      refine key a r _ ⟨ha.2.2.1, ha.2.2.2⟩ ?_
      have tw := tw_stop h3 (stop_let hs)
      unfold readT
      dsimp only
      rw [← List.cons_append, tw, if_neg ha.2.1, if_neg (by rw [ha.1]; decide), if_pos h4]
  | @num w h =>
    obtain ⟨h1, h2, h3, h4⟩ := h
    match w, h1 with
    | a :: r, h1 =>
      have ha := dig_let (h3 a List.mem_cons_self)
      refine key a r _ ⟨ha.2.2.1, ha.2.2.2⟩ ?_
      have tw := tw_stop h3 (stop_dig hs)
      unfold readT
      dsimp only
      rw [← List.cons_append, tw, if_neg ha.2.1, if_pos (h3 a List.mem_cons_self), if_neg]
      intro z
      rcases z with z | ⟨z1, z2⟩
      · omega
      · rcases h4 with h4 | h4
        · omega
        · exact h4 r (by rw [z2])
  | sign =>
    refine key 59 [] _ ⟨by decide, by decide⟩ ?_
    unfold readT
    simp
theorem lexK_sp (rest : List Nat) : lexK (32 :: rest) = lexK rest := by rw [lexK]; simp
theorem lexK_nl (rest : List Nat) : lexK (10 :: rest) = lexK rest := by rw [lexK]; simp
theorem lexK_nil : lexK [] = some [] := by rw [lexK]
/-- a line: words with single spaces, a sign at the end -/
def lineOf (ws : List KW) : List Nat := TL.joinL [32] (ws.map (·.2)) ++ [59]
theorem lexK_line : ∀ (ws : List KW), ws ≠ [] → (∀ x ∈ ws, WdOk x) → ∀ rest, lexK (TL.joinL [32] (ws.map (·.2)) ++ 59 :: rest) = (lexK rest).map (ws ++ sgn :: ·)
  | [], h, _, _ => absurd rfl h
  | [x], _, h, rest => by
    have e : TL.joinL [32] ([x].map (·.2)) = x.2 := by simp [TL.joinL]
    rw [e, lexK_word (h x List.mem_cons_self) (rest := 59 :: rest) ⟨by decide, by decide⟩]
    have := lexK_word WdOk.sign (rest := rest)
    by_cases hs : Stop rest
    · rw [show (59 :: rest) = ([59] : List Nat) ++ rest from rfl, this hs]
      cases lexK rest <;> rfl
    · rw [lexK, if_neg (by decide)]
      have e2 : readT (59 :: rest) 0 0 = some ⟨"sign", [59], 0, 0⟩ := by unfold readT; simp
      rw [e2]
      simp [Function.comp_def]
  | x :: y :: ws, _, h, rest => by
    have e : TL.joinL [32] ((x :: y :: ws).map (·.2)) = x.2 ++ 32 :: TL.joinL [32] ((y :: ws).map (·.2)) := by simp [TL.joinL]
    rw [e, List.append_assoc, List.cons_append, lexK_word (h x List.mem_cons_self) (rest := 32 :: _) ⟨by decide, by decide⟩, lexK_sp, lexK_line (y :: ws) (by simp) (fun z hz => h z (List.mem_cons_of_mem _ hz)) rest]
    cases lexK rest <;> rfl
theorem wd_ok {x : KW} (h : WdOk x) : okC x.2 ∧ (∀ c ∈ x.2, c ≠ 10) ∧ x.2.length ≤ 8 := by
  have l1 : ∀ c, isLet c = true → c < 1114112 ∧ c ≠ 10 := fun c h => by simp only [isLet, Bool.and_eq_true, decide_eq_true_eq] at h; omega
  have l2 : ∀ c, isDig c = true → c < 1114112 ∧ c ≠ 10 := fun c h => by simp only [isDig, Bool.and_eq_true, decide_eq_true_eq] at h; omega
  cases h with
  | name h => exact ⟨fun c hc => (l1 c (h.2.2.1 c hc)).1, fun c hc => (l1 c (h.2.2.1 c hc)).2, h.2.1⟩
  | @key w h =>
    refine ⟨fun c hc => (l1 c (h.2.1 c hc)).1, fun c hc => (l1 c (h.2.1 c hc)).2, ?_⟩
    have h1 := h.1
    unfold keyW at h1
    simp only [Sc_of, List.mem_cons, Sc_eq, List.not_mem_nil, or_false] at h1
    show w.length ≤ 8
    rcases h1 with h | h | h | h | h | h | h <;> (rw [h]; decide)
  | num h => exact ⟨fun c hc => (l2 c (h.2.2.1 c hc)).1, fun c hc => (l2 c (h.2.2.1 c hc)).2, Nat.le_trans h.2.1 (by decide)⟩
  | sign => exact ⟨fun c hc => by rw [List.mem_singleton.mp hc]; decide, fun c hc => by rw [List.mem_singleton.mp hc]; decide, by decide⟩
/-- lines joined by line feeds -/
theorem lexK_lines : ∀ (ls : List (List KW)), (∀ ws ∈ ls, ws ≠ [] ∧ ∀ x ∈ ws, WdOk x) → lexK (TL.joinL [10] (ls.map lineOf)) = some ((ls.map fun ws => ws ++ [sgn]).flatten)
  | [], _ => by simp [TL.joinL, lexK_nil]
  | [ws], h => by
    have e : TL.joinL [10] ([ws].map lineOf) = lineOf ws := by simp [TL.joinL]
    rw [e, lineOf, lexK_line ws (h ws List.mem_cons_self).1 (h ws List.mem_cons_self).2, lexK_nil]
    simp
  | ws :: w2 :: ls, h => by
    have e : TL.joinL [10] ((ws :: w2 :: ls).map lineOf) = lineOf ws ++ 10 :: TL.joinL [10] ((w2 :: ls).map lineOf) := by simp [TL.joinL]
    rw [e, lineOf, List.append_assoc, List.singleton_append, lexK_line ws (h ws List.mem_cons_self).1 (h ws List.mem_cons_self).2, lexK_nl, lexK_lines (w2 :: ls) fun z hz => h z (List.mem_cons_of_mem _ hz)]
    simp
end G
namespace G
open PySem L2 Cl
variable {toks : List D} {p : PS} {ex ys : List O} {k t : Str} {l c : Int} {nms : List Str}
theorem valves_eq (hx : exOk ex) (n : Str × Int × Int) (ns : List (Str × Int × Int)) {l2 c2 : Int} (rest : List D) (h : toks.drop p.i = tokD k "valves" l c :: ((n :: ns).map nmD ++ tokD "sign" ";" l2 c2 :: rest)) (he : p.na = []) (ok : NmOk ((n :: ns).map (·.1))) (hl : (n :: ns).length ≤ 8) :
    F_Parser_parse_valves [.obj 0] (PSt toks p ex) = some (.ok (.val .non), PSt toks { p with i := p.i + ((n :: ns).length + 2), na := ((n :: ns).map (·.1)).map .str } ex) := by
  obtain ⟨a1, b1⟩ := drop_get h
  have e1 := take_word_eq (p := p) hx (strOk_lit _) a1
  simp only [List.length_cons] at hl
  have e2 := take_names_eq (p := { p with i := p.i + 1 }) hx n ns rest b1 (by omega)
  obtain ⟨sl', e3⟩ := valves_loop (toks := toks) hx (n :: ns) { p with i := p.i + 1 + (ns.length + 2) } [] none (by simpa using he) (by simpa using ok) (by simpa using hl)
  have e4 : p.i + 1 + (ns.length + 2) = p.i + ((n :: ns).length + 2) := by simp; omega
  simp only [e4] at e2 e3
  simp only [List.map_cons, List.nil_append, List.map_map, List.length_cons] at e2 e3
  simp [-exitC, -tgName, F_Parser_parse_valves, b_Parser_parse_valves, e1, e2, gIter, e3, exit_nx0 hx]
theorem start_eq (hx : exOk ex) (ok : NmOk nms) (hn : p.na = nms.map .str) {len j tick wat : Nat} {x tt tw : Str} {l1 c1 l2 c2 l3 c3 l4 c4 l5 c5 : Int} {k1 k2 : Str} {rest : List D} (hj : nms[j]? = some x) (nt : Num tt tick) (nw : Num tw wat) (h1 : tick < len) (h2 : 1 ≤ wat) (h3 : wat ≤ 30) (h4 : p.sts.length < 20)
    (h : toks.drop p.i = tokD k1 "start" l c :: tokD "name" x l1 c1 :: tokD "number" tt l2 c2 :: tokD k2 "for" l3 c3 :: tokD "number" tw l4 c4 :: tokD "sign" ";" l5 c5 :: rest) :
    F_Parser_parse_start [.obj 0, .val (.int len)] (PSt toks p ex) = some (.ok (.val .non), PSt toks { p with i := p.i + 6, sts := p.sts ++ [.tup [.int tick, .int j, .int wat]] } ex) := by
  obtain ⟨a1, b1⟩ := drop_get h
  obtain ⟨a2, b2⟩ := drop_get b1
  obtain ⟨a3, b3⟩ := drop_get b2
  obtain ⟨a4, b4⟩ := drop_get b3
  obtain ⟨a5, b5⟩ := drop_get b4
  obtain ⟨a6, b6⟩ := drop_get b5
  have e0 := peek_eq (p := p) hx a1
  have e1 := take_word_eq (p := p) hx (strOk_lit _) a1
  have e2 := take_eq (p := { p with i := p.i + 1 }) hx (strOk_lit _) a2
  have e3 := take_eq (p := { p with i := p.i + 1 + 1 }) hx (strOk_lit _) a3
  have e4 := take_word_eq (p := { p with i := p.i + 1 + 1 + 1 }) hx (strOk_lit _) a4
  have e5 := take_eq (p := { p with i := p.i + 1 + 1 + 1 + 1 }) hx (strOk_lit _) a5
  have e6 := take_word_eq (p := { p with i := p.i + 1 + 1 + 1 + 1 + 1 }) hx (strOk_lit _) a6
  have e7 := valve_eq (toks := toks) (p := { p with i := p.i + 1 + 1 }) (k := "name") (l := l1) (c := c1) hx ok hn hj
  have g1 : ¬ ((len : Int) ≤ (tick : Int)) := by omega
  have g2 : (1 : Int) ≤ (wat : Int) := by omega
  have g3 : (wat : Int) ≤ 30 := by omega
  have g4 : ¬ ((p.sts.length : Int) = 20) := by omega
  have g5 : p.sts.length < sizeLine := sz (by omega)
  have g6 : 3 ≤ sizeLine := Nat.le_of_lt (sz (by omega))
  have e8 := P_set3 (toks := toks) (p := { p with i := p.i + 6 }) (ex := ex) (p.sts.map .val ++ [.val (.tup [.int tick, .int j, .int wat])]) (p.sts ++ [.tup [.int tick, .int j, .int wat]]) (by simp)
  simp at e8
  simp [-exitC, F_Parser_parse_start, b_Parser_parse_start, e0, e1, e2, e3, e4, e5, e6, e7, gInt_num nt, gInt_num nw, g1, g2, g3, gLen, gEq_int, g4, Cl.gTup, g6, gAppend, g5, e8, exit_nx0 hx]
theorem pause_eq (hx : exOk ex) {len a b : Nat} {ta tb : Str} {l1 c1 l2 c2 l3 c3 : Int} {rest : List D} (na : Num ta a) (nb : Num tb b) (h1 : b < len) (h2 : a ≤ b) (h4 : p.pa.length < 900)
    (h : toks.drop p.i = tokD k "pause" l c :: tokD "number" ta l1 c1 :: tokD "number" tb l2 c2 :: tokD "sign" ";" l3 c3 :: rest) :
    F_Parser_parse_pause [.obj 0, .val (.int len)] (PSt toks p ex) = some (.ok (.val .non), PSt toks { p with i := p.i + 4, pa := p.pa ++ [.tup [.int a, .int b]] } ex) := by
  obtain ⟨a1, b1⟩ := drop_get h
  obtain ⟨a2, b2⟩ := drop_get b1
  obtain ⟨a3, b3⟩ := drop_get b2
  obtain ⟨a4, b4⟩ := drop_get b3
  have e1 := take_word_eq (p := p) hx (strOk_lit _) a1
  have e2 := take_eq (p := { p with i := p.i + 1 }) hx (strOk_lit _) a2
  have e3 := take_eq (p := { p with i := p.i + 1 + 1 }) hx (strOk_lit _) a3
  have e4 := take_word_eq (p := { p with i := p.i + 1 + 1 + 1 }) hx (strOk_lit _) a4
  have g1 : ¬ ((len : Int) ≤ (b : Int)) := by omega
  have g2 : ¬ ((b : Int) < (a : Int)) := by omega
  have g5 : p.pa.length < sizeLine := sz (by omega)
  have g6 : 2 ≤ sizeLine := Nat.le_of_lt (sz (by omega))
  have e8 := P_set4 (toks := toks) (p := { p with i := p.i + 4 }) (ex := ex) (p.pa.map .val ++ [.val (.tup [.int a, .int b])]) (p.pa ++ [.tup [.int a, .int b]]) (by simp)
  simp at e8
  simp [-exitC, F_Parser_parse_pause, b_Parser_parse_pause, e1, e2, e3, e4, gInt_num na, gInt_num nb, g1, g2, Cl.gTup, g6, gAppend, g5, e8, exit_nx0 hx]
end G
namespace G
open PySem L2 Cl
variable {toks : List D} {p : PS} {ex ys : List O} {k t : Str} {l c : Int} {nms : List Str}
abbrev iD (n : Nat) : D := .int n
theorem int_eqv (a b : Int) : PyData.eqv (.int a) (.int b) = decide (a = b) := by simp [PyData.eqv]; exact Bool.eq_iff_iff.mpr (by simp)
abbrev iP (n : Nat) : PyData := .int n
@[simp] theorem toPs_ints (l : List Nat) : toPs (l.map iD) = some (l.map iP) := by
  induction l with
  | nil => simp [toPs]
  | cons a l ih => simp [toPs, toP, ih]
@[simp] theorem flat_ints (l : List Nat) : (l.map iP).all flatP = true := by
  induction l with
  | nil => rfl
  | cons a l ih => simp [flatP]
theorem any_ints (x : Nat) (l : List Nat) : ((l.map iP).any fun z => PyData.eqv z (.int x)) = decide (x ∈ l) := by
  induction l with
  | nil => rfl
  | cons a l ih =>
    simp only [List.map_cons, List.any_cons, int_eqv, ih]
    by_cases h : a = x
    · subst h; simp
    · have h' : ¬ x = a := fun z => h z.symm
      have h2 : ¬ (a : Int) = (x : Int) := by omega
      simp [h2, h']
/-- x in a list of numbers, of data | of the store -/
theorem in_ints (x : Nat) (js : List Nat) (st : List O) (neg : Bool) : gInB neg (.val (.int x)) (.val (.lst (js.map iD))) st = some (.ok (.val (.bl (if neg = true then !decide (x ∈ js) else decide (x ∈ js)))), st) := by
  have e := any_ints x js
  have f := flat_ints js
  simp [gInB, toPS, toP, flatP, e, f, -List.any_map, -List.all_map]
theorem in_intsO (x : Nat) (js : List Nat) (st : List O) (n : Nat) (h : st[n]? = some (.lst (js.map fun j => .val (iD j)))) : gInB false (.val (.int x)) (.obj n) st = some (.ok (.val (.bl (decide (x ∈ js)))), st) := by
  have e := any_ints x js
  have f := flat_ints js
  have d : datas (js.map fun j => S.val (iD j)) = some (js.map iD) := by
    have := datas_comp iD js
    exact this
  simp [gInB, toPS, toP, flatP, h, d, e, f, -List.any_map, -List.all_map]
theorem rank_loop (hx : exOk ex) (ok : NmOk nms) (hn : p.na = nms.map .str) : ∀ (ns : List (Nat × Str × Int × Int)) (done : List Nat) (s1 s3 s4 : Option S), (∀ n ∈ ns, nms[n.1]? = some n.2.1) → (done ++ ns.map (·.1)).Nodup → done.length + ns.length ≤ 100 →
    ∃ s3' s4', forL always (tgName 3) l1_Parser_parse_rank ((ns.map fun n => nmD n.2).map .val) [some (.obj 0), s1, some (.obj (ex.length + 5)), s3, s4] (PSt toks p (ex ++ [.lst ((done.map iD).map .val)])) =
      some (.nx, [some (.obj 0), s1, some (.obj (ex.length + 5)), s3', s4'], PSt toks p (ex ++ [.lst (((done ++ ns.map (·.1)).map iD).map .val)]))
  | [], done, s1, s3, s4, _, _, _ => ⟨s3, s4, by rw [List.map_nil, List.map_nil, for_nil (by simp)]; simp⟩
  | n :: ns, done, s1, s3, s4, hm, nd, hl => by
    have h1 := hm n List.mem_cons_self
    have e1 := in_names (toks := toks) (p := p) (ex := ex ++ [.lst ((done.map iD).map .val)]) ok hn n.2.1
    have e2 := valve_eq (toks := toks) (p := p) (k := "name") (l := n.2.2.1) (c := n.2.2.2) (exOk_app hx (done.map iD)) ok hn h1
    have hd : ¬ n.1 ∈ done := fun z => (List.nodup_append.mp nd).2.2 _ z n.1 (by simp) rfl
    have e3 := in_intsO n.1 done (PSt toks p (ex ++ [.lst ((done.map iD).map .val)])) (ex.length + 5) (by simp [Function.comp_def])
    simp only [List.length_cons] at hl
    have hs : done.length < sizeLine := sz (by omega)
    obtain ⟨s3', s4', ih⟩ := rank_loop hx ok hn ns (done ++ [n.1]) s1 (some (.val (nmD n.2))) (some (.val (iD n.1))) (fun m hm' => hm m (List.mem_cons_of_mem _ hm')) (by simpa using nd) (by simp; omega)
    refine ⟨s3', s4', ?_⟩
    rw [List.map_cons, List.map_cons, for_cons (sl1 := [some (.obj 0), s1, some (.obj (ex.length + 5)), some (.val (nmD n.2)), s4]) (st1 := PSt toks p (ex ++ [.lst ((done.map iD).map .val)]))
      (sl2 := [some (.obj 0), s1, some (.obj (ex.length + 5)), some (.val (nmD n.2)), some (.val (iD n.1))]) (st2 := PSt toks p (ex ++ [.lst (((done ++ [n.1]).map iD).map .val)])) (by simp) (by simp), ih]
    · simp
    · simp only [List.map_map] at e1 e2 e3
      have hmem := List.mem_of_getElem? h1
      simp [l1_Parser_parse_rank, e1, e2, e3, hd, hmem, gAppend, hs]
theorem rank_eq (hx : exOk ex) (ok : NmOk nms) (hn : p.na = nms.map .str) (hr : p.r = .non) (n : Nat × Str × Int × Int) (ns : List (Nat × Str × Int × Int)) {l2 c2 : Int} (rest : List D) (hm : ∀ m ∈ n :: ns, nms[m.1]? = some m.2.1) (nd : ((n :: ns).map (·.1)).Nodup) (hl : (n :: ns).length ≤ 100)
    (h : toks.drop p.i = tokD k "rank" l c :: (((n :: ns).map fun n => nmD n.2) ++ tokD "sign" ";" l2 c2 :: rest)) :
    F_Parser_parse_rank [.obj 0] (PSt toks p ex) = some (.ok (.val .non), PSt toks { p with i := p.i + ((n :: ns).length + 2), r := .lst (((n :: ns).map (·.1)).map iD) } ex) := by
  obtain ⟨pi, fa, na, sts, pa, r⟩ := p
  simp only at hr hn h
  subst hr
  obtain ⟨a1, b1⟩ := drop_get h
  have e0 := peek_eq (p := ⟨pi, fa, na, sts, pa, .non⟩) hx a1
  have e1 := take_word_eq (p := ⟨pi, fa, na, sts, pa, .non⟩) hx (strOk_lit _) a1
  simp only [List.length_cons] at hl
  have e2 := take_names_eq (p := ⟨pi + 1, fa, na, sts, pa, .non⟩) (l := l2) (c := c2) (exOk_app hx []) n.2 (ns.map (·.2)) rest (by rw [b1]; simp [Function.comp_def]) (by simp; omega)
  have e4 : pi + 1 + ((ns.map (·.2)).length + 2) = pi + ((n :: ns).length + 2) := by simp; omega
  simp only [e4] at e2
  obtain ⟨s3, s4, e3⟩ := rank_loop (toks := toks) (p := ⟨pi + ((n :: ns).length + 2), fa, na, sts, pa, .non⟩) hx ok hn (n :: ns) [] (some (.val (tokD k "rank" l c))) none none hm (by simpa using nd) (by simp; omega)
  simp only [List.map_cons, List.nil_append, List.map_map, List.map_nil, List.length_cons] at e2 e3
  have hs : 0 ≤ sizeLine := Nat.zero_le _
  have f : (fun n : Nat × Str × Int × Int => nmD n.2) = nmD ∘ (·.2) := rfl
  rw [f] at e3
  simp [-exitC, -tgName, F_Parser_parse_rank, b_Parser_parse_rank, e0, e1, gLstO, hs, e2, gIter, e3, gIsN, isNonS]
  exact exit_nx (p := ⟨pi + (ns.length + 1 + 2), fa, na, sts, pa, .lst (iD n.fst :: List.map (iD ∘ fun x => x.fst) ns)⟩) (ys := [O.frz (D.lst (iD n.fst :: List.map (iD ∘ fun x => x.fst) ns))]) hx _
end G
namespace G
open PySem L2 Cl
variable {toks : List D} {p : PS} {ex ys : List O} {k t : Str} {l c : Int} {nms : List Str} {len : Nat}
inductive Sm where
  | start (tick j wat : Nat)
  | pause (a b : Nat)
  | rank (js : List Nat)
inductive SmT (nms : List Str) (len : Nat) : Sm → List D → Prop
  | start {tick j wat : Nat} {x tt tw : Str} {k1 k2 : Str} {l c l1 c1 l2 c2 l3 c3 l4 c4 l5 c5 : Int} : nms[j]? = some x → Num tt tick → Num tw wat → tick < len → 1 ≤ wat → wat ≤ 30 → k1 ≠ "end" → PyData.strOk k1 = true →
      SmT nms len (.start tick j wat) [tokD k1 "start" l c, tokD "name" x l1 c1, tokD "number" tt l2 c2, tokD k2 "for" l3 c3, tokD "number" tw l4 c4, tokD "sign" ";" l5 c5]
  | pause {a b : Nat} {ta tb : Str} {k1 : Str} {l c l1 c1 l2 c2 l3 c3 : Int} : Num ta a → Num tb b → b < len → a ≤ b → k1 ≠ "end" → PyData.strOk k1 = true → SmT nms len (.pause a b) [tokD k1 "pause" l c, tokD "number" ta l1 c1, tokD "number" tb l2 c2, tokD "sign" ";" l3 c3]
  | rank {n : Nat × Str × Int × Int} {ns : List (Nat × Str × Int × Int)} {k1 : Str} {l c l2 c2 : Int} : (∀ m ∈ n :: ns, nms[m.1]? = some m.2.1) → ((n :: ns).map (·.1)).Nodup → (n :: ns).length ≤ 100 → k1 ≠ "end" → PyData.strOk k1 = true →
      SmT nms len (.rank ((n :: ns).map (·.1))) (tokD k1 "rank" l c :: (((n :: ns).map fun n => nmD n.2) ++ [tokD "sign" ";" l2 c2]))
def tri (a b c : Nat) : D := .tup [.int a, .int b, .int c]
def pr (a b : Nat) : D := .tup [.int a, .int b]
def startsOf : List Sm → List D
  | [] => []
  | .start a b c :: r => tri a b c :: startsOf r
  | _ :: r => startsOf r
def pausesOf : List Sm → List D
  | [] => []
  | .pause a b :: r => pr a b :: pausesOf r
  | _ :: r => pausesOf r
def ranksOf : List Sm → List (List Nat)
  | [] => []
  | .rank js :: r => js :: ranksOf r
  | _ :: r => ranksOf r
def rankD (p : D) : List (List Nat) → D
  | [] => p
  | js :: _ => .lst (js.map iD)
inductive SmTs (nms : List Str) (len : Nat) : List Sm → List (List D) → Prop
  | nil : SmTs nms len [] []
  | cons {s : Sm} {t : List D} {ss : List Sm} {ts : List (List D)} : SmT nms len s t → SmTs nms len ss ts → SmTs nms len (s :: ss) (t :: ts)
theorem plan_loop (ok : NmOk nms) {l c : Int} {et : Str} {rest : List D} {ss : List Sm} {ts : List (List D)} (H : SmTs nms len ss ts) : ∀ (p : PS) (s : Sl), p.na = nms.map .str → p.sts.length + (startsOf ss).length ≤ 20 → p.pa.length + (pausesOf ss).length ≤ 900 → (p.r = .non ∧ (ranksOf ss).length ≤ 1 ∨ ranksOf ss = []) →
    toks.drop p.i = ts.flatten ++ tokD "end" et l c :: rest →
    sWhile c1_Parser_parse_plan l1_Parser_parse_plan (some (.obj 0) :: some (.val (.int len)) :: s) (PSt toks p []) =
      some (.nx, some (.obj 0) :: some (.val (.int len)) :: s, PSt toks { p with i := p.i + ts.flatten.length, sts := p.sts ++ startsOf ss, pa := p.pa ++ pausesOf ss, r := rankD p.r (ranksOf ss) } []) := by
  induction H with
  | nil =>
    intro p s hn _ _ _ h
    have e := peek_eq (p := p) exOk_nil (drop_get h).1
    rw [while_stop (st1 := PSt toks p [])]
    · simp [startsOf, pausesOf, ranksOf, rankD]
    · simp [c1_Parser_parse_plan, e, gNe_str]
  | @cons s0 t0 ss ts h0 hs ih =>
    intro p s hn g1 g2 g3 h
    rw [List.flatten_cons, List.append_assoc] at h
    have key : ∀ (q : PS) (a : String) (kk : Str) (la ca : Int) (tl : List D), t0 = tokD kk a la ca :: tl → kk ≠ "end" → PyData.strOk kk = true → q.i = p.i + t0.length → q.na = p.na →
        l1_Parser_parse_plan (some (.obj 0) :: some (.val (.int len)) :: s) (PSt toks p []) = some (.nx, some (.obj 0) :: some (.val (.int len)) :: s, PSt toks q []) →
        q.sts.length + (startsOf ss).length ≤ 20 → q.pa.length + (pausesOf ss).length ≤ 900 → (q.r = .non ∧ (ranksOf ss).length ≤ 1 ∨ ranksOf ss = []) →
        sWhile c1_Parser_parse_plan l1_Parser_parse_plan (some (.obj 0) :: some (.val (.int len)) :: s) (PSt toks p []) =
          some (.nx, some (.obj 0) :: some (.val (.int len)) :: s, PSt toks { q with i := q.i + ts.flatten.length, sts := q.sts ++ startsOf ss, pa := q.pa ++ pausesOf ss, r := rankD q.r (ranksOf ss) } []) := by
      intro q a kk la ca tl et0 hk1 hk2 hi hna hb g1 g2 g3
      have h' := h
      rw [et0] at h'
      have e0 := peek_eq (p := p) exOk_nil (drop_get h').1
      rw [while_go (st1 := PSt toks p []) ?_ hb, ih q s (hna.trans hn) g1 g2 g3 ?_]
      · have := congrArg (List.drop t0.length) h
        rw [List.drop_drop, List.drop_left] at this
        rw [hi]; exact this
      · simp [c1_Parser_parse_plan, e0, gNe_str _ hk2 (strOk_lit "end"), hk1]
    cases h0 with
    | @start tick j wat x tt tw k1 k2 l c l1 c1 l2 c2 l3 c3 l4 c4 l5 c5 hj nt nw h1 h2 h3 h4 h5 =>
      simp only [startsOf, pausesOf, ranksOf, List.length_cons] at g1 g2 g3
      have e0 := peek_eq (p := p) exOk_nil (drop_get h).1
      have e1 := start_eq (p := p) (len := len) exOk_nil ok hn hj nt nw h1 h2 h3 (by omega) h
      rw [key { p with i := p.i + 6, sts := p.sts ++ [tri tick j wat] } "start" k1 l c _ rfl h4 h5 rfl rfl (by simp [l1_Parser_parse_plan, e0, gEq_str, e1, tri]) (by simp; omega) g2 g3]
      simp [startsOf, pausesOf, ranksOf]
      congr 2; omega
    | @pause a b ta tb k1 l c l1 c1 l2 c2 l3 c3 na nb h1 h2 h4 h5 =>
      simp only [startsOf, pausesOf, ranksOf, List.length_cons] at g1 g2 g3
      have e0 := peek_eq (p := p) exOk_nil (drop_get h).1
      have e1 := pause_eq (p := p) (len := len) exOk_nil na nb h1 h2 (by omega) h
      rw [key { p with i := p.i + 4, pa := p.pa ++ [pr a b] } "pause" k1 l c _ rfl h4 h5 rfl rfl (by simp [l1_Parser_parse_plan, e0, gEq_str, e1, pr]) g1 (by simp; omega) g3]
      simp [startsOf, pausesOf, ranksOf]
      congr 2; omega
    | @rank n ns k1 l c l2 c2 hm nd hl h4 h5 =>
      simp only [startsOf, pausesOf] at g1 g2
      have g4 : p.r = .non ∧ ranksOf ss = [] := by
        rcases g3 with ⟨a, b⟩ | a
        · refine ⟨a, ?_⟩
          simp only [ranksOf, List.length_cons] at b
          exact List.length_eq_zero_iff.mp (by omega)
        · simp [ranksOf] at a
      have h' := h
      simp only [List.cons_append, List.append_assoc, List.nil_append] at h'
      have e0 := peek_eq (p := p) exOk_nil (drop_get h').1
      have e1 := rank_eq (p := p) (l2 := l2) (c2 := c2) exOk_nil ok hn g4.1 n ns _ hm nd hl h'
      rw [key { p with i := p.i + ((n :: ns).length + 2), r := .lst (((n :: ns).map (·.1)).map iD) } "rank" k1 l c _ rfl h4 h5 (by simp) rfl (by simp [l1_Parser_parse_plan, e0, gEq_str, e1]) g1 g2 (.inr g4.2)]
      simp [startsOf, pausesOf, ranksOf, g4.2, rankD]
      congr 2; omega
end G
namespace G
open PySem L2 Cl
variable {toks : List D} {p : PS} {ex ys : List O} {k t : Str} {l c : Int} {nms : List Str} {len : Nat}
def planD (len most : Nat) (nms : List Str) (starts paused ranks : List D) : D := .ins "Plan" [("length", .int len), ("most", .int most), ("names", .tup (nms.map .str)), ("starts", .lst starts), ("paused", .lst paused), ("ranks", .lst ranks)]
theorem plan_init (a b c d e f : D) : F_Plan_init [a, b, c, d, e, f] = some (.ok (.ins "Plan" [("length", a), ("most", b), ("names", c), ("starts", d), ("paused", e), ("ranks", f)])) := by
  simp [F_Plan_init, b_Plan_init, deepD, deepF]
def prsOf : List Sm → List (Nat × Nat)
  | [] => []
  | .pause a b :: r => (a, b) :: prsOf r
  | _ :: r => prsOf r
theorem pauses_prs (ss : List Sm) : pausesOf ss = (prsOf ss).map fun q => pr q.1 q.2 := by
  induction ss with
  | nil => rfl
  | cons s ss ih => cases s <;> simp [pausesOf, prsOf, ih]
def pausedAt (ps : List (Nat × Nat)) (i : Nat) : Bool := ps.any fun q => (decide (q.1 ≤ i) && decide (i ≤ q.2))
theorem bools_map {α : Type} (f : α → Bool) (l : List α) : boolsD (l.map fun x => D.bl (f x)) = some (l.map f) := by
  induction l with
  | nil => rfl
  | cons a l ih => simp [boolsD, ih]
theorem any_eq (ps : List (Nat × Nat)) (hp : p.pa = ps.map fun q => pr q.1 q.2) (hl : ps.length ≤ 900) (i : Nat) (sl : Sl) (h0 : sl[0]? = some (some (.obj 0))) (h10 : sl[10]? = some (some (.val (.int i)))) (hlen : sl.length = 14) :
    e3_Parser_parse_plan sl (PSt toks p []) = some (.ok (.val (.bl (pausedAt ps i))), PSt toks p []) := by
  have w : ∀ j, j ≠ 8 → j ≠ 9 → (wipeS sl [8, 9])[j]? = sl[j]? := fun j h8 h9 => by rw [wipeS_get]; simp [h8, h9]
  have wl : (wipeS sl [8, 9]).length = 14 := by rw [wipeS_length, hlen]
  have e := lc_all (C := fun st => st[4]? = some (.lst (p.pa.map .val))) (g := tgTup 2 (tgCons (tgName 8) (tgCons (tgName 9) tgNil))) (e := e2_Parser_parse_plan) (sl := wipeS sl [8, 9]) (st := PSt toks p [])
    (fun d => match d with | .val (.tup [x, y]) => ((wipeS sl [8, 9]).set 8 (some (.val x))).set 9 (some (.val y)) | _ => [])
    (fun d => match d with | .val (.tup [.int x, .int y]) => .bl (decide (x ≤ i) && decide ((i : Int) ≤ y)) | _ => .non) rfl (p.pa.map .val) ?_ ?_ (by simp [hp]; exact Nat.le_of_lt (sz (by omega)))
  · have e2 : (ps.map fun q => D.bl ((decide (q.1 ≤ i) && decide (i ≤ q.2)))) = ((p.pa.map S.val).map fun d => match d with | .val (.tup [.int x, .int y]) => D.bl (decide (x ≤ i) && decide ((i : Int) ≤ y)) | _ => .non) := by
      rw [hp, List.map_map, List.map_map]
      apply List.map_congr_left
      intro q _
      simp only [Function.comp, pr]
      congr 1
      rw [Bool.eq_iff_iff]; simp
    have e3 := bools_map (fun q : Nat × Nat => (decide (q.1 ≤ i) && decide (i ≤ q.2))) ps
    rw [← e2] at e
    simp [-tgTup, -wipeS, e3_Parser_parse_plan, h0, gIter, e, gAnyAll, e3, pausedAt]
  · intro d hd
    obtain ⟨d', hd', rfl⟩ := List.mem_map.mp hd
    rw [hp] at hd'
    obtain ⟨q, _, rfl⟩ := List.mem_map.mp hd'
    simp [pr, -wipeS]
  · intro d hd
    obtain ⟨d', hd', rfl⟩ := List.mem_map.mp hd
    rw [hp] at hd'
    obtain ⟨q, _, rfl⟩ := List.mem_map.mp hd'
    have w10 := (w 10 (by decide) (by decide)).trans h10
    show e2_Parser_parse_plan (((wipeS sl [8, 9]).set 8 (some (.val (.int q.1)))).set 9 (some (.val (.int q.2)))) _ = some (.ok (.val (.bl (decide ((q.1 : Int) ≤ i) && decide ((i : Int) ≤ q.2)))), _)
    generalize wipeS sl [8, 9] = s0 at wl w10
    have g8 : ((s0.set 8 (some (.val (.int q.1)))).set 9 (some (.val (.int q.2))))[8]? = some (some (.val (.int q.1))) := by rw [List.getElem?_set_ne (by decide), List.getElem?_set_self (by rw [wl]; decide)]
    have g9 : ((s0.set 8 (some (.val (.int q.1)))).set 9 (some (.val (.int q.2))))[9]? = some (some (.val (.int q.2))) := by rw [List.getElem?_set_self (by rw [List.length_set, wl]; decide)]
    have g10 : ((s0.set 8 (some (.val (.int q.1)))).set 9 (some (.val (.int q.2))))[10]? = some (some (.val (.int i))) := by rw [List.getElem?_set_ne (by decide), List.getElem?_set_ne (by decide), w10]
    generalize (s0.set 8 (some (.val (.int q.1)))).set 9 (some (.val (.int q.2))) = s1 at g8 g9 g10
    by_cases hq : (q.1 : Int) ≤ i
    · simp [e2_Parser_parse_plan, g8, g9, g10, hq]
    · simp [e2_Parser_parse_plan, g8, g9, g10, hq]
theorem range_val (n : Nat) (h : n < 2 ^ 62) (st : List O) : gRange1 [.val (.int n)] st = some (.ok ((List.range n).map fun i : Nat => S.val (iD i), always), st) := by
  have h1 : -(2 ^ 62 : Int) ≤ (n : Int) := by omega
  have h2 : (n : Int) < 2 ^ 62 := by omega
  unfold gRange1
  dsimp only
  rw [if_pos ⟨h1, h2⟩]
  simp
theorem paused_eq (ps : List (Nat × Nat)) (hp : p.pa = ps.map fun q => pr q.1 q.2) (hl : ps.length ≤ 900) (hn : len ≤ 1000) (sl : Sl) (h0 : sl[0]? = some (some (.obj 0))) (h1 : sl[1]? = some (some (.val (.int len)))) (hlen : sl.length = 14) :
    eLc [10] (iArgs gRange1 (aCons (eVar 1) aNil)) (tgName 10) tTrue e3_Parser_parse_plan sl (PSt toks p []) = some (.ok (.val (.lst ((List.range len).map fun i => .bl (pausedAt ps i)))), PSt toks p []) := by
  have wl : (wipeS sl [10]).length = 14 := by rw [wipeS_length, hlen]
  have w0 : (wipeS sl [10])[0]? = some (some (.obj 0)) := by rw [wipeS_get]; simp [h0]
  have e := lc_all (C := always) (g := tgName 10) (e := e3_Parser_parse_plan) (sl := wipeS sl [10]) (st := PSt toks p []) (fun d => (wipeS sl [10]).set 10 (some d))
    (fun d => match d with | .val (.int i) => .bl (pausedAt ps i.toNat) | _ => .non) trivial ((List.range len).map fun i : Nat => S.val (iD i)) (fun d _ => rfl) ?_ (by simp; exact Nat.le_of_lt (sz hn))
  · rw [List.map_map] at e
    simp [-tgName, -wipeS, h1, range_val len (by omega), e, Function.comp_def]
  · intro d hd
    obtain ⟨i, _, rfl⟩ := List.mem_map.mp hd
    rw [any_eq ps hp hl i _ (by rw [List.getElem?_set_ne (by decide)]; exact w0) (by rw [List.getElem?_set_self (by rw [wl]; decide)]) (by rw [List.length_set, wl])]
    simp
theorem rest_eq (js : List Nat) (hn : nms.length ≤ 8) (hna : p.na = nms.map .str) (sl : Sl) (h0 : sl[0]? = some (some (.obj 0))) (h11 : sl[11]? = some (some (.val (.lst (js.map iD))))) (hlen : sl.length = 14) :
    eLc [12] (iArgs gRange1 (aCons (eArgs (g1 gLen) (aCons (eFld ["Parser"] "names" (eVar 0)) aNil)) aNil)) (tgName 12) t1_Parser_parse_plan e1_Parser_parse_plan sl (PSt toks p []) =
      some (.ok (.val (.lst (((List.range nms.length).filter fun i => !decide (i ∈ js)).map iD))), PSt toks p []) := by
  have wl : (wipeS sl [12]).length = 14 := by rw [wipeS_length, hlen]
  have w11 : (wipeS sl [12])[11]? = some (some (.val (.lst (js.map iD)))) := by rw [wipeS_get]; simp [h11]
  have e := lc_map (C := always) (g := tgName 12) (t := t1_Parser_parse_plan) (e := e1_Parser_parse_plan) (sl := wipeS sl [12]) (st := PSt toks p []) (fun d => (wipeS sl [12]).set 12 (some d))
    (fun d => match d with | .val (.int i) => !decide (i.toNat ∈ js) | _ => false) (fun d => match d with | .val x => x | _ => .non) trivial ((List.range nms.length).map fun i : Nat => S.val (iD i)) [] (fun d _ => rfl) ?_ ?_ (by simp; exact Nat.le_of_lt (sz (by omega)))
  · rw [List.nil_append, List.filter_map, List.map_map] at e
    simp [-tgName, -wipeS, h0, gLen, hna, range_val nms.length (by omega), e, Function.comp_def]
  · intro d hd
    obtain ⟨i, _, rfl⟩ := List.mem_map.mp hd
    have g11 : ((wipeS sl [12]).set 12 (some (.val (.int i))))[11]? = some (some (.val (.lst (js.map iD)))) := by rw [List.getElem?_set_ne (by decide)]; exact w11
    have g12 : ((wipeS sl [12]).set 12 (some (.val (.int i))))[12]? = some (some (.val (.int i))) := by rw [List.getElem?_set_self (by rw [wl]; decide)]
    generalize (wipeS sl [12]).set 12 (some (.val (.int (i : Int)))) = s1 at g11 g12
    have := in_ints i js (PSt toks p []) true
    simp [t1_Parser_parse_plan, g11, g12, this]
  · intro d hd _
    obtain ⟨i, _, rfl⟩ := List.mem_map.mp hd
    have g12 : ((wipeS sl [12]).set 12 (some (.val (.int i))))[12]? = some (some (.val (.int i))) := by rw [List.getElem?_set_self (by rw [wl]; decide)]
    generalize (wipeS sl [12]).set 12 (some (.val (.int (i : Int)))) = s1 at g12
    simp [e1_Parser_parse_plan, g12]
end G
namespace G
open PySem L2 Cl
variable {toks : List D} {p : PS} {ex ys : List O} {k t : Str} {l c : Int} {nms : List Str} {len : Nat}
theorem two_starts (ss : List Sm) : ((startsOf ss).all fun d => (twoO d).isSome) = true := by
  induction ss with
  | nil => rfl
  | cons s ss ih =>
    cases s with
    | start a b c => rw [startsOf, List.all_cons, ih]; rfl
    | pause a b => exact ih
    | rank js => exact ih
def rankOf (n : Nat) (rs : List (List Nat)) : List Nat := match rs with
  | [] => List.range n
  | js :: _ => js ++ (List.range n).filter fun i => !decide (i ∈ js)
theorem seq_nx {a b : MS} {sl sl' : Sl} {st st' : List O} (h : a sl st = some (.nx, sl', st')) : sSeq a b sl st = b sl' st' := by simp [h]
theorem set_nx {e : ME} {sl : Sl} {st st' : List O} {d : S} {i : Nat} (h : e sl st = some (.ok d, st')) : sSet i e sl st = some (.nx, sl.set i (some d), st') := by simp [h]
theorem bin_ok {g : S → S → M S} {a b : ME} {sl : Sl} {st st1 st2 : List O} {x y : S} (h1 : a sl st = some (.ok x, st1)) (h2 : b sl st1 = some (.ok y, st2)) : eBin g a b sl st = g x y st2 := by simp [h1, h2]
theorem gAdd_lst (a b : List D) (st : List O) (h : a.length + b.length ≤ sizeLine) : gAdd (.val (.lst a)) (.val (.lst b)) st = some (.ok (.val (.lst (a ++ b))), st) := by
  have e : datas (a.map S.val ++ b.map S.val) = some (a ++ b) := by rw [← List.map_append]; exact datas_map _
  simp [gAdd, gCat, e, h]
theorem rank_len {ss : List Sm} {ts : List (List D)} (H : SmTs nms len ss ts) : ∀ js ∈ ranksOf ss, js.length ≤ 100 := by
  induction H with
  | nil => intro js h; cases h
  | cons h0 hs ih =>
    cases h0 with
    | start => exact ih
    | pause => exact ih
    | rank hm nd hl =>
      intro js h
      rcases List.mem_cons.mp h with rfl | h
      · simpa using hl
      · exact ih js h
theorem parse_plan_eq {n : Str × Int × Int} {ns : List (Str × Int × Int)} {k1 k2 k3 tl tm et : Str} {most : Nat} {a1 b1 a2 b2 a3 b3 a4 b4 a5 b5 a6 b6 a7 b7 a8 b8 a9 b9 : Int} {ss : List Sm} {ts : List (List D)} {rest : List D}
    (ok : NmOk ((n :: ns).map (·.1))) (hl : (n :: ns).length ≤ 8) (hs : SmTs ((n :: ns).map (·.1)) len ss ts) (nl : Num tl len) (nm : Num tm most) (hlen : 1 ≤ len ∧ len ≤ 60) (hmost : 1 ≤ most ∧ most ≤ 9) (h20 : (startsOf ss).length ≤ 20) (h900 : (pausesOf ss).length ≤ 900) (h1 : (ranksOf ss).length ≤ 1)
    (h : toks = tokD k1 "round" a1 b1 :: tokD "number" tl a2 b2 :: tokD "sign" ";" a3 b3 :: tokD k2 "open" a4 b4 :: tokD "number" tm a5 b5 :: tokD "sign" ";" a6 b6 :: tokD k3 "valves" a7 b7 :: ((n :: ns).map nmD ++ tokD "sign" ";" a8 b8 :: (ts.flatten ++ tokD "end" et a9 b9 :: rest))) :
    ∃ q, F_Parser_parse_plan [.obj 0] (PSt toks ⟨0, [], [], [], [], .non⟩ []) = some (.ok (.val (planD len most ((n :: ns).map (·.1)) ((startsOf ss).mergeSort leTwo) ((List.range len).map fun i => .bl (pausedAt (prsOf ss) i)) ((rankOf (n :: ns).length (ranksOf ss)).map iD))), PSt toks q []) := by
  have e1 := number_eq (toks := toks) (p := ⟨0, [], [], [], [], .non⟩) (ex := []) (hi := 60) exOk_nil (strOk_lit "round") nl (by omega) (by omega) h
  have d3 : toks.drop 3 = tokD k2 "open" a4 b4 :: tokD "number" tm a5 b5 :: tokD "sign" ";" a6 b6 :: tokD k3 "valves" a7 b7 :: ((n :: ns).map nmD ++ tokD "sign" ";" a8 b8 :: (ts.flatten ++ tokD "end" et a9 b9 :: rest)) := by rw [h]; rfl
  have e2 := number_eq (toks := toks) (p := ⟨3, [], [], [], [], .non⟩) (ex := []) (hi := 9) exOk_nil (strOk_lit "open") nm (by omega) (by omega) d3
  have d6 : toks.drop 6 = tokD k3 "valves" a7 b7 :: ((n :: ns).map nmD ++ tokD "sign" ";" a8 b8 :: (ts.flatten ++ tokD "end" et a9 b9 :: rest)) := by rw [h]; rfl
  have e3 := valves_eq (toks := toks) (p := ⟨6, [], [], [], [], .non⟩) (ex := []) exOk_nil n ns _ d6 rfl ok hl
  have d7 : toks.drop (6 + ((n :: ns).length + 2)) = ts.flatten ++ tokD "end" et a9 b9 :: rest := by
    have := congrArg (List.drop ((n :: ns).length + 2)) d6
    rw [List.drop_drop] at this
    rw [this]
    rw [show (n :: ns).length + 2 = (n :: ns).length + 1 + 1 from rfl, List.drop_succ_cons, show (n :: ns).length + 1 = ((n :: ns).map nmD).length + 1 by simp, ← List.drop_drop, List.drop_left]
    rfl
  have e4 := plan_loop (toks := toks) ok hs ⟨6 + ((n :: ns).length + 2), [], ((n :: ns).map (·.1)).map .str, [], [], .non⟩ (some (.val (.int most)) :: List.replicate 11 none) rfl (by simpa using h20) (by simpa using h900) (.inl ⟨rfl, h1⟩) d7
  simp only [List.nil_append] at e4
  generalize hq : (PS.mk (6 + ((n :: ns).length + 2) + ts.flatten.length) [] (((n :: ns).map (·.1)).map .str) (startsOf ss) (pausesOf ss) (rankD .non (ranksOf ss))) = q at e4
  have qfa : q.fa = [] := by rw [← hq]
  have qna : q.na = ((n :: ns).map (·.1)).map .str := by rw [← hq]
  have qst : q.sts = startsOf ss := by rw [← hq]
  have qpa : q.pa = (prsOf ss).map fun z => pr z.1 z.2 := by rw [← hq]; exact pauses_prs ss
  have qr : q.r = rankD .non (ranksOf ss) := by rw [← hq]
  refine ⟨q, ?_⟩
  have l900 : (prsOf ss).length ≤ 900 := by rw [pauses_prs] at h900; simpa using h900
  have f0 : gNe (.obj 1) (.val (.lst [])) (PSt toks q []) = some (.ok (.val (.bl false)), PSt toks q []) := by
    simp [gNe, gEqB, toPS, toP, toPs, qfa]
    exact ⟨rfl, by simp [PyData.eqv, PyData.eqvAll]⟩
  have f1 := paused_eq (toks := toks) (p := q) (len := len) (prsOf ss) qpa l900 (by omega) [some (.obj 0), some (.val (.int len)), some (.val (.int most)), none, none, none, none, none, none, none, none, none, none, none] rfl rfl rfl
  simp only [List.replicate, List.map_cons, List.map_map, List.length_cons] at e4
  have z0 : (0 : Nat) ≤ sizeLine := Nat.zero_le _
  have body : ∃ sl', b_Parser_parse_plan (mkSl 14 [.obj 0]) (PSt toks ⟨0, [], [], [], [], .non⟩ []) = some (.rt (.val (planD len most ((n :: ns).map (·.1)) ((startsOf ss).mergeSort leTwo) ((List.range len).map fun i => .bl (pausedAt (prsOf ss) i)) ((rankOf (n :: ns).length (ranksOf ss)).map iD))), sl', PSt toks q []) := by
    unfold b_Parser_parse_plan
    have m : mkSl 14 [.obj 0] = [some (.obj 0), none, none, none, none, none, none, none, none, none, none, none, none, none] := rfl
    rw [m, seq_nx (sl' := [some (.obj 0), some (.val (.int len)), none, none, none, none, none, none, none, none, none, none, none, none]) (st' := PSt toks ⟨3, [], [], [], [], .non⟩ []) (by simp [e1])]
    rw [seq_nx (sl' := [some (.obj 0), some (.val (.int len)), some (.val (.int most)), none, none, none, none, none, none, none, none, none, none, none]) (st' := PSt toks ⟨6, [], [], [], [], .non⟩ []) (by simp [e2])]
    rw [seq_nx (sl' := [some (.obj 0), some (.val (.int len)), some (.val (.int most)), none, none, none, none, none, none, none, none, none, none, none]) (st' := PSt toks ⟨6 + (ns.length + 1 + 2), [], .str n.1 :: ns.map (D.str ∘ (·.1)), [], [], .non⟩ []) (by simp [e3])]
    rw [seq_nx e4]
    rw [seq_nx (sl' := [some (.obj 0), some (.val (.int len)), some (.val (.int most)), none, none, none, none, none, none, none, none, none, none, none]) (st' := PSt toks q []) (by simp [Cl.gLst, z0, f0])]
    rw [seq_nx (set_nx f1)]
    simp only [List.set_cons_zero, List.set_cons_succ]
    have rk : ∃ js : List Nat, js.length ≤ 100 ∧ rankOf (n :: ns).length (ranksOf ss) = js ++ (List.range (n :: ns).length).filter (fun i => !decide (i ∈ js)) ∧
        eIf (tBin (gIsN true) (eFld ["Parser"] "ranks" (eVar 0)) (eC .non)) (eFld ["Parser"] "ranks" (eVar 0)) (eArgs Cl.gLst aNil) [some (.obj 0), some (.val (.int len)), some (.val (.int most)), none, none, none, none, some (.val (.lst ((List.range len).map fun i => .bl (pausedAt (prsOf ss) i)))), none, none, none, none, none, none] (PSt toks q []) = some (.ok (.val (.lst (js.map iD))), PSt toks q []) := by
      match hrk : ranksOf ss, h1 with
      | [], _ =>
        rw [hrk] at qr
        refine ⟨[], by simp, by simp only [rankOf, List.not_mem_nil, decide_false, Bool.not_false, List.nil_append]; exact (List.filter_eq_self.mpr (by simp)).symm, ?_⟩
        simp [gIsN, isNonS, qr, rankD, Cl.gLst, z0]
      | js :: r, _ =>
        rw [hrk] at qr
        have hj : js.length ≤ 100 := rank_len hs js (by rw [hrk]; exact List.mem_cons_self)
        refine ⟨js, hj, by simp [rankOf], ?_⟩
        simp [gIsN, isNonS, qr, rankD]
    obtain ⟨js, hj, rk1, rk2⟩ := rk
    rw [seq_nx (set_nx rk2)]
    simp only [List.set_cons_zero, List.set_cons_succ]
    have f2 := rest_eq (toks := toks) (p := q) (nms := (n :: ns).map (·.1)) js (by simpa using hl) qna [some (.obj 0), some (.val (.int len)), some (.val (.int most)), none, none, none, none, some (.val (.lst ((List.range len).map fun i => .bl (pausedAt (prsOf ss) i)))), none, none, none, some (.val (.lst (js.map iD))), none, none] rfl rfl rfl
    have f3 : eBin gAdd (eVar 11) (eLc [12] (iArgs gRange1 (aCons (eArgs (g1 gLen) (aCons (eFld ["Parser"] "names" (eVar 0)) aNil)) aNil)) (tgName 12) t1_Parser_parse_plan e1_Parser_parse_plan) [some (.obj 0), some (.val (.int len)), some (.val (.int most)), none, none, none, none, some (.val (.lst ((List.range len).map fun i => .bl (pausedAt (prsOf ss) i)))), none, none, none, some (.val (.lst (js.map iD))), none, none] (PSt toks q []) =
        some (.ok (.val (.lst ((rankOf (n :: ns).length (ranksOf ss)).map iD))), PSt toks q []) := by
      rw [bin_ok (x := .val (.lst (js.map iD))) (st1 := PSt toks q []) rfl f2, gAdd_lst]
      · rw [rk1, List.map_append, List.length_map]
      · have := List.length_filter_le (fun i => !decide (i ∈ js)) (List.range (n :: ns).length)
        rw [List.length_range] at this
        simp only [List.length_map]
        exact Nat.le_of_lt (sz (by omega))
    rw [seq_nx (set_nx f3)]
    simp only [List.set_cons_zero, List.set_cons_succ]
    have f4 : ∀ sl : Sl, sl[0]? = some (some (.obj 0)) → eSort2 (eFld ["Parser"] "starts" (eVar 0)) sl (PSt toks q []) = some (.ok (.val (.lst ((startsOf ss).mergeSort leTwo))), PSt toks q []) := fun sl h0 => by
      have t2 := two_starts ss
      have g : gSort2 (.obj 3) (PSt toks q []) = some (.ok (.val (.lst ((startsOf ss).mergeSort leTwo))), PSt toks q []) := by
        unfold gSort2
        simp only [lstOf, P_3, qst, Option.bind_some, datas_val]
        rw [if_pos t2]
      simp [h0, g]
    rw [seq_nx (set_nx (i := 13) (f4 _ rfl))]
    simp only [List.set_cons_zero, List.set_cons_succ]
    have g7 : ∀ (l : List Str) (z : Nat), z = l.length → True := fun _ _ _ => trivial
    exact ⟨_, by simp [gTuple, qna, plan_init, planD]; rfl⟩
  obtain ⟨sl', body⟩ := body
  unfold F_Parser_parse_plan asC
  rw [body]
  exact exit_rt0 exOk_nil _ _
end G
namespace G
open PySem L2 Cl
/-! ### a plan's words, and what load makes of them -/
def kyw (s : String) : KW := ("keyword", s.toList.map Char.toNat)
theorem Sc_kyw (s : String) : Sc (kyw s).2 = Str.ofString s := (Sc_of s).symm
def nuw (n : Nat) : KW := ("number", TL.numL n)
def naw (w : List Nat) : KW := ("name", w)
def smW (nms : List (List Nat)) : Sm → List KW
  | .start t j w => [kyw "start", naw (nms.getD j []), nuw t, kyw "for", nuw w, sgn]
  | .pause a b => [kyw "pause", nuw a, nuw b, sgn]
  | .rank js => kyw "rank" :: (js.map fun j => naw (nms.getD j [])) ++ [sgn]
def SmOk (nms : List (List Nat)) (len : Nat) : Sm → Prop
  | .start t j w => j < nms.length ∧ t < len ∧ 1 ≤ w ∧ w ≤ 30
  | .pause a b => b < len ∧ a ≤ b
  | .rank js => js ≠ [] ∧ js.Nodup ∧ ∀ j ∈ js, j < nms.length
theorem Num_num {n : Nat} (h : n < 100) : Num (Sc (TL.numL n)) n := by
  have hl := TL.numL_len (n := n) (k := 2) (by decide) (by omega)
  refine ⟨?_, by rw [Sc_len]; omega, ?_⟩
  · have := TL.int_num (n := n) (by omega)
    rw [SX.num_S] at this
    exact this
  · refine ok_Sc fun c hc => ?_
    have := TL.numL_digits n c hc
    omega
theorem kw_inj {t : Tk} {k : Str} {w : List Nat} (h : kw t = (k, w)) : t.d = tokD k (Sc w) t.l t.c := by
  unfold kw at h
  cases t
  simp only [Prod.mk.injEq] at h
  obtain ⟨rfl, rfl⟩ := h
  rfl
theorem nodup_len : ∀ {n : Nat} {js : List Nat}, js.Nodup → (∀ j ∈ js, j < n) → js.length ≤ n
  | 0, js, _, hj => by
    cases js with
    | nil => simp
    | cons a l => exact absurd (hj a List.mem_cons_self) (by omega)
  | n + 1, js, h, hj => by
    by_cases hm : n ∈ js
    · have h1 := nodup_len (n := n) (h.erase n) fun j hj' => by
        have h2 := hj j (List.mem_of_mem_erase hj')
        have h3 : j ≠ n := fun e => by
          rw [e] at hj'
          exact (h.mem_erase_iff.mp hj').1 rfl
        omega
      rw [List.length_erase_of_mem hm] at h1
      omega
    · have := nodup_len (n := n) h fun j hj' => by
        have h2 := hj j hj'
        have h3 : j ≠ n := fun e => hm (e ▸ hj')
        omega
      omega
theorem sm_toks {nms : List (List Nat)} {len : Nat} (hn8 : nms.length ≤ 8) (hlen : len ≤ 60) {s : Sm} (hs : SmOk nms len s) {ts : List Tk} (h : ts.map kw = smW nms s) : SmT (nms.map Sc) len s (ts.map Tk.d) := by
  have gd : ∀ j, j < nms.length → (nms.map Sc)[j]? = some (Sc (nms.getD j [])) := fun j hj => by
    rw [List.getElem?_map, List.getElem?_eq_getElem hj]
    simp [List.getD, hj]
  cases s with
  | start t j w =>
    obtain ⟨h1, h2, h3, h4⟩ := hs
    simp only [smW] at h
    obtain ⟨t1, r1, rfl, e1, h⟩ := List.map_eq_cons_iff.mp h
    obtain ⟨t2, r2, rfl, e2, h⟩ := List.map_eq_cons_iff.mp h
    obtain ⟨t3, r3, rfl, e3, h⟩ := List.map_eq_cons_iff.mp h
    obtain ⟨t4, r4, rfl, e4, h⟩ := List.map_eq_cons_iff.mp h
    obtain ⟨t5, r5, rfl, e5, h⟩ := List.map_eq_cons_iff.mp h
    obtain ⟨t6, r6, rfl, e6, h⟩ := List.map_eq_cons_iff.mp h
    rw [List.map_eq_nil_iff.mp h]
    simp only [List.map_cons, List.map_nil]
    rw [kw_inj e1, kw_inj e2, kw_inj e3, kw_inj e4, kw_inj e5, kw_inj e6, ← Sc_of, ← Sc_of, ← lit_semi]
    exact .start (gd j h1) (Num_num (by omega)) (Num_num (by omega)) h2 h3 h4 (by simp) (strOk_lit _)
  | pause a b =>
    obtain ⟨h1, h2⟩ := hs
    simp only [smW] at h
    obtain ⟨t1, r1, rfl, e1, h⟩ := List.map_eq_cons_iff.mp h
    obtain ⟨t2, r2, rfl, e2, h⟩ := List.map_eq_cons_iff.mp h
    obtain ⟨t3, r3, rfl, e3, h⟩ := List.map_eq_cons_iff.mp h
    obtain ⟨t4, r4, rfl, e4, h⟩ := List.map_eq_cons_iff.mp h
    rw [List.map_eq_nil_iff.mp h]
    simp only [List.map_cons, List.map_nil]
    rw [kw_inj e1, kw_inj e2, kw_inj e3, kw_inj e4, ← Sc_of, ← lit_semi]
    exact .pause (Num_num (by omega)) (Num_num (by omega)) h1 h2 (by simp) (strOk_lit _)
  | rank js =>
    obtain ⟨h1, h2, h3⟩ := hs
    simp only [smW, List.cons_append] at h
    obtain ⟨t1, r1, rfl, e1, h⟩ := List.map_eq_cons_iff.mp h
    obtain ⟨r2, r3, rfl, h4, h5⟩ := List.map_eq_append_iff.mp h
    obtain ⟨t6, r6, rfl, e6, h⟩ := List.map_eq_cons_iff.mp h5
    rw [List.map_eq_nil_iff.mp h]
    simp only [List.map_cons, List.map_nil, List.map_append]
    rw [kw_inj e1, kw_inj e6, ← Sc_of, ← lit_semi]
    -- the names
    have key : ∀ (js : List Nat) (r2 : List Tk), r2.map kw = (js.map fun j => naw (nms.getD j [])) → (∀ j ∈ js, j < nms.length) → ∃ ns : List (Nat × Str × Int × Int), ns.map (·.1) = js ∧ (ns.map fun n => nmD n.2) = r2.map Tk.d ∧ ∀ m ∈ ns, (nms.map Sc)[m.1]? = some m.2.1 := by
      intro js
      induction js with
      | nil => intro r2 h _; rw [List.map_nil, List.map_eq_nil_iff] at h; subst h; exact ⟨[], rfl, rfl, by simp⟩
      | cons j js ih =>
        intro r2 h hj
        rw [List.map_cons] at h
        obtain ⟨t, r, rfl, e, h⟩ := List.map_eq_cons_iff.mp h
        obtain ⟨ns, i1, i2, i3⟩ := ih r h fun j hj' => hj j (List.mem_cons_of_mem _ hj')
        refine ⟨(j, Sc (nms.getD j []), t.l, t.c) :: ns, by rw [List.map_cons, i1], ?_, ?_⟩
        · rw [List.map_cons, List.map_cons, i2, kw_inj e]
        · intro m hm
          rcases List.mem_cons.mp hm with rfl | hm
          · exact gd j (hj j List.mem_cons_self)
          · exact i3 m hm
    obtain ⟨ns, i1, i2, i3⟩ := key js r2 h4 h3
    rw [← i2]
    match ns, i1 with
    | [], i1 => exact absurd i1.symm h1
    | n :: ns, i1 =>
      have := SmT.rank (nms := nms.map Sc) (len := len) (n := n) (ns := ns) (k1 := "keyword") (l := t1.l) (c := t1.c) (l2 := t6.l) (c2 := t6.c) i3 (by rw [i1]; exact h2) (by
        have := nodup_len h2 h3
        have e := congrArg List.length i1
        rw [List.length_map] at e
        rw [e]; omega) (by simp) (strOk_lit _)
      rw [i1] at this
      exact this
theorem sms_toks {nms : List (List Nat)} {len : Nat} (hn8 : nms.length ≤ 8) (hlen : len ≤ 60) : ∀ (ss : List Sm) (ts : List Tk), (∀ s ∈ ss, SmOk nms len s) → ts.map kw = (ss.map (smW nms)).flatten → ∃ gs : List (List D), gs.flatten = ts.map Tk.d ∧ SmTs (nms.map Sc) len ss gs
  | [], ts, _, h => by
    simp at h
    subst h
    exact ⟨[], rfl, .nil⟩
  | s :: ss, ts, hs, h => by
    rw [List.map_cons, List.flatten_cons] at h
    obtain ⟨r2, r3, rfl, h4, h5⟩ := List.map_eq_append_iff.mp h
    obtain ⟨gs, i1, i2⟩ := sms_toks hn8 hlen ss r3 (fun s hs' => hs s (List.mem_cons_of_mem _ hs')) h5
    exact ⟨r2.map Tk.d :: gs, by rw [List.flatten_cons, i1, List.map_append], .cons (sm_toks hn8 hlen (hs s List.mem_cons_self) h4) i2⟩
def headW (len most : Nat) (nms : List (List Nat)) : List KW := [kyw "round", nuw len, sgn, kyw "open", nuw most, sgn, kyw "valves"] ++ (nms.map naw ++ [sgn])
end G
namespace G
open PySem L2 Cl
/-! ### stores that stand below -/
theorem get_l {s t : List O} {k : Nat} (h : k < s.length) : (s ++ t)[k]? = s[k]? := List.getElem?_append_left h
theorem set_l {s t : List O} {k : Nat} {o : O} (h : k < s.length) : (s ++ t).set k o = s.set k o ++ t := List.set_append_left _ _ h
theorem get_r {s t : List O} {n : Nat} (i : Nat) (h : s.length = n) : (s ++ t)[n + i]? = t[i]? := by
  subst h; rw [List.getElem?_append_right (by omega)]; congr 1; omega
theorem set_r {s t : List O} {n : Nat} (i : Nat) {o : O} (h : s.length = n) : (s ++ t).set (n + i) o = s ++ t.set i o := by
  subst h; rw [List.set_append_right _ _ (by omega)]; congr 2; omega
theorem get_r0 {s t : List O} {n : Nat} {a : O} (h : s.length = n) : (s ++ a :: t)[n]? = some a := get_r (t := a :: t) 0 h
theorem set_r0 {s t : List O} {n : Nat} {a o : O} (h : s.length = n) : (s ++ a :: t).set n o = s ++ o :: t := set_r (t := a :: t) 0 h
/-- nothing in a store refers beyond it -/
def Closed (st : List O) : Prop := st.all (belowO st.length) = true
theorem belowS_mono {n m : Nat} {x : S} (h : belowS n x = true) (hm : n ≤ m) : belowS m x = true := by
  cases x with
  | val d => rfl
  | obj k => simp only [belowS, decide_eq_true_eq] at h ⊢; omega
theorem belowO_mono {n m : Nat} {o : O} (h : belowO n o = true) (hm : n ≤ m) : belowO m o = true := by
  cases o with
  | lst l => simp only [belowO, List.all_eq_true] at h ⊢; exact fun s hs => belowS_mono (h s hs) hm
  | ins n fs => simp only [belowO, List.all_eq_true] at h ⊢; exact fun s hs => belowS_mono (h s hs) hm
  | dct l => simp only [belowO, List.all_eq_true] at h ⊢; exact fun s hs => belowS_mono (h s hs) hm
  | frz d => rfl
theorem below_dO (n : Nat) (d : List Int) : belowO n (dO d) = true := by
  unfold dO belowO
  simp
theorem closed_set {st : List O} {k : Nat} {o : O} (h : Closed st) (ho : belowO st.length o = true) : Closed (st.set k o) := by
  unfold Closed at h ⊢
  rw [List.length_set, List.all_eq_true] at *
  intro x hx
  rcases List.mem_or_eq_of_mem_set hx with h1 | h1
  · exact h x h1
  · rw [h1]; exact ho
theorem closed_dO {st : List O} {k : Nat} {d : List Int} (h : Closed st) : Closed (st.set k (dO d)) := closed_set h (below_dO _ _)
/-- what a def of kind C leaves -/
theorem exitC_rt {st ys : List O} {n : Nat} {d : D} {sl : Sl} (h : Closed st) (hn : st.length = n) : exitC n (some (.rt (.val d), sl, st ++ ys)) = some (.ok (.val d), st) := by
  subst hn
  unfold exitC
  dsimp only
  rw [if_pos, List.take_left]
  refine ⟨by simp, ?_⟩
  rw [List.take_left]; exact h
theorem exitC_rt0 {st : List O} {n : Nat} {d : D} {sl : Sl} (h : Closed st) (hn : st.length = n) : exitC n (some (.rt (.val d), sl, st)) = some (.ok (.val d), st) := by
  have := exitC_rt (ys := []) (d := d) (sl := sl) h hn
  rwa [List.append_nil] at this
theorem okP_le (b : Bool) {n : Nat} {l : List D} (h : ∀ d ∈ l, okP b n d = true) : okP b (n + 1) (.lst l) = true := by rw [okP, okPs_iff]; exact h
theorem erase_perm {α : Type} : ∀ {l : List α} {j : Nat} (h : j < l.length), (l[j] :: l.eraseIdx j).Perm l
  | a :: l, 0, _ => List.Perm.refl _
  | a :: l, j + 1, h => by
    simp only [List.getElem_cons_succ, List.eraseIdx_cons_succ]
    exact (List.Perm.swap a _ _).trans (List.Perm.cons a (erase_perm (Nat.lt_of_succ_lt_succ h)))
theorem seqIx {j n : Nat} (h : j < n) : seqIndex? (j : Int) n = some j := by
  unfold seqIndex?
  simp
  omega
theorem map_erase {α β : Type} (f : α → β) : ∀ (l : List α) (j : Nat), (l.map f).eraseIdx j = (l.eraseIdx j).map f
  | [], _ => rfl
  | _ :: _, 0 => rfl
  | a :: l, j + 1 => by simp [map_erase f l j]
theorem set_self {α : Type} : ∀ {l : List α} {k : Nat} {a : α}, l[k]? = some a → l.set k a = l
  | [], _, _, h => by simp at h
  | b :: l, 0, a, h => by simp at h; simp [h]
  | b :: l, k + 1, a, h => by
    simp at h
    simp [set_self h]
/-! ### shuffled -/
theorem shuf_loop {st : List O} {k : Nat} {x : Option S} {n : Nat} (hn : st.length = n) (hkl : k < st.length) : ∀ (m : Nat) (pool res : List D) (d : List Int), pool.length = m → GoodD d → (∀ y ∈ pool, okP false 50 y = true) → pool.length + res.length ≤ 1000 →
    ∃ (out : List D) (d' : List Int), GoodD d' ∧ out.Perm pool ∧ sWhile c1__law_shuffled l1__law_shuffled [some (.obj k), x, some (.obj n), some (.obj (n + 1))] (st.set k (dO d) ++ [.lst (pool.map .val), .lst (res.map .val)]) =
      some (.nx, [some (.obj k), x, some (.obj n), some (.obj (n + 1))], st.set k (dO d') ++ [.lst [], .lst ((res ++ out).map .val)]) := by
  intro m
  induction m with
  | zero =>
    intro pool res d hp hd ho hl
    have := List.length_eq_zero_iff.mp hp
    subst this
    refine ⟨[], d, hd, List.Perm.nil, ?_⟩
    have hlen : (st.set k (dO d)).length = n := by rw [List.length_set]; exact hn
    have g2 : (st.set k (dO d) ++ [O.lst ([].map S.val), .lst (res.map .val)])[n]? = some (.lst []) := get_r0 hlen
    have hne := gEqB_eq (x := .obj n) (y := .val (.lst [])) (st := st.set k (dO d) ++ [O.lst ([].map S.val), .lst (res.map .val)]) (a := .lst []) (b := .lst []) true (by simp only [asD, lstOf, g2]; rfl) rfl (by simp [okP, okPs]) (by simp [okP, okPs])
    rw [while_stop (st1 := st.set k (dO d) ++ [O.lst ([].map S.val), .lst (res.map .val)])]
    · simp
    · simp only [List.map_nil] at g2 hne ⊢
      simp [c1__law_shuffled, g2, Cl.gLst, hne]
  | succ m ih =>
    intro pool res d hp hd ho hl
    have hlen : (st.set k (dO d)).length = n := by rw [List.length_set]; exact hn
    obtain ⟨j, d1, hj, hd1, hb⟩ := below_eq (d := d) hd (n := pool.length) (by omega) (by omega) (k := k) (st := st.set k (dO d) ++ [.lst (pool.map .val), .lst (res.map .val)]) (by rw [get_l (by rw [List.length_set]; exact hkl), List.getElem?_set_self hkl])
    rw [set_l (by rw [List.length_set]; exact hkl), List.set_set] at hb
    have hlen1 : (st.set k (dO d1)).length = n := by rw [List.length_set]; exact hn
    obtain ⟨out, d', h1, h2, h3⟩ := ih (pool.eraseIdx j) (res ++ [pool[j]]) d1 (by rw [List.length_eraseIdx_of_lt hj]; omega) hd1 (fun y hy => ho y (List.mem_of_mem_eraseIdx hy)) (by rw [List.length_eraseIdx_of_lt hj, List.length_append, List.length_singleton]; omega)
    refine ⟨pool[j] :: out, d', h1, ?_, ?_⟩
    · exact (List.Perm.cons _ h2).trans (erase_perm hj)
    · have g2 : ∀ (e : List Int) (a b : O), (st.set k (dO e) ++ [a, b])[n]? = some a := fun e a b => get_r0 (by rw [List.length_set]; exact hn)
      have g3 : ∀ (e : List Int) (a b : O), (st.set k (dO e) ++ [a, b])[n + 1]? = some b := fun e a b => get_r (t := [a, b]) 1 (by rw [List.length_set]; exact hn)
      have s2 : ∀ (e : List Int) (a b o : O), (st.set k (dO e) ++ [a, b]).set n o = st.set k (dO e) ++ [o, b] := fun e a b o => set_r0 (by rw [List.length_set]; exact hn)
      have s3 : ∀ (e : List Int) (a b o : O), (st.set k (dO e) ++ [a, b]).set (n + 1) o = st.set k (dO e) ++ [a, o] := fun e a b o => set_r (t := [a, b]) 1 (by rw [List.length_set]; exact hn)
      have gk : ∀ (e : List Int) (a b : O), (st.set k (dO e) ++ [a, b])[k]? = some (.lst (e.map iV)) := fun e a b => by rw [get_l (by rw [List.length_set]; exact hkl), List.getElem?_set_self hkl]; rfl
      have hne := gEqB_eq (x := .obj n) (y := .val (.lst [])) (st := st.set k (dO d) ++ [.lst (pool.map .val), .lst (res.map .val)]) (a := .lst pool) (b := .lst []) true (by simp only [asD, lstOf, g2, datas_val]; rfl) rfl (okP_le _ (n := 59) fun y hy => okP_mono (ho y hy) (by omega)) (by simp [okP, okPs])
      have ne : (D.lst pool) ≠ .lst [] := fun e => by
        simp only [D.lst.injEq] at e
        rw [e] at hp; cases hp
      rw [eqD_ne ne] at hne
      rw [while_go (st1 := st.set k (dO d) ++ [.lst (pool.map .val), .lst (res.map .val)]) (sl2 := [some (.obj k), x, some (.obj n), some (.obj (n + 1))]) (st2 := st.set k (dO d1) ++ [.lst ((pool.eraseIdx j).map .val), .lst ((res ++ [pool[j]]).map .val)])]
      · rw [h3]; simp
      · simp [c1__law_shuffled, g2, Cl.gLst, hne]
      · have e1 : (pool.map S.val)[j]? = some (.val pool[j]) := by rw [List.getElem?_map, List.getElem?_eq_getElem hj]; rfl
        have e2 : seqIndex? (j : Int) (pool.map S.val).length = some j := seqIx (by rw [List.length_map]; exact hj)
        have e3 : (pool.map S.val).eraseIdx j = (pool.eraseIdx j).map S.val := map_erase _ _ _
        have z : res.length < sizeLine := sizes (by omega)
        have b1 : -9223372036854775808 ≤ (j : Int) := by omega
        have b2 : (j : Int) < 9223372036854775808 := by omega
        rw [List.length_map] at e2
        have hb' : F__law_below [S.obj k, iV pool.length] (st.set k (dO d) ++ [O.lst (pool.map .val), .lst (res.map .val)]) = _ := hb
        simp [l1__law_shuffled, g2, g3, s2, s3, gk, gLen, hb', gPopAt, b1, b2, e2, e1, e3, gAppend, z]
theorem shuffled_eq {st : List O} {k : Nat} {d : List Int} {items : List D} (hk : st[k]? = some (dO d)) (hd : GoodD d) (hc : Closed st) (hi : ∀ y ∈ items, okP false 50 y = true) (hl : items.length ≤ 1000) :
    ∃ (out : List D) (d' : List Int), GoodD d' ∧ out.Perm items ∧ F__law_shuffled [.obj k, .val (.lst items)] st = some (.ok (.val (.lst out)), st.set k (dO d')) := by
  have hkl : k < st.length := (List.getElem?_eq_some_iff.mp hk).1
  obtain ⟨out, d', h1, h2, h3⟩ := shuf_loop (x := some (.val (.lst items))) rfl hkl items.length items [] d rfl hd hi (by simpa using hl)
  refine ⟨out, d', h1, h2, ?_⟩
  rw [set_self hk, List.nil_append, List.map_nil] at h3
  have hk2 : st[k]? = some (.lst (d.map iV)) := hk
  have z : items.length ≤ sizeLine := Nat.le_of_lt (sizes (by omega))
  have hlen : (st.set k (dO d')).length = st.length := List.length_set
  have g3 : (st.set k (dO d') ++ [O.lst [], .lst (out.map .val)])[st.length + 1]? = some (.lst (out.map .val)) := get_r (t := [O.lst [], .lst (out.map .val)]) 1 hlen
  have s3 : ∀ o, (st.set k (dO d') ++ [O.lst [], .lst (out.map .val)]).set (st.length + 1) o = st.set k (dO d') ++ [O.lst [], o] := fun o => set_r (t := [O.lst [], .lst (out.map .val)]) 1 hlen
  have he := exitC_rt (ys := [O.lst [], .frz (.lst out)]) (d := .lst out) (sl := [some (.obj k), some (.val (.lst items)), some (.obj st.length), some (.obj (st.length + 1))]) (closed_dO (d := d') (k := k) hc) hlen
  simp [-exitC, F__law_shuffled, b__law_shuffled, gListO, gLstO, z, hk2, h3, g3, s3, he]
end G
namespace G
open PySem L2 Cl
/-! ### runs of paused ticks -/
def runStep (fs : List (Nat × Nat)) (t : Nat) : List (Nat × Nat) := match fs.getLast? with
  | some (a, b) => if b + 1 = t then fs.dropLast ++ [(a, t)] else fs ++ [(t, t)]
  | none => [(t, t)]
def runsL (ps : List Nat) : List (Nat × Nat) := ps.foldl runStep []
abbrev prV (q : Nat × Nat) : S := .val (pr q.1 q.2)
theorem okP_pr (b : Bool) (n : Nat) (q : Nat × Nat) : okP b (n + 1) (pr q.1 q.2) = true := by simp [pr, okP, okPs]
theorem okP_prs (b : Bool) (n : Nat) (l : List (Nat × Nat)) : okP b (n + 1 + 1) (.lst (l.map fun q => pr q.1 q.2)) = true := by
  rw [okP, okPs_iff]
  intro d hd
  obtain ⟨q, _, rfl⟩ := List.mem_map.mp hd
  exact okP_pr b n q
theorem runStep_nil (t : Nat) : runStep [] t = [(t, t)] := rfl
theorem runStep_app (fs : List (Nat × Nat)) (a b t : Nat) : runStep (fs ++ [(a, b)]) t = if b + 1 = t then fs ++ [(a, t)] else fs ++ [(a, b), (t, t)] := by
  unfold runStep
  rw [List.getLast?_concat]
  simp
theorem runStep_len (fs : List (Nat × Nat)) (t : Nat) : (runStep fs t).length ≤ fs.length + 1 := by
  unfold runStep
  split
  · split
    · simp
    · simp
  · simp
theorem cut_last (l : List D) (x : D) : cutD (l ++ [x]) none (some (-1)) = l := by
  unfold cutD
  have e : HT.sIx (l ++ [x]).length (l ++ [x]).length (some (-1)) = l.length := by
    unfold HT.sIx
    simp
    omega
  rw [e, HT.sIx_none]
  simp
theorem deepL_vals {α : Type} (f : α → D) (n : Nat) (st : List O) : ∀ l : List α, deepL n st (l.map fun a => S.val (f a)) = some (l.map f)
  | [] => by simp [deepL]
  | a :: l => by simp [deepL, deepD, deepL_vals f n st l]
theorem atIm1 {α : Type} (l : List α) (x : α) : atI (l ++ [x]) (-1) = some x := Cl.atI_last
theorem runs_body (P : Option S) (fs : List (Nat × Nat)) (k : Nat) (st : List O) (t : Nat) (hk : st[k]? = some (.lst (fs.map prV))) (hl : fs.length ≤ 1000) :
    ∃ k' st', l1__law_runs [P, some (.obj k), some (iV t)] st = some (.nx, [P, some (.obj k'), some (iV t)], st') ∧ st'[k']? = some (.lst ((runStep fs t).map prV)) := by
  have hkl : k < st.length := (List.getElem?_eq_some_iff.mp hk).1
  have hz : fs.length < sizeLine := sizes (by omega)
  have dd : datas (fs.map prV) = some (fs.map fun q => pr q.1 q.2) := datas_comp (fun q : Nat × Nat => pr q.1 q.2) fs
  have hne := gEqB_eq (x := .obj k) (y := .val (.lst [])) (st := st) (a := .lst (fs.map fun q => pr q.1 q.2)) (b := .lst []) true (by simp [asD, hk, dd]) rfl (okP_prs _ _ _) (by simp [okP, okPs])
  rcases List.eq_nil_or_concat fs with rfl | ⟨L, q, rfl⟩
  · refine ⟨k, st.set k (.lst [prV (t, t)]), ?_, ?_⟩
    · simp [l1__law_runs, hk, Cl.gLst, hne, Cl.gTup, gAppend, prV, pr]
    · rw [List.getElem?_set_self hkl, runStep_nil]; rfl
  · simp only [List.concat_eq_append] at *
    have dl : datas (L.map prV) = some (L.map fun q => pr q.1 q.2) := datas_comp (fun q : Nat × Nat => pr q.1 q.2) L
    have hk2 : st[k]? = some (.lst (L.map prV ++ [prV q])) := by rw [hk]; simp
    have he : ¬ (D.lst ((L ++ [q]).map fun q => pr q.1 q.2) = D.lst []) := by simp
    rw [eqD_ne he] at hne
    obtain ⟨a, b⟩ := q
    rw [runStep_app]
    simp only [List.length_append, List.length_singleton] at hz hl
    by_cases hb : b + 1 = t
    · subst hb
      have e1 : (b : Int) = ((b + 1 : Nat) : Int) - 1 := by omega
      refine ⟨st.length, st ++ [.lst ((L ++ [(a, b + 1)]).map prV)], ?_, by simp⟩
      have z : L.length + 1 ≤ sizeLine := Nat.le_of_lt hz
      simp [l1__law_runs, hk2, Cl.gLst, hne, gIx, atIm1, prV, pr, atI0, atI1, gEq_int, gSl, dl, cut_last, Cl.gTup, gCatO, z]
    · have e1 : ¬ (b : Int) = (t : Int) - 1 := by omega
      refine ⟨k, st.set k (.lst ((L ++ [(a, b), (t, t)]).map prV)), ?_, ?_⟩
      · simp [l1__law_runs, hk2, Cl.gLst, hne, gIx, atIm1, prV, pr, atI0, atI1, gEq_int, e1, Cl.gTup, gAppend, hz]
      · rw [if_neg hb, List.getElem?_set_self hkl]
theorem law_runs_eq (ps : List Nat) (hl : ps.length ≤ 1000) : F__law_runs [.lst (ps.map iD)] = some (.ok (.lst ((runsL ps).map fun q => pr q.1 q.2))) := by
  obtain ⟨sl', st', h1, h2⟩ := for_ex (C := always) (g := tgName 2) (b := l1__law_runs) (fun t : Nat => S.val (iD t))
    (fun rem sl st => ∃ (fs : List (Nat × Nat)) (k : Nat) (x : Option S), fs.length + rem.length ≤ 1000 ∧ rem.foldl runStep fs = runsL ps ∧ sl = [some (.val (.lst (ps.map iD))), some (.obj k), x] ∧ st[k]? = some (.lst (fs.map prV))) (fun _ _ _ _ => trivial)
    ps [some (.val (.lst (ps.map iD))), some (.obj 0), none] [.lst []] ⟨[], 0, none, by simpa using hl, rfl, rfl, rfl⟩ (fun t rem sl st h => by
      obtain ⟨fs, k, x, h1, h2, rfl, h3⟩ := h
      simp only [List.length_cons] at h1
      obtain ⟨k', st', h4, h5⟩ := runs_body (some (.val (.lst (ps.map iD)))) fs k st t h3 (by omega)
      refine ⟨_, _, _, _, rfl, h4, runStep fs t, k', _, ?_, h2, rfl, h5⟩
      have := runStep_len fs t
      omega)
  obtain ⟨fs, k, x, _, h2, rfl, h3⟩ := h2
  simp only [List.foldl_nil] at h2
  subst h2
  have dd : ∀ (n : Nat) (st : List O) (l : List (Nat × Nat)), deepL n st (l.map prV) = some (l.map fun q => pr q.1 q.2) := fun n st l => deepL_vals _ _ _ _
  have h1' : forL always (tgName 2) l1__law_runs (ps.map (S.val ∘ iD)) [some (.val (.lst (ps.map iD))), some (.obj 0), none] [.lst []] = some (.nx, [some (.val (.lst (ps.map iD))), some (.obj k), x], st') := h1
  simp [F__law_runs, b__law_runs, gLstO, gIter, h1', h3, deepD, dd]
end G
namespace G
open PySem L2 Cl
/-! ### plans, as the laws hold them -/
structure Pl where
  len : Nat
  most : Nat
  nms : List (List Nat)
  rks : List Nat
  sts : List (Nat × Nat × Nat)
  pau : List Nat
abbrev triD (s : Nat × Nat × Nat) : D := tri s.1 s.2.1 s.2.2
def strL (w : List Nat) : D := .str (Sc w)
def Pl.d (p : Pl) : D := .tup [.int p.len, .int p.most, .tup (p.nms.map strL), .lst (p.rks.map iD), .lst (p.sts.map triD), .lst (p.pau.map iD)]
structure Pok (p : Pl) : Prop where
  l1 : 1 ≤ p.len
  l2 : p.len ≤ 60
  m1 : 1 ≤ p.most
  m2 : p.most ≤ 9
  n1 : p.nms ≠ []
  n2 : p.nms.length ≤ 8
  nd : p.nms.Nodup
  nw : ∀ w ∈ p.nms, NmW w
  rk : p.rks.Perm (List.range p.nms.length)
  st : ∀ s ∈ p.sts, s.1 < p.len ∧ s.2.1 < p.nms.length ∧ 1 ≤ s.2.2 ∧ s.2.2 ≤ 30
  s20 : p.sts.length ≤ 20
  srt : p.sts.Pairwise fun a b => a.1 < b.1 ∨ (a.1 = b.1 ∧ a.2.1 ≤ b.2.1)
  pa : p.pau.Pairwise (· < ·)
  pl : ∀ t ∈ p.pau, t < p.len
/-- its lines' words -/
def Pl.lines (p : Pl) : List (List KW) :=
  [[kyw "round", nuw p.len], [kyw "open", nuw p.most], kyw "valves" :: p.nms.map naw] ++
  (if p.rks = List.range p.nms.length then [] else [kyw "rank" :: p.rks.map fun j => naw (p.nms.getD j [])]) ++
  (p.sts.map fun s => [kyw "start", naw (p.nms.getD s.2.1 []), nuw s.1, kyw "for", nuw s.2.2]) ++
  ((runsL p.pau).map fun q => [kyw "pause", nuw q.1, nuw q.2])
def Pl.text (p : Pl) : List Nat := TL.joinL [10] (p.lines.map lineOf)
def wD (ws : List KW) : D := .lst (ws.map fun x => strL x.2)
theorem gStr_nat (n : Nat) (h : n < 1000000000000000000000) (st : List O) : gStr (.val (.int n)) st = some (.ok (.val (strL (TL.numL n))), st) := by
  have e : (toString ((n : Nat) : Int) : Str) = Sc (TL.numL n) := SX.num_S n
  have hl : ((n : Int)).natAbs.log2 < 1920 := by
    rw [Int.natAbs_natCast]
    rcases Nat.eq_zero_or_pos n with h0 | h0
    · subst h0; decide
    · exact (Nat.log2_lt (by omega)).mpr (Nat.lt_trans h (by decide))
  unfold gStr
  dsimp only
  rw [if_pos hl, e]
  rfl
theorem kyw_str (s : String) : D.str (Str.ofString s) = strL (kyw s).2 := by rw [strL, Sc_kyw]
theorem names_at {p : Pl} (h : Pok p) {j : Nat} (hj : j < p.nms.length) (st : List O) : gIx (.val (.tup (p.nms.map strL))) (.val (.int j)) st = some (.ok (.val (strL (p.nms.getD j []))), st) := by
  have e : ((p.nms.map strL).map S.val)[j]? = some (.val (strL (p.nms.getD j []))) := by
    rw [List.getElem?_map, List.getElem?_map, List.getElem?_eq_getElem hj]
    simp [List.getD, hj]
  simp [gIx, -List.map_map, Cl.atI_nat e]
theorem rks_lt {p : Pl} (h : Pok p) {j : Nat} (hj : j ∈ p.rks) : j < p.nms.length := List.mem_range.mp (h.rk.mem_iff.mp hj)
theorem rks_len {p : Pl} (h : Pok p) : p.rks.length = p.nms.length := by rw [h.rk.length_eq, List.length_range]
theorem okP_ints (b : Bool) (n : Nat) (l : List Nat) : okP b (n + 1) (.lst (l.map iD)) = true := by
  rw [okP, okPs_iff]
  intro d hd
  obtain ⟨q, _, rfl⟩ := List.mem_map.mp hd
  simp [okP]
theorem eqD_ints (l m : List Nat) : eqD (.lst (l.map iD)) (.lst (m.map iD)) = decide (l = m) := by
  refine eqD_dec ⟨fun h => ?_, fun h => by rw [h]⟩
  simp only [D.lst.injEq] at h
  exact (List.map_inj_right (fun a b e => by simp only [D.int.injEq] at e; omega)).mp h
theorem rgD_nat (n : Nat) : rgD 0 n = (List.range n).map iD := by simp [rgD]
end G
namespace G
open PySem L2 Cl
abbrev T3 := Nat × Nat × Nat
def lt3 (a b : T3) : Prop := a.1 < b.1 ∨ (a.1 = b.1 ∧ (a.2.1 < b.2.1 ∨ (a.2.1 = b.2.1 ∧ a.2.2 < b.2.2)))
instance (a b : T3) : Decidable (lt3 a b) := inferInstanceAs (Decidable (_ ∨ _))
def le3 (a b : T3) : Bool := !decide (lt3 b a)
theorem le3_trans (a b c : T3) (h1 : le3 a b = true) (h2 : le3 b c = true) : le3 a c = true := by
  unfold le3 at *
  rw [Bool.not_eq_true', decide_eq_false_iff_not] at *
  unfold lt3 at *
  omega
theorem le3_total (a b : T3) : (le3 a b || le3 b a) = true := by
  unfold le3
  rw [Bool.or_eq_true, Bool.not_eq_true', Bool.not_eq_true', decide_eq_false_iff_not, decide_eq_false_iff_not]
  unfold lt3
  omega
def triP (a : T3) : PyData := .tuple [.int a.1, .int a.2.1, .int a.2.2]
theorem enc_tri (a : T3) : encD (triD a) = triP a := by
  simp [encD, triD, tri, toP, toPs, triP]
theorem lt_tri (a b : T3) : PySem.W.dataLt (triP a) (triP b) = decide (lt3 a b) := by
  unfold triP
  rw [PySem.W.dataLt_tuple, PySem.W.dataLt_cons (by simp [PySem.W.alike]), PySem.W.dataLt_cons (by simp [PySem.W.alike]), PySem.W.dataLt_cons (by simp [PySem.W.alike])]
  have e : PyProof.Rows.lexLt PyProof.Rows.itemOrd (PySem.W.keyToksAll []) (PySem.W.keyToksAll []) = false := PyProof.Rows.lex_irrefl _
  rw [e, PySem.W.dataLt_int, PySem.W.dataLt_int, PySem.W.dataLt_int]
  simp only [PyData.eqv, beq_iff_eq]
  rw [Bool.eq_iff_iff, decide_eq_true_iff]
  unfold lt3
  split
  · split
    · split
      · simp only [Bool.false_eq_true, false_iff]; omega
      · rw [decide_eq_true_iff]; omega
    · rw [decide_eq_true_iff]; omega
  · rw [decide_eq_true_iff]; omega
theorem sorted_tri (ts : List T3) (st : List O) : gSorted (.val (.lst (ts.map triD))) st = some (.ok (.val (.lst ((ts.mergeSort le3).map triD))), st) := by
  have e1 : toPs (ts.map triD) = some (ts.map triP) := by
    induction ts with
    | nil => simp [toPs]
    | cons a l ih => rw [List.map_cons, toPs, ih, List.map_cons]; simp [triD, tri, toP, toPs, triP]
  have e2 : alikesB (ts.map triP) = true := by
    unfold alikesB
    simp [List.all_eq_true, triP, PySem.W.alike, PySem.W.alikeAll]
  have e3 : sortB (ts.map triP) = true := by
    unfold sortB
    rw [Bool.or_eq_true]
    left
    simp [List.all_eq_true, triP]
  have e4 : ((ts.map triP).all fun p => decide (p.depth ≤ 60)) = true := by
    simp [List.all_eq_true, triP, PyData.depth, PyData.depthAll]
  unfold gSorted
  simp only [lstOf, Option.bind_some, datas_val, e1]
  rw [if_pos ⟨e2, e3, e4⟩]
  have := List.map_mergeSort (l := ts) (f := triD) (r := le3) (s := PySem.W.dataLe false encD) fun a _ b _ => by
    show le3 a b = !PySem.W.dataLt (encD (triD b)) (encD (triD a))
    rw [enc_tri, enc_tri, lt_tri]; rfl
  rw [this]
theorem sort3 (ts : List T3) : (ts.mergeSort le3).Pairwise (fun a b => le3 a b = true) ∧ (ts.mergeSort le3).Perm ts := ⟨List.pairwise_mergeSort le3_trans le3_total ts, List.mergeSort_perm ts le3⟩
end G
namespace Cl
open PySem L2
/-- a comprehension of which only is known that it takes some of the items -/
theorem lc_ex {α : Type} {C : List O → Prop} {g : MG} {t : MT} {e : ME} {sl : Sl} (v : α → S) (f : α → D) (R : List O → Prop) (hC : ∀ st, R st → C st) : ∀ (xs : List α) (acc : List D) (st : List O), R st → acc.length + xs.length ≤ sizeLine →
    (∀ a ∈ xs, ∀ st, R st → ∃ sl1 st1, g (v a) sl st = some (sl1, st1) ∧ ∃ b st2, t sl1 st1 = some (.ok b, st2) ∧ (b = false → R st2) ∧ (b = true → ∃ st3, e sl1 st2 = some (.ok (.val (f a)), st3) ∧ R st3)) →
    ∃ (ys : List α) (st' : List O), ys.Sublist xs ∧ lcL C g t e sl (xs.map v) acc st = some (acc ++ ys.map f, st') ∧ R st'
  | [], acc, st, hs, _, _ => ⟨[], st, List.Sublist.slnil, by rw [List.map_nil, lcL, if_pos (hC st hs)]; simp, hs⟩
  | a :: xs, acc, st, hs, hl, h => by
    simp only [List.length_cons] at hl
    obtain ⟨sl1, st1, h1, b, st2, h2, h3, h4⟩ := h a List.mem_cons_self st hs
    cases b with
    | false =>
      obtain ⟨ys, st', i1, i2, i3⟩ := lc_ex (t := t) (e := e) v f R hC xs acc st2 (h3 rfl) (by omega) fun a ha => h a (List.mem_cons_of_mem _ ha)
      refine ⟨ys, st', i1.cons a, ?_, i3⟩
      rw [List.map_cons, lcL, if_pos (hC st hs), h1]
      simp only [h2]
      exact i2
    | true =>
      obtain ⟨st3, h5, h6⟩ := h4 rfl
      obtain ⟨ys, st', i1, i2, i3⟩ := lc_ex (t := t) (e := e) v f R hC xs (acc ++ [f a]) st3 h6 (by simp; omega) fun a ha => h a (List.mem_cons_of_mem _ ha)
      refine ⟨a :: ys, st', i1.cons_cons a, ?_, i3⟩
      rw [List.map_cons, lcL, if_pos (hC st hs), h1]
      simp only [h2, M.bind, h5, toD, M.pure]
      rw [if_pos (by omega), i2]
      simp
end Cl
namespace G
open PySem L2 Cl
/-! ### draws -/
/-- a store in which the source stands at k -/
def W (s : List O) (k : Nat) (d : List Int) : List O := s.set k (dO d)
section
variable {s : List O} {k : Nat} {d d' : List Int}
theorem W_get (hk : k < s.length) : (W s k d)[k]? = some (dO d) := List.getElem?_set_self hk
theorem W_getL (hk : k < s.length) : (W s k d)[k]? = some (.lst (d.map iV)) := W_get hk
@[simp] theorem W_len : (W s k d).length = s.length := List.length_set
theorem W_app (hk : k < s.length) (t : List O) : W s k d ++ t = W (s ++ t) k d := (set_l hk).symm
theorem W_ne {j : Nat} (h : k ≠ j) : (W s k d)[j]? = s[j]? := List.getElem?_set_ne h
theorem W_set {j : Nat} {o : O} (h : k ≠ j) : (W s k d).set j o = W (s.set j o) k d := List.set_comm _ _ h
theorem W_self : (W s k d).set k (dO d') = W s k d' := List.set_set _
theorem W_of (h : s[k]? = some (dO d)) : W s k d = s := set_self h
theorem W_closed (h : Closed s) : Closed (W s k d) := closed_dO h
end
section
variable {s : List O} {k i : Nat} {d d1 : List Int} {sl : Sl} {lim : ME} {n : Nat}
/-- below(d, limit) -/
theorem eBelow (h0 : sl[i]? = some (some (.obj k))) (hk : k < s.length) (hl : lim sl (W s k d) = some (.ok (iV n), W s k d1)) (hd : GoodD d1) (hn : 0 < n) (hn2 : n < 1073741824) :
    ∃ (r : Nat) (d2 : List Int), r < n ∧ GoodD d2 ∧ eArgs (gCallO 2 F__law_below []) (aCons (eVar i) (aCons lim aNil)) sl (W s k d) = some (.ok (iV r), W s k d2) := by
  obtain ⟨r, d2, h1, h2, h3⟩ := below_eq hd hn hn2 (W_get (d := d1) hk)
  refine ⟨r, d2, h1, h2, ?_⟩
  rw [W_self] at h3
  have g := W_getL (d := d) hk
  simp [h0, g, hl, h3]
theorem eBelowC (h0 : sl[i]? = some (some (.obj k))) (hk : k < s.length) (hd : GoodD d) (n : Nat) (hn : 0 < n) (hn2 : n < 1073741824) {z : Int} (hz : z = (n : Int) := by rfl) :
    ∃ (r : Nat) (d2 : List Int), r < n ∧ GoodD d2 ∧ eArgs (gCallO 2 F__law_below []) (aCons (eVar i) (aCons (eC (.int z)) aNil)) sl (W s k d) = some (.ok (iV r), W s k d2) := by
  subst hz
  exact eBelow h0 hk rfl hd hn hn2
theorem eBelowV {j : Nat} (h0 : sl[i]? = some (some (.obj k))) (hk : k < s.length) (hd : GoodD d) (hj : sl[j]? = some (some (iV n))) (hn : 0 < n) (hn2 : n < 1073741824) :
    ∃ (r : Nat) (d2 : List Int), r < n ∧ GoodD d2 ∧ eArgs (gCallO 2 F__law_below []) (aCons (eVar i) (aCons (eVar j) aNil)) sl (W s k d) = some (.ok (iV r), W s k d2) := eBelow h0 hk (by simp [hj]) hd hn hn2
/-- [..][below(d, n)] -/
theorem eMenu {m : ME} {xs : List Nat} (h0 : sl[i]? = some (some (.obj k))) (hk : k < s.length) (hd : GoodD d) (hm : m sl (W s k d) = some (.ok (.val (.lst (xs.map iD))), W s k d)) (hx : 0 < xs.length) (hx2 : xs.length < 1000) {z : Int} (hz : z = ((xs.length : Nat) : Int) := by rfl) :
    ∃ (r : Nat) (d2 : List Int), r ∈ xs ∧ GoodD d2 ∧ eBin gIx m (eArgs (gCallO 2 F__law_below []) (aCons (eVar i) (aCons (eC (.int z)) aNil))) sl (W s k d) = some (.ok (iV r), W s k d2) := by
  subst hz
  obtain ⟨j, d2, h1, h2, h3⟩ := eBelowC h0 hk hd xs.length hx (by omega)
  refine ⟨xs[j], d2, List.getElem_mem h1, h2, ?_⟩
  rw [bin_ok hm h3]
  have e : ((xs.map iD).map S.val)[j]? = some (iV xs[j]) := by
    rw [List.getElem?_map, List.getElem?_map, List.getElem?_eq_getElem h1]; rfl
  simp [gIx, -List.map_map, Cl.atI_nat e]
/-- 1 + .. -/
theorem eOne {e : ME} {st st' : List O} {r : Nat} (h : e sl st = some (.ok (iV r), st')) : eBin gAdd (eC (.int 1)) e sl st = some (.ok (iV ((1 + r : Nat) : Int)), st') := by
  rw [bin_ok (x := iV 1) (st1 := st) rfl h, gAdd_int]
  simp
/-- shuffled(d, items) -/
theorem eShuf {e : ME} {items : List D} (h0 : sl[i]? = some (some (.obj k))) (hk : k < s.length) (hc : Closed s) (he : e sl (W s k d) = some (.ok (.val (.lst items)), W s k d)) (hd : GoodD d) (hi : ∀ y ∈ items, okP false 50 y = true) (hl : items.length ≤ 1000) :
    ∃ (out : List D) (d2 : List Int), out.Perm items ∧ GoodD d2 ∧ eArgs (gCallO 2 F__law_shuffled []) (aCons (eVar i) (aCons e aNil)) sl (W s k d) = some (.ok (.val (.lst out)), W s k d2) := by
  obtain ⟨out, d2, h1, h2, h3⟩ := shuffled_eq (W_get (d := d) hk) hd (W_closed hc) hi hl
  refine ⟨out, d2, h2, h1, ?_⟩
  rw [W_self] at h3
  have g := W_getL (d := d) hk
  simp [h0, g, he, h3]
end
end G
namespace G
open PySem L2 Cl
theorem asg_nx {e : ME} {g : MG} {sl sl' : Sl} {st st1 st2 : List O} {x : S} (h : e sl st = some (.ok x, st1)) (h2 : g x sl st1 = some (sl', st2)) : sAsg e g sl st = some (.nx, sl', st2) := by simp [h, h2]
theorem expr_nx {e : ME} {sl : Sl} {st st' : List O} {x : S} (h : e sl st = some (.ok x, st')) : sExpr e sl st = some (.nx, sl, st') := by simp [h]
theorem if_t {c : MT} {a b : MS} {sl : Sl} {st st' : List O} (h : c sl st = some (.ok true, st')) : sIf c a b sl st = a sl st' := by simp [h]
theorem if_f {c : MT} {a b : MS} {sl : Sl} {st st' : List O} (h : c sl st = some (.ok false, st')) : sIf c a b sl st = b sl st' := by simp [h]
theorem ret_ok {e : ME} {sl : Sl} {st st' : List O} {x : S} (h : e sl st = some (.ok x, st')) : sRet e sl st = some (.rt x, sl, st') := by simp [h]
theorem runsL_len (ps : List Nat) : (runsL ps).length ≤ ps.length := by
  have : ∀ (ps : List Nat) (fs : List (Nat × Nat)), (ps.foldl runStep fs).length ≤ fs.length + ps.length := by
    intro ps
    induction ps with
    | nil => simp
    | cons t ps ih =>
      intro fs
      have h1 := ih (runStep fs t)
      have h2 := runStep_len fs t
      simp only [List.foldl_cons, List.length_cons]
      omega
  simpa [runsL] using this ps []
theorem pau_len {p : Pl} (h : Pok p) : p.pau.length ≤ 60 := by
  have := nodup_len (n := p.len) (js := p.pau) (h.pa.imp fun z => Nat.ne_of_lt z) h.pl
  have := h.l2
  omega
theorem runs_mem {P : Nat → Prop} : ∀ (ps : List Nat) (fs : List (Nat × Nat)), (∀ t ∈ ps, P t) → (∀ q ∈ fs, P q.1 ∧ P q.2) → ∀ q ∈ ps.foldl runStep fs, P q.1 ∧ P q.2
  | [], fs, _, hf => hf
  | t :: ps, fs, ht, hf => by
    rw [List.foldl_cons]
    refine runs_mem ps _ (fun t h => ht t (List.mem_cons_of_mem _ h)) fun q hq => ?_
    have hp := ht t List.mem_cons_self
    rcases List.eq_nil_or_concat fs with rfl | ⟨L, ab, rfl⟩
    · rw [runStep_nil] at hq
      rw [List.mem_singleton.mp hq]; exact ⟨hp, hp⟩
    · obtain ⟨a, b⟩ := ab
      rw [List.concat_eq_append] at hf hq
      rw [runStep_app] at hq
      split at hq
      · rcases List.mem_append.mp hq with h | h
        · exact hf q (List.mem_append_left _ h)
        · rw [List.mem_singleton.mp h]
          exact ⟨(hf (a, b) (by simp)).1, hp⟩
      · rcases List.mem_append.mp hq with h | h
        · exact hf q (List.mem_append_left _ h)
        · rcases List.mem_cons.mp h with rfl | h
          · exact hf (a, b) (by simp)
          · rw [List.mem_singleton.mp h]; exact ⟨hp, hp⟩
theorem runs_lt {p : Pl} (h : Pok p) : ∀ q ∈ runsL p.pau, q.1 < p.len ∧ q.2 < p.len := runs_mem p.pau [] h.pl (by simp)
/-- a word of a line -/
theorem wD_nil : wD [] = .lst [] := rfl
/-- the lines, joined -/
theorem join_words (ws : List KW) (hw : ∀ x ∈ ws, WdOk x) (hl : ws.length ≤ 100) (st : List O) : gJoin (.val (.str (Sc [32]))) [.val (wD ws)] st = some (.ok (.val (.str (Sc (TL.joinL [32] (ws.map (·.2)))))), st) := by
  have e1 : strsD (ws.map fun x => strL x.2) = some (ws.map fun x => Sc x.2) := by
    clear hw hl
    induction ws with
    | nil => rfl
    | cons a l ih => rw [List.map_cons, strL, strsD, ih]; rfl
  have e2 : Txt.join (Sc [32]) (ws.map fun x => Sc x.2) = Sc (TL.joinL [32] (ws.map (·.2))) := by
    have := SX.join_S [32] (ws.map (·.2))
    rw [List.map_map] at this
    exact this
  have hz : ((ws.map fun x => Sc x.2).map (·.length)).sum ≤ 8 * ws.length := by
    clear e1 e2 hl
    induction ws with
    | nil => simp
    | cons a l ih =>
      have := ih fun x hx => hw x (List.mem_cons_of_mem _ hx)
      have h8 := (wd_ok (hw a List.mem_cons_self)).2.2
      simp only [List.map_cons, List.sum_cons, List.length_cons, Sc_len]
      omega
  have dd : datas ((ws.map fun x => strL x.2).map S.val) = some (ws.map fun x => strL x.2) := datas_map _
  unfold gJoin wD
  simp only [seqOf, lstOf, Option.bind_some, dd, e1]
  rw [if_pos (by simp only [List.length_map, Sc_len, List.length_singleton] at hz ⊢; omega), e2]
def tSl (p : Pl) (x : Option S) : Sl := [some (.val p.d), some (iV p.len), some (iV p.most), some (.val (.tup (p.nms.map strL))), some (.val (.lst (p.rks.map iD))), some (.val (.lst (p.sts.map triD))), some (.val (.lst (p.pau.map iD))), x, none, none, none, none, none, none, none]
def Pl.l3 (p : Pl) : List (List KW) := [[kyw "round", nuw p.len], [kyw "open", nuw p.most], kyw "valves" :: p.nms.map naw]
def Pl.lr (p : Pl) : List (List KW) := if p.rks = List.range p.nms.length then [] else [kyw "rank" :: p.rks.map fun j => naw (p.nms.getD j [])]
def Pl.ls (p : Pl) : List (List KW) := p.sts.map fun s => [kyw "start", naw (p.nms.getD s.2.1 []), nuw s.1, kyw "for", nuw s.2.2]
def Pl.lp (p : Pl) : List (List KW) := (runsL p.pau).map fun q => [kyw "pause", nuw q.1, nuw q.2]
theorem lines_eq (p : Pl) : p.lines = p.l3 ++ p.lr ++ p.ls ++ p.lp := rfl
abbrev wV (ws : List KW) : S := .val (wD ws)
theorem text_1 {p : Pl} (h : Pok p) : sAsg (eVar 0) (tgTup 6 (tgCons (tgName 1) (tgCons (tgName 2) (tgCons (tgName 3) (tgCons (tgName 4) (tgCons (tgName 5) (tgCons (tgName 6) tgNil))))))) (mkSl 15 [.val p.d]) [] = some (.nx, tSl p none, []) := by
  simp [Pl.d, tSl, iV]
theorem text_2 {p : Pl} (h : Pok p) : sSet 7 (eArgs gLstO (aCons (eArgs Cl.gLst (aCons (eC (.str "round")) (aCons (eArgs (g1 gStr) (aCons (eVar 1) aNil)) aNil))) (aCons (eArgs Cl.gLst (aCons (eC (.str "open")) (aCons (eArgs (g1 gStr) (aCons (eVar 2) aNil)) aNil))) (aCons (eBin gAdd (eArgs Cl.gLst (aCons (eC (.str "valves")) aNil)) (eArgs (g1 gList) (aCons (eVar 3) aNil))) aNil)))) (tSl p none) [] =
    some (.nx, tSl p (some (.obj 0)), [.lst (p.l3.map wV)]) := by
  have e1 := gStr_nat p.len (by have := h.l2; omega) []
  have e2 := gStr_nat p.most (by have := h.m2; omega) []
  have z : p.nms.length + 1 ≤ sizeLine := Nat.le_of_lt (sizes (by have := h.n2; omega))
  have d3 : datas (p.nms.map (S.val ∘ strL)) = some (p.nms.map strL) := datas_comp strL p.nms
  simp [tSl, Cl.gLst, gLstO, e1, e2, gList, gAdd, gCat, d3, z, Pl.l3, wV, wD, nuw, naw, kyw_str, Function.comp_def]
theorem text_3 {p : Pl} (h : Pok p) : sIf (tBin gNe (eVar 4) (eLRg1 (eArgs (g1 gLen) (aCons (eVar 3) aNil)))) (sExpr (eBM "list" gAppend (eVar 7) (aCons (eBin gAdd (eArgs Cl.gLst (aCons (eC (.str "rank")) aNil)) (eLc [8] (iOf (eVar 4)) (tgName 8) tTrue e4__law_text)) aNil))) sNext (tSl p (some (.obj 0))) [.lst (p.l3.map wV)] =
    some (.nx, tSl p (some (.obj 0)), [.lst ((p.l3 ++ p.lr).map wV)]) := by
  have hn := gEqB_eq (x := .val (.lst (p.rks.map iD))) (y := .val (.lst (rgD 0 p.nms.length))) (st := [.lst (p.l3.map wV)]) true rfl rfl (okP_ints _ _ _) (by rw [rgD_nat]; exact okP_ints _ _ _)
  rw [rgD_nat, eqD_ints] at hn
  have h8 := h.n2
  have hg : gLRg1 (.val (.int p.nms.length)) [.lst (p.l3.map wV)] = some (.ok (.val (.lst ((List.range p.nms.length).map iD))), [.lst (p.l3.map wV)]) := by
    unfold gLRg1
    dsimp only
    rw [if_pos ⟨by omega, by omega⟩, rgD_nat]
  by_cases hr : p.rks = List.range p.nms.length
  · rw [if_f (st' := [.lst (p.l3.map wV)])]
    · simp [Pl.lr, hr]
    · rw [hr] at hn
      simp [tSl, gLen, hg, hn, hr]
  · rw [if_t (st' := [.lst (p.l3.map wV)])]
    · have hlc := eLc_all (vs := [8]) (fi := iOf (eVar 4)) (g := tgName 8) (e := e4__law_text) (sl := tSl p (some (.obj 0))) (st := [.lst (p.l3.map wV)]) (C := always) (fun j : Nat => S.val (iD j)) (fun j => strL (p.nms.getD j [])) p.rks (by simp [tSl, gIter, Function.comp_def]) trivial (Nat.le_of_lt (sizes (by rw [rks_len h]; omega)))
        (fun j hj => ⟨_, rfl, by have := names_at h (rks_lt h hj) [.lst (p.l3.map wV)]; simp [e4__law_text, tSl, this]⟩)
      have z : p.rks.length + 1 ≤ sizeLine := Nat.le_of_lt (sizes (by rw [rks_len h]; omega))
      have z3 : p.l3.length < sizeLine := by simp [Pl.l3]
      refine expr_nx (x := .val .non) ?_
      simp only [tSl] at hlc ⊢
      simp [-eLc, hlc, Cl.gLst, gAdd, gCat, z, gAppend, z3, Pl.lr, hr, wV, wD, naw, kyw_str, Function.comp_def]
    · simp [tSl, gLen, hg, hn, hr]
theorem text_4 {p : Pl} (h : Pok p) : sSet 7 (eBin gCatO (eVar 7) (eLc [9, 10, 11] (iOf (eVar 5)) (tgTup 3 (tgCons (tgName 9) (tgCons (tgName 10) (tgCons (tgName 11) tgNil)))) tTrue e3__law_text)) (tSl p (some (.obj 0))) [.lst ((p.l3 ++ p.lr).map wV)] =
    some (.nx, tSl p (some (.obj 1)), [.lst ((p.l3 ++ p.lr).map wV), .lst ((p.l3 ++ p.lr ++ p.ls).map wV)]) := by
  generalize hst : ([.lst ((p.l3 ++ p.lr).map wV)] : List O) = st
  have hlc := eLc_all (vs := [9, 10, 11]) (fi := iOf (eVar 5)) (g := tgTup 3 (tgCons (tgName 9) (tgCons (tgName 10) (tgCons (tgName 11) tgNil)))) (e := e3__law_text) (sl := tSl p (some (.obj 0))) (st := st) (C := always) (fun s : Nat × Nat × Nat => S.val (triD s))
    (fun s => wD [kyw "start", naw (p.nms.getD s.2.1 []), nuw s.1, kyw "for", nuw s.2.2]) p.sts (by simp [tSl, gIter, Function.comp_def]) trivial (Nat.le_of_lt (sizes (by have := h.s20; omega)))
    (fun s hs => by
      obtain ⟨h1, h2, h3, h4⟩ := h.st s hs
      have h60 := h.l2
      have e1 := gStr_nat s.1 (by omega) st
      have e2 := gStr_nat s.2.2 (by omega) st
      have e3 := names_at h h2 st
      refine ⟨((((wipeS (tSl p (some (.obj 0))) [9, 10, 11]).set 9 (some (iV s.1))).set 10 (some (iV s.2.1))).set 11 (some (iV s.2.2))), by simp [triD, tri], ?_⟩
      simp [tSl, e3__law_text, e1, e2, e3, Cl.gLst, wD, nuw, naw, kyw_str])
  have z : (p.l3 ++ p.lr).length + p.sts.length ≤ sizeLine := by
    have := h.s20
    refine Nat.le_of_lt (sizes ?_)
    simp only [List.length_append, Pl.l3, Pl.lr, List.length_cons, List.length_nil]
    split <;> simp <;> omega
  refine (set_nx (d := .obj 1) (st' := [.lst ((p.l3 ++ p.lr).map wV), .lst ((p.l3 ++ p.lr ++ p.ls).map wV)]) ?_).trans rfl
  rw [bin_ok (x := .obj 0) (st1 := st) (by rw [← hst]; simp [tSl]) hlc, ← hst]
  simp only [List.length_append, Nat.add_assoc] at z
  simp [gCatO, z, Pl.ls, wV, Function.comp_def]
theorem text_5 {p : Pl} (h : Pok p) : sSet 7 (eBin gCatO (eVar 7) (eLc [12, 13] (iOf (eArgs (gCallP 1 F__law_runs []) (aCons (eVar 6) aNil))) (tgTup 2 (tgCons (tgName 12) (tgCons (tgName 13) tgNil))) tTrue e2__law_text)) (tSl p (some (.obj 1))) [.lst ((p.l3 ++ p.lr).map wV), .lst ((p.l3 ++ p.lr ++ p.ls).map wV)] =
    some (.nx, tSl p (some (.obj 2)), [.lst ((p.l3 ++ p.lr).map wV), .lst ((p.l3 ++ p.lr ++ p.ls).map wV), .lst (p.lines.map wV)]) := by
  have hr := law_runs_eq p.pau (by have := pau_len h; omega)
  generalize hst : ([.lst ((p.l3 ++ p.lr).map wV), .lst ((p.l3 ++ p.lr ++ p.ls).map wV)] : List O) = st
  have rl := runsL_len p.pau
  have pl := pau_len h
  have rlt := runs_lt h
  have hlc := eLc_all (vs := [12, 13]) (fi := iOf (eArgs (gCallP 1 F__law_runs []) (aCons (eVar 6) aNil))) (g := tgTup 2 (tgCons (tgName 12) (tgCons (tgName 13) tgNil))) (e := e2__law_text) (sl := tSl p (some (.obj 1))) (st := st) (C := always) (fun q : Nat × Nat => S.val (pr q.1 q.2))
    (fun q => wD [kyw "pause", nuw q.1, nuw q.2]) (runsL p.pau) (by simp [tSl, gIter, hr, Function.comp_def]) trivial (Nat.le_of_lt (sizes (by omega)))
    (fun q hq => by
      obtain ⟨h1, h2⟩ := rlt q hq
      have h60 := h.l2
      have e1 := gStr_nat q.1 (by omega) st
      have e2 := gStr_nat q.2 (by omega) st
      refine ⟨(((wipeS (tSl p (some (.obj 1))) [12, 13]).set 12 (some (iV q.1))).set 13 (some (iV q.2))), by simp [pr], ?_⟩
      simp [tSl, e2__law_text, e1, e2, Cl.gLst, wD, nuw, kyw_str])
  have z : (p.l3 ++ p.lr ++ p.ls).length + (runsL p.pau).length ≤ sizeLine := by
    have := h.s20
    refine Nat.le_of_lt (sizes ?_)
    simp only [List.length_append, Pl.l3, Pl.lr, Pl.ls, List.length_cons, List.length_nil, List.length_map]
    split <;> simp <;> omega
  refine (set_nx (d := .obj 2) (st' := [.lst ((p.l3 ++ p.lr).map wV), .lst ((p.l3 ++ p.lr ++ p.ls).map wV), .lst (p.lines.map wV)]) ?_).trans rfl
  rw [bin_ok (x := .obj 1) (st1 := st) (by rw [← hst]; simp [tSl]) hlc, ← hst]
  simp only [List.length_append, Nat.add_assoc] at z
  rw [lines_eq]
  simp [gCatO, z, Pl.lp, wV, Function.comp_def]
end G
namespace G
open PySem L2 Cl
theorem perm_map_inv {α β : Type} {f : α → β} {g : β → α} (hg : ∀ a, g (f a) = a) {l : List α} {out : List β} (h : out.Perm (l.map f)) : ∃ l' : List α, l'.Perm l ∧ out = l'.map f := by
  refine ⟨out.map g, ?_, ?_⟩
  · have := h.map g
    rw [List.map_map] at this
    have e : l.map (g ∘ f) = l := by
      rw [show g ∘ f = id from funext hg]; simp
    rwa [e] at this
  · rw [List.map_map]
    have : ∀ x ∈ out, (f ∘ g) x = x := fun x hx => by
      obtain ⟨a, _, rfl⟩ := List.mem_map.mp (h.mem_iff.mp hx)
      simp [hg]
    exact (List.map_id _).symm.trans (List.map_congr_left fun x hx => (this x hx).symm)
def unS : D → List Nat
  | .str s => s.cps.toList
  | _ => []
def unI : D → Nat
  | .int i => i.toNat
  | _ => 0
def poolW : List (List Nat) := (["a", "b", "cc", "longname", "x", "zed", "q", "w"] : List String).map fun s => s.toList.map Char.toNat
theorem pool_ok : ∀ w ∈ poolW, NmW w := by
  intro w hw
  simp only [poolW, List.map_cons, List.map_nil, List.mem_cons, List.not_mem_nil, or_false] at hw
  rcases hw with rfl | rfl | rfl | rfl | rfl | rfl | rfl | rfl <;> exact ⟨by decide, by decide, by decide, by unfold keyW; simp only [Sc_of, List.mem_cons, Sc_eq, List.not_mem_nil, or_false]; decide⟩
theorem pool_nd : poolW.Nodup := by decide
theorem pool_D : [D.str "a", .str "b", .str "cc", .str "longname", .str "x", .str "zed", .str "q", .str "w"] = poolW.map strL := by
  simp only [poolW, List.map_cons, List.map_nil, strL, Sc_of]
theorem gTuple_lst (l : List D) (st : List O) : gTuple (.val (.lst l)) st = some (.ok (.val (.tup l)), st) := by simp [gTuple]
theorem args1 {g : List S → M S} {e : ME} {sl : Sl} {st st' : List O} {x : S} (h : e sl st = some (.ok x, st')) : eArgs g (aCons e aNil) sl st = g [x] st' := by simp [h]
theorem args2 {g : List S → M S} {e f : ME} {sl : Sl} {st st1 st2 : List O} {x y : S} (h : e sl st = some (.ok x, st1)) (h2 : f sl st1 = some (.ok y, st2)) : eArgs g (aCons e (aCons f aNil)) sl st = g [x, y] st2 := by simp [h, h2]
theorem args3 {g : List S → M S} {e f e3 : ME} {sl : Sl} {st st1 st2 st3 : List O} {x y z : S} (h : e sl st = some (.ok x, st1)) (h2 : f sl st1 = some (.ok y, st2)) (h3 : e3 sl st2 = some (.ok z, st3)) : eArgs g (aCons e (aCons f (aCons e3 aNil))) sl st = g [x, y, z] st3 := by simp [h, h2, h3]
theorem bm1 {T : String} {g : S → List S → M S} {o e : ME} {sl : Sl} {st st1 st2 : List O} {x y : S} (h : o sl st = some (.ok x, st1)) (hc : chkT T x st1 = some (.ok (), st1)) (h2 : e sl st1 = some (.ok y, st2)) : eBM T g o (aCons e aNil) sl st = g x [y] st2 := by simp [-chkT, h, hc, h2]
theorem var_obj {i n : Nat} {sl : Sl} {st : List O} {l : List S} (h : sl[i]? = some (some (.obj n))) (h2 : st[n]? = some (.lst l)) : eVar i sl st = some (.ok (.obj n), st) := by
  unfold eVar; rw [h]; simp only [rsv, rsvS, h2]
theorem var_val {i : Nat} {sl : Sl} {st : List O} {v : D} (h : sl[i]? = some (some (.val v))) : eVar i sl st = some (.ok (.val v), st) := by
  unfold eVar; rw [h]; rfl
theorem chk_list {n : Nat} {st : List O} {l : List S} (h2 : st[n]? = some (.lst l)) : chkT "list" (.obj n) st = some (.ok (), st) := by
  simp only [chkT, lstOf, h2, if_true]
theorem gApp_eq {n : Nat} {st : List O} {l : List S} {y : S} (h2 : st[n]? = some (.lst l)) (hz : l.length < sizeLine) : gAppend (.obj n) [y] st = some (.ok (.val .non), st.set n (.lst (l ++ [y]))) := by
  simp only [gAppend, h2, hz, if_true]
/-- the names: shuffled(d, pool)[:many] -/
theorem eNames {s : List O} {k : Nat} {d : List Int} {sl : Sl} {many : Nat} (h0 : sl[0]? = some (some (.obj k))) (h2 : sl[2]? = some (some (iV many))) (hk : k < s.length) (hc : Closed s) (hd : GoodD d) (hm : 1 ≤ many) (hm2 : many ≤ 8) :
    ∃ (nms : List (List Nat)) (d2 : List Int), nms.Nodup ∧ nms.length = many ∧ (∀ w ∈ nms, NmW w) ∧ GoodD d2 ∧
      eArgs (g1 gTuple) (aCons (eSl gSl (eArgs (gCallO 2 F__law_shuffled []) (aCons (eVar 0) (aCons (eArgs Cl.gLst (aCons (eC (.str "a")) (aCons (eC (.str "b")) (aCons (eC (.str "cc")) (aCons (eC (.str "longname")) (aCons (eC (.str "x")) (aCons (eC (.str "zed")) (aCons (eC (.str "q")) (aCons (eC (.str "w")) aNil))))))))) aNil))) none (some (eVar 2))) aNil) sl (W s k d) = some (.ok (.val (.tup (nms.map strL))), W s k d2) := by
  obtain ⟨out, d2, h1, hd2, h3⟩ := eShuf (e := eArgs Cl.gLst (aCons (eC (.str "a")) (aCons (eC (.str "b")) (aCons (eC (.str "cc")) (aCons (eC (.str "longname")) (aCons (eC (.str "x")) (aCons (eC (.str "zed")) (aCons (eC (.str "q")) (aCons (eC (.str "w")) aNil))))))))) (items := poolW.map strL) h0 hk hc (by rw [← pool_D]; simp [Cl.gLst]) hd (fun y hy => by
    obtain ⟨w, hw, rfl⟩ := List.mem_map.mp hy
    simp only [strL, okP]
    exact ok_Sc (wd_ok (WdOk.name (pool_ok w hw))).1) (by rw [List.length_map]; decide)
  obtain ⟨l, h4, rfl⟩ := perm_map_inv (f := strL) (g := unS) (fun a => rfl) h1
  have hl : l.length = 8 := h4.length_eq
  refine ⟨l.take many, d2, ?_, by rw [List.length_take]; omega, fun w hw => pool_ok w (h4.mem_iff.mp (List.mem_of_mem_take hw)), hd2, ?_⟩
  · exact (List.take_sublist _ _).nodup (h4.nodup_iff.mpr pool_nd)
  · have e : cutD (l.map strL) none (some (many : Int)) = (l.take many).map strL := by
      unfold cutD
      rw [HT.sIx_none, HT.sIx_nat, List.length_map, Nat.min_eq_left (by omega), List.drop_zero, Nat.sub_zero, List.map_take]
    have hs : eSl gSl (eArgs (gCallO 2 F__law_shuffled []) (aCons (eVar 0) (aCons (eArgs Cl.gLst (aCons (eC (.str "a")) (aCons (eC (.str "b")) (aCons (eC (.str "cc")) (aCons (eC (.str "longname")) (aCons (eC (.str "x")) (aCons (eC (.str "zed")) (aCons (eC (.str "q")) (aCons (eC (.str "w")) aNil))))))))) aNil))) none (some (eVar 2)) sl (W s k d) = some (.ok (.val (.lst ((l.take many).map strL))), W s k d2) := by
      unfold eSl
      simp only [M.bind, h3]
      simp only [M.pure, eVar, h2, rsv, rsvS, iV, gSl, seqOf, lstOf, Option.bind_some, datas_val, e]
    rw [args1 hs]
    exact gTuple_lst _ _
end G
namespace G
open PySem L2 Cl
/-! ### wide: the starts -/
def stOk (len many : Nat) (s : T3) : Prop := s.1 < len ∧ s.2.1 < many ∧ 1 ≤ s.2.2 ∧ s.2.2 ≤ 30
abbrev triV (s : T3) : S := .val (triD s)
def wSl (k many len n : Nat) (names : D) (x1 x6 x7 : Option S) : Sl := [some (.obj k), x1, some (iV many), some (.val names), some (iV len), some (.obj n), x6, x7, none, none, none, none, none]
theorem wide_turn {s : List O} {k many len : Nat} {names : D} {x1 x6 x7 : Option S} {d : List Int} {starts : List T3} (hk : k < s.length) (hd : GoodD d) (h1 : 1 ≤ many) (h2 : many ≤ 8) (h3 : 1 ≤ len) (h4 : len ≤ 60) (hs : starts.length ≤ 100) :
    ∃ (t : T3) (x7' : Option S) (d' : List Int), stOk len many t ∧ GoodD d' ∧ l1__law_wide (wSl k many len s.length names x1 x6 x7) (W (s ++ [.lst (starts.map triV)]) k d) = some (.nx, wSl k many len s.length names x1 x6 x7', W (s ++ [.lst ((starts ++ [t]).map triV)]) k d') := by
  have hk2 : ∀ o : O, k < (s ++ [o]).length := fun o => by rw [List.length_append]; omega
  obtain ⟨m, d1, hm, hd1, e1⟩ := eMenu (i := 0) (sl := wSl k many len s.length names x1 x6 x7) (m := eArgs Cl.gLst (aCons (eC (.int 4)) (aCons (eC (.int 10)) (aCons (eC (.int 30)) aNil)))) (xs := [4, 10, 30]) (z := 3) rfl (hk2 (.lst (starts.map triV))) hd (by simp [Cl.gLst]) (by decide) (by decide)
  have hm' : 0 < m ∧ m ≤ 30 := by
    simp only [List.mem_cons, List.not_mem_nil, or_false] at hm
    omega
  obtain ⟨r, d2, hr, hd2, e2⟩ := eBelow (i := 0) rfl (hk2 (.lst (starts.map triV))) e1 hd1 hm'.1 (by omega)
  have e3 := eOne e2
  obtain ⟨a, d3, ha, hd3, e4⟩ := eBelowV (i := 0) (j := 4) (sl := wSl k many len s.length names x1 x6 (some (iV ((1 + r : Nat) : Int)))) (n := len) rfl (hk2 (.lst (starts.map triV))) hd2 rfl (by omega) (by omega)
  obtain ⟨b, d4, hb, hd4, e5⟩ := eBelowV (i := 0) (j := 2) (sl := wSl k many len s.length names x1 x6 (some (iV ((1 + r : Nat) : Int)))) (n := many) rfl (hk2 (.lst (starts.map triV))) hd3 rfl (by omega) (by omega)
  refine ⟨(a, b, 1 + r), some (iV ((1 + r : Nat) : Int)), d4, ⟨ha, hb, by show 1 ≤ 1 + r; omega, by show 1 + r ≤ 30; omega⟩, hd4, ?_⟩
  unfold l1__law_wide
  have e3' := seq_nx (b := sExpr (eBM "list" gAppend (eVar 5) (aCons (eArgs Cl.gTup (aCons (eArgs (gCallO 2 F__law_below []) (aCons (eVar 0) (aCons (eVar 4) aNil))) (aCons (eArgs (gCallO 2 F__law_below []) (aCons (eVar 0) (aCons (eVar 2) aNil))) (aCons (eVar 7) aNil)))) aNil))) (set_nx (i := 7) e3)
  refine e3'.trans ?_
  have hne : k ≠ s.length := by omega
  have g5 : ∀ d : List Int, (W (s ++ [O.lst (starts.map triV)]) k d)[s.length]? = some (.lst (starts.map triV)) := fun d => by rw [W_ne hne]; exact get_r0 rfl
  have s5 : ∀ o : O, (W (s ++ [O.lst (starts.map triV)]) k d4).set s.length o = W (s ++ [o]) k d4 := fun o => by rw [W_set hne]; congr 1; exact set_r0 rfl
  have z : starts.length < sizeLine := sizes (by omega)
  have hw : (wSl k many len s.length names x1 x6 x7).set 7 (some (iV ((1 + r : Nat) : Int))) = wSl k many len s.length names x1 x6 (some (iV ((1 + r : Nat) : Int))) := rfl
  rw [hw]
  refine expr_nx (x := .val .non) ?_
  have e7 := var_obj (i := 5) (sl := wSl k many len s.length names x1 x6 (some (iV ((1 + r : Nat) : Int)))) rfl (g5 d2)
  have e8 := var_val (i := 7) (sl := wSl k many len s.length names x1 x6 (some (iV ((1 + r : Nat) : Int)))) (st := W (s ++ [O.lst (starts.map triV)]) k d4) rfl
  have e9 : Cl.gTup [iV a, iV b, iV ((1 + r : Nat) : Int)] (W (s ++ [O.lst (starts.map triV)]) k d4) = some (.ok (triV (a, b, 1 + r)), W (s ++ [O.lst (starts.map triV)]) k d4) := by simp [Cl.gTup, triV, triD, tri]
  rw [bm1 e7 (chk_list (g5 d2)) ((args3 e4 e5 e8).trans e9), gApp_eq (g5 d4) (by rw [List.length_map]; exact z), s5]
  simp
end G
namespace G
open PySem L2 Cl
/-- for k in range(n): a start each -/
theorem wide_loop {s : List O} {k many len : Nat} {names : D} {x1 : Option S} {d : List Int} (hk : k < s.length) (hd : GoodD d) (h1 : 1 ≤ many) (h2 : many ≤ 8) (h3 : 1 ≤ len) (h4 : len ≤ 60) (n : Nat) (hn : n ≤ 13) :
    ∃ (starts : List T3) (x6 x7 : Option S) (d' : List Int), starts.length = n ∧ (∀ t ∈ starts, stOk len many t) ∧ GoodD d' ∧
      forL always (tgName 6) l1__law_wide ((List.range n).map fun i : Nat => S.val (iD i)) (wSl k many len s.length names x1 none none) (W (s ++ [.lst []]) k d) = some (.nx, wSl k many len s.length names x1 x6 x7, W (s ++ [.lst (starts.map triV)]) k d') := by
  obtain ⟨sl', st', e1, e2⟩ := for_ex (C := always) (g := tgName 6) (b := l1__law_wide) (fun i : Nat => S.val (iD i))
    (fun rem sl st => ∃ (starts : List T3) (x6 x7 : Option S) (d' : List Int), starts.length + rem.length = n ∧ (∀ t ∈ starts, stOk len many t) ∧ GoodD d' ∧ sl = wSl k many len s.length names x1 x6 x7 ∧ st = W (s ++ [.lst (starts.map triV)]) k d')
    (fun _ _ _ _ => trivial) (List.range n) (wSl k many len s.length names x1 none none) (W (s ++ [.lst []]) k d) ⟨[], none, none, d, by simp, by simp, hd, rfl, rfl⟩ (fun i rem sl st h => by
      obtain ⟨starts, x6, x7, d', i1, i2, i3, rfl, rfl⟩ := h
      simp only [List.length_cons] at i1
      obtain ⟨t, x7', d2, j1, j2, j3⟩ := wide_turn (names := names) (x1 := x1) (x6 := some (S.val (iD i))) (x7 := x7) (starts := starts) hk i3 h1 h2 h3 h4 (by omega)
      refine ⟨_, _, _, _, rfl, j3, starts ++ [t], _, x7', d2, by rw [List.length_append, List.length_singleton]; omega, fun t' ht' => ?_, j2, rfl, rfl⟩
      rcases List.mem_append.mp ht' with h | h
      · exact i2 t' h
      · rw [List.mem_singleton.mp h]; exact j1)
  obtain ⟨starts, x6, x7, d', i1, i2, i3, rfl, rfl⟩ := e2
  exact ⟨starts, x6, x7, d', by simpa using i1, i2, i3, e1⟩
/-- the pauses: some ticks of the round -/
theorem pause_comp {s : List O} {k len share : Nat} {sl : Sl} {d : List Int} (h0 : sl[0]? = some (some (.obj k))) (h4 : sl[4]? = some (some (iV len))) (h9 : sl[9]? = some (some (iV share))) (hsl : sl.length = 13) (hk : k < s.length) (hd : GoodD d) (hl : len ≤ 60) :
    ∃ (ps : List Nat) (d' : List Int), ps.Pairwise (· < ·) ∧ (∀ t ∈ ps, t < len) ∧ GoodD d' ∧ eLc [6] (iArgs gRange1 (aCons (eVar 4) aNil)) (tgName 6) t1__law_wide e3__law_wide sl (W s k d) = some (.ok (.val (.lst (ps.map iD))), W s k d') := by
  obtain ⟨ys, st', i1, i2, i3⟩ := lc_ex (C := always) (g := tgName 6) (t := t1__law_wide) (e := e3__law_wide) (sl := wipeS sl [6]) (fun i : Nat => S.val (iD i)) iD (fun st => ∃ d, GoodD d ∧ st = W s k d) (fun _ _ => trivial) (List.range len) [] (W s k d) ⟨d, hd, rfl⟩ (by rw [List.length_range]; exact Nat.le_of_lt (sizes (by simp; omega)))
    (fun a _ st ⟨d, hd, e⟩ => by
      subst e
      refine ⟨(wipeS sl [6]).set 6 (some (S.val (iD a))), W s k d, rfl, ?_⟩
      have wl : (wipeS sl [6]).length = 13 := by rw [wipeS_length, hsl]
      have w : ∀ j, j ≠ 6 → ((wipeS sl [6]).set 6 (some (S.val (iD a))))[j]? = sl[j]? := fun j hj => by
        rw [List.getElem?_set_ne (Ne.symm hj), wipeS_get]; simp [hj]
      have w6 : ((wipeS sl [6]).set 6 (some (S.val (iD a))))[6]? = some (some (S.val (iD a))) := by rw [List.getElem?_set_self (by rw [wl]; decide)]
      have v0 := (w 0 (by decide)).trans h0
      have v9 := (w 9 (by decide)).trans h9
      generalize (wipeS sl [6]).set 6 (some (S.val (iD a))) = sl1 at w6 v0 v9
      obtain ⟨r, d2, hr, hd2, e1⟩ := eBelowC (i := 0) v0 hk hd 4 (by decide) (by decide) (z := 4)
      refine ⟨decide ((r : Int) < share), W s k d2, ?_, fun _ => ⟨d2, hd2, rfl⟩, fun _ => ⟨W s k d2, var_val w6, d2, hd2, rfl⟩⟩
      unfold t1__law_wide tBin
      simp only [M.bind]
      rw [bin_ok e1 (var_val v9)]
      simp)
  obtain ⟨d', hd', rfl⟩ := i3
  have pw : (List.range len).Pairwise (· < ·) := List.pairwise_lt_range
  refine ⟨ys, d', pw.sublist i1, fun t ht => List.mem_range.mp (i1.subset ht), hd', ?_⟩
  unfold eLc
  simp only [M.bind]
  have hr : iArgs gRange1 (aCons (eVar 4) aNil) sl (W s k d) = some (.ok ((List.range len).map fun i : Nat => S.val (iD i), always), W s k d) := by
    simp [h4, range_val len (by omega)]
  rw [hr]
  simp only
  rw [i2]
  rfl
end G
namespace G
open PySem L2 Cl
theorem lrg_eq {e : ME} {sl : Sl} {st st' : List O} {n : Nat} (h : e sl st = some (.ok (iV n), st')) (hn : n ≤ 1000) : eLRg1 e sl st = some (.ok (.val (.lst ((List.range n).map iD))), st') := by
  unfold eLRg1
  simp only [M.bind, h, gLRg1]
  rw [if_pos ⟨by omega, by omega⟩, rgD_nat]
theorem tEq0 {e : ME} {sl : Sl} {st st' : List O} {r : Nat} (h : e sl st = some (.ok (iV r), st')) : tBin gEq e (eC (.int 0)) sl st = some (.ok (decide (r = 0)), st') := by
  have e2 : eBin gEq e (eC (.int 0)) sl st = some (.ok (.val (.bl (decide (r = 0)))), st') := by
    rw [bin_ok h rfl, gEq_int]
    simp
  unfold tBin
  simp only [M.bind, e2, M.pure]
theorem eIf_t {c : MT} {a b : ME} {sl : Sl} {st st' : List O} (h : c sl st = some (.ok true, st')) : eIf c a b sl st = a sl st' := by simp [h]
theorem eIf_f {c : MT} {a b : ME} {sl : Sl} {st st' : List O} (h : c sl st = some (.ok false, st')) : eIf c a b sl st = b sl st' := by simp [h]
theorem iargs1 {g : List S → M Its'} {e : ME} {sl : Sl} {st st' : List O} {x : S} (h : e sl st = some (.ok x, st')) : iArgs g (aCons e aNil) sl st = g [x] st' := by simp [h]
/-- the ranks -/
theorem eRanks {s : List O} {k many : Nat} {sl : Sl} {d : List Int} (h0 : sl[0]? = some (some (.obj k))) (h2 : sl[2]? = some (some (iV many))) (hk : k < s.length) (hc : Closed s) (hd : GoodD d) (hm : many ≤ 8) :
    ∃ (rks : List Nat) (d' : List Int), rks.Perm (List.range many) ∧ GoodD d' ∧ eIf (tBin gEq (eArgs (gCallO 2 F__law_below []) (aCons (eVar 0) (aCons (eC (.int 2)) aNil))) (eC (.int 0))) (eLRg1 (eVar 2)) (eArgs (gCallO 2 F__law_shuffled []) (aCons (eVar 0) (aCons (eLRg1 (eVar 2)) aNil))) sl (W s k d) = some (.ok (.val (.lst (rks.map iD))), W s k d') := by
  obtain ⟨r, d1, hr, hd1, e1⟩ := eBelowC (i := 0) h0 hk hd 2 (by decide) (by decide) (z := 2)
  have e2 := tEq0 e1
  have e3 : ∀ st, eLRg1 (eVar 2) sl st = some (.ok (.val (.lst ((List.range many).map iD))), st) := fun st => lrg_eq (var_val h2) (by omega)
  by_cases h : r = 0
  · rw [h] at e2
    simp only [decide_true] at e2
    exact ⟨List.range many, d1, List.Perm.refl _, hd1, by rw [eIf_t e2]; exact e3 _⟩
  · simp only [h, decide_false] at e2
    obtain ⟨out, d2, p1, hd2, e4⟩ := eShuf (i := 0) h0 hk hc (e3 (W s k d1)) hd1 (fun y hy => by
      obtain ⟨j, _, rfl⟩ := List.mem_map.mp hy
      simp [okP]) (by simp; omega)
    obtain ⟨l, h4, rfl⟩ := perm_map_inv (f := iD) (g := unI) (fun a => by simp [unI]) p1
    exact ⟨l, d2, h4, hd2, by rw [eIf_f e2]; exact e4⟩
/-- the starts' places -/
def placesOf (starts : List T3) : List T3 := ((List.range starts.length).map fun i => ((starts.getD i (0, 0, 0)).1, (starts.getD i (0, 0, 0)).2.1, i)).mergeSort le3
def startsBy (starts : List T3) : List T3 := (placesOf starts).map fun t => starts.getD t.2.2 (0, 0, 0)
theorem gIx_obj {n : Nat} {st : List O} {l : List S} {i : Nat} {x : S} {d : D} (h : st[n]? = some (.lst l)) (hx : l[i]? = some x) (hv : x = .val d) : gIx (.obj n) (iV i) st = some (.ok (.val d), st) := by
  subst hv
  have e := Cl.atI_nat hx
  unfold gIx
  simp only [seqOf, lstOf, h, e, rsvS]
theorem gIx_tup {st : List O} {l : List D} {i : Nat} {d : D} (hx : l[i]? = some d) : gIx (.val (.tup l)) (iV i) st = some (.ok (.val d), st) := by
  have e := Cl.atI_nat (show (l.map S.val)[i]? = some (.val d) by rw [List.getElem?_map, hx]; rfl)
  unfold gIx
  simp only [seqOf, e, rsvS]
theorem gIx_lst {st : List O} {l : List D} {i : Nat} {d : D} (hx : l[i]? = some d) : gIx (.val (.lst l)) (iV i) st = some (.ok (.val d), st) := by
  have e := Cl.atI_nat (show (l.map S.val)[i]? = some (.val d) by rw [List.getElem?_map, hx]; rfl)
  unfold gIx
  simp only [seqOf, lstOf, e, rsvS]
theorem getD_get {l : List T3} {i : Nat} (h : i < l.length) : (l.map triV)[i]? = some (triV (l.getD i (0, 0, 0))) := by
  rw [List.getElem?_map, List.getElem?_eq_getElem h]
  simp [List.getD, h]
theorem places_comp {st : List O} {sl : Sl} {n : Nat} {starts : List T3} (h5 : sl[5]? = some (some (.obj n))) (hn : st[n]? = some (.lst (starts.map triV))) (hsl : sl.length = 13) (hl : starts.length ≤ 1000) :
    eArgs (g1 gSorted) (aCons (eLc [6] (iArgs gRange1 (aCons (eArgs (g1 gLen) (aCons (eVar 5) aNil)) aNil)) (tgName 6) tTrue e2__law_wide) aNil) sl st = some (.ok (.val (.lst ((placesOf starts).map triD))), st) := by
  have e5 := var_obj h5 hn
  have hr : iArgs gRange1 (aCons (eArgs (g1 gLen) (aCons (eVar 5) aNil)) aNil) sl st = some (.ok ((List.range starts.length).map fun i : Nat => S.val (iD i), always), st) := by
    have e6 : eArgs (g1 gLen) (aCons (eVar 5) aNil) sl st = some (.ok (iV starts.length), st) := by
      rw [args1 e5]
      simp only [g1, gLen, seqOf, lstOf, hn, List.length_map]
    rw [iargs1 e6]
    exact range_val starts.length (by omega) st
  have hlc := eLc_all (vs := [6]) (g := tgName 6) (e := e2__law_wide) (fun i : Nat => S.val (iD i)) (fun i => triD ((starts.getD i (0, 0, 0)).1, (starts.getD i (0, 0, 0)).2.1, i)) (List.range starts.length) hr trivial (by rw [List.length_range]; exact Nat.le_of_lt (sizes (by omega)))
    (fun i hi => by
      have hi' := List.mem_range.mp hi
      refine ⟨(wipeS sl [6]).set 6 (some (S.val (iD i))), rfl, ?_⟩
      have wl : (wipeS sl [6]).length = 13 := by rw [wipeS_length, hsl]
      have w5 : ((wipeS sl [6]).set 6 (some (S.val (iD i))))[5]? = some (some (.obj n)) := by
        rw [List.getElem?_set_ne (by decide), wipeS_get]; simp [h5]
      have w6 : ((wipeS sl [6]).set 6 (some (S.val (iD i))))[6]? = some (some (S.val (iD i))) := by rw [List.getElem?_set_self (by rw [wl]; decide)]
      generalize (wipeS sl [6]).set 6 (some (S.val (iD i))) = sl1 at w5 w6
      have v5 := var_obj w5 hn
      have v6 := var_val (st := st) w6
      have g0 : eBin gIx (eVar 5) (eVar 6) sl1 st = some (.ok (triV (starts.getD i (0, 0, 0))), st) := by
        rw [bin_ok v5 v6]
        exact gIx_obj hn (getD_get hi') rfl
      have g1 : eBin gIx (eBin gIx (eVar 5) (eVar 6)) (eC (.int 0)) sl1 st = some (.ok (iV (starts.getD i (0, 0, 0)).1), st) := by
        rw [bin_ok g0 rfl]
        exact gIx_tup (i := 0) rfl
      have g2 : eBin gIx (eBin gIx (eVar 5) (eVar 6)) (eC (.int 1)) sl1 st = some (.ok (iV (starts.getD i (0, 0, 0)).2.1), st) := by
        rw [bin_ok g0 rfl]
        exact gIx_tup (i := 1) rfl
      unfold e2__law_wide
      rw [args3 g1 g2 v6]
      simp [Cl.gTup, triD, tri])
  rw [args1 hlc]
  unfold placesOf
  have := sorted_tri ((List.range starts.length).map fun i => ((starts.getD i (0, 0, 0)).1, (starts.getD i (0, 0, 0)).2.1, i)) st
  rw [List.map_map] at this
  exact this
theorem places_mem {starts : List T3} {t : T3} (h : t ∈ placesOf starts) : t.2.2 < starts.length ∧ t.1 = (starts.getD t.2.2 (0, 0, 0)).1 ∧ t.2.1 = (starts.getD t.2.2 (0, 0, 0)).2.1 := by
  have := (sort3 _).2.mem_iff.mp h
  obtain ⟨i, hi, rfl⟩ := List.mem_map.mp this
  exact ⟨List.mem_range.mp hi, rfl, rfl⟩
theorem startsBy_ok {starts : List T3} {P : T3 → Prop} (h : ∀ t ∈ starts, P t) : (∀ t ∈ startsBy starts, P t) ∧ (startsBy starts).length = starts.length ∧ (startsBy starts).Pairwise fun a b => a.1 < b.1 ∨ (a.1 = b.1 ∧ a.2.1 ≤ b.2.1) := by
  refine ⟨fun t ht => ?_, ?_, ?_⟩
  · obtain ⟨q, hq, rfl⟩ := List.mem_map.mp ht
    have := (places_mem hq).1
    refine h _ ?_
    simp [List.getD, this]
  · unfold startsBy placesOf
    rw [List.length_map, List.length_mergeSort, List.length_map, List.length_range]
  · unfold startsBy
    rw [List.pairwise_map]
    have p := (sort3 ((List.range starts.length).map fun i => ((starts.getD i (0, 0, 0)).1, (starts.getD i (0, 0, 0)).2.1, i))).1
    refine List.Pairwise.imp_of_mem (fun {a b} ha hb hab => ?_) p
    obtain ⟨_, a1, a2⟩ := places_mem ha
    obtain ⟨_, b1, b2⟩ := places_mem hb
    rw [← a1, ← a2, ← b1, ← b2]
    unfold le3 at hab
    rw [Bool.not_eq_true', decide_eq_false_iff_not] at hab
    unfold lt3 at hab
    omega
theorem by_comp {st : List O} {sl : Sl} {n : Nat} {starts : List T3} (h5 : sl[5]? = some (some (.obj n))) (h11 : sl[11]? = some (some (.val (.lst ((placesOf starts).map triD))))) (hn : st[n]? = some (.lst (starts.map triV))) (hsl : sl.length = 13) (hl : starts.length ≤ 1000) :
    eLc [12] (iOf (eVar 11)) (tgName 12) tTrue e1__law_wide sl st = some (.ok (.val (.lst ((startsBy starts).map triD))), st) := by
  have hlen : (placesOf starts).length = starts.length := by
    unfold placesOf; rw [List.length_mergeSort, List.length_map, List.length_range]
  have hlc := eLc_all (vs := [12]) (fi := iOf (eVar 11)) (sl := sl) (st := st) (C := always) (g := tgName 12) (e := e1__law_wide) triV (fun t => triD (starts.getD t.2.2 (0, 0, 0))) (placesOf starts) (by simp [h11, gIter, Function.comp_def]) trivial (by rw [hlen]; exact Nat.le_of_lt (sizes (by omega)))
    (fun t ht => by
      refine ⟨(wipeS sl [12]).set 12 (some (triV t)), rfl, ?_⟩
      have wl : (wipeS sl [12]).length = 13 := by rw [wipeS_length, hsl]
      have w5 : ((wipeS sl [12]).set 12 (some (triV t)))[5]? = some (some (.obj n)) := by
        rw [List.getElem?_set_ne (by decide), wipeS_get]; simp [h5]
      have w12 : ((wipeS sl [12]).set 12 (some (triV t)))[12]? = some (some (triV t)) := by rw [List.getElem?_set_self (by rw [wl]; decide)]
      generalize (wipeS sl [12]).set 12 (some (triV t)) = sl1 at w5 w12
      have v5 := var_obj w5 hn
      have v12 := var_val (st := st) w12
      have g2 : eBin gIx (eVar 12) (eC (.int 2)) sl1 st = some (.ok (iV t.2.2), st) := by
        rw [bin_ok v12 rfl]
        exact gIx_tup (i := 2) rfl
      unfold e1__law_wide
      rw [bin_ok v5 g2]
      exact gIx_obj hn (getD_get (places_mem ht).1) rfl)
  rw [hlc]
  unfold startsBy
  rw [List.map_map]
  rfl
end G
namespace G
open PySem L2 Cl
theorem par_pok {len most many : Nat} {nms : List (List Nat)} {rks : List Nat} {starts : List T3} {pau : List Nat} (h1 : 1 ≤ len) (h2 : len ≤ 60) (h3 : 1 ≤ most) (h4 : most ≤ 9) (m1 : 1 ≤ many) (m2 : many ≤ 8) (n1 : nms.Nodup) (n2 : nms.length = many) (n3 : ∀ w ∈ nms, NmW w) (r : rks.Perm (List.range many)) (s1 : ∀ t ∈ starts, stOk len many t) (s2 : starts.length ≤ 20) (p1 : pau.Pairwise (· < ·)) (p2 : ∀ t ∈ pau, t < len) :
    Pok ⟨len, most, nms, rks, startsBy starts, pau⟩ := by
  obtain ⟨b1, b2, b3⟩ := startsBy_ok s1
  refine ⟨h1, h2, h3, h4, fun e => ?_, by show nms.length ≤ 8; omega, n1, n3, by rw [n2]; exact r, fun s hs => ?_, by show (startsBy starts).length ≤ 20; omega, b3, p1, p2⟩
  · have : nms = [] := e
    rw [this] at n2; simp at n2; omega
  · have := b1 s hs
    unfold stOk at this
    exact ⟨this.1, by show s.2.1 < nms.length; rw [n2]; exact this.2.1, this.2.2⟩
theorem wide_eq {st : List O} {k mx : Nat} {d : List Int} (hk : st[k]? = some (dO d)) (hd : GoodD d) (hc : Closed st) (hm : 1 ≤ mx) (hm2 : mx ≤ 8) :
    ∃ (p : Pl) (d' : List Int), Pok p ∧ p.nms.length ≤ mx ∧ GoodD d' ∧ F__law_wide [.obj k, iV mx] st = some (.ok (.val p.d), W st k d') := by
  have hkl : k < st.length := (List.getElem?_eq_some_iff.mp hk).1
  have hne : k ≠ st.length := by omega
  have ck : ∀ o : O, belowO (st.length + 1) o = true → Closed (st ++ [o]) := fun o ho => by
    unfold Closed at hc ⊢
    rw [List.all_append, Bool.and_eq_true]
    refine ⟨?_, by simpa using ho⟩
    rw [List.all_eq_true] at hc ⊢
    intro x hx
    exact belowO_mono (hc x hx) (by simp)
  obtain ⟨r1, d1, hr1, hd1, e1⟩ := eBelowV (i := 0) (j := 1) (sl := mkSl 13 [.obj k, iV mx]) (s := st) (n := mx) rfl hkl hd rfl (by omega) (by omega)
  rw [W_of hk] at e1
  obtain ⟨nms, d2, n1, n2, n3, hd2, e2⟩ := eNames (s := st) (k := k) (d := d1) (many := 1 + r1) (sl := [some (.obj k), some (iV mx), some (iV ((1 + r1 : Nat) : Int)), none, none, none, none, none, none, none, none, none, none]) rfl rfl hkl hc hd1 (by omega) (by omega)
  obtain ⟨m3, d3, hm3, hd3, e3⟩ := eMenu (i := 0) (z := 3) (s := st) (k := k) (d := d2) (sl := [some (.obj k), some (iV mx), some (iV ((1 + r1 : Nat) : Int)), some (.val (.tup (nms.map strL))), none, none, none, none, none, none, none, none, none]) (m := eArgs Cl.gLst (aCons (eC (.int 10)) (aCons (eC (.int 24)) (aCons (eC (.int 60)) aNil)))) (xs := [10, 24, 60]) rfl hkl hd2 (by simp [Cl.gLst]) (by decide) (by decide)
  have hm3' : 0 < m3 ∧ m3 ≤ 60 := by
    simp only [List.mem_cons, List.not_mem_nil, or_false] at hm3; omega
  obtain ⟨r4, d4, hr4, hd4, e4⟩ := eBelow (i := 0) rfl hkl e3 hd3 hm3'.1 (by omega)
  have sl5 : Sl := []
  obtain ⟨m5, d5, hm5, hd5, e5⟩ := eMenu (i := 0) (z := 3) (s := st ++ [.lst []]) (k := k) (d := d4) (sl := wSl k (1 + r1) (1 + r4) st.length (.tup (nms.map strL)) (some (iV mx)) none none) (m := eArgs Cl.gLst (aCons (eC (.int 4)) (aCons (eC (.int 8)) (aCons (eC (.int 13)) aNil)))) (xs := [4, 8, 13]) rfl (by rw [List.length_append]; omega) hd4 (by simp [Cl.gLst]) (by decide) (by decide)
  have hm5' : 0 < m5 ∧ m5 ≤ 13 := by
    simp only [List.mem_cons, List.not_mem_nil, or_false] at hm5; omega
  obtain ⟨r6, d6, hr6, hd6, e6⟩ := eBelow (i := 0) rfl (by rw [List.length_append]; omega) e5 hd5 hm5'.1 (by omega)
  obtain ⟨starts, x6, x7, d7, s1, s2, hd7, e7⟩ := wide_loop (s := st) (k := k) (many := 1 + r1) (len := 1 + r4) (names := .tup (nms.map strL)) (x1 := some (iV mx)) (d := d6) hkl hd6 (by omega) (by omega) (by omega) (by omega) r6 (by omega)
  -- pauses
  have hkl2 : k < (st ++ [O.lst (starts.map triV)]).length := by rw [List.length_append]; omega
  have hc2 : Closed (st ++ [O.lst (starts.map triV)]) := ck _ (by simp)
  obtain ⟨r8, d8, hr8, hd8, e8⟩ := eBelowC (i := 0) (z := 2) (s := st ++ [O.lst (starts.map triV)]) (k := k) (d := d7) (sl := (wSl k (1 + r1) (1 + r4) st.length (.tup (nms.map strL)) (some (iV mx)) x6 x7).set 8 (some (.val (.lst [])))) rfl hkl2 hd7 2 (by decide) (by decide)
  have e8t := tEq0 e8
  have pz : ∃ (pau : List Nat) (x9 : Option S) (d9 : List Int), pau.Pairwise (· < ·) ∧ (∀ t ∈ pau, t < 1 + r4) ∧ GoodD d9 ∧ sIf (tBin gEq (eArgs (gCallO 2 F__law_below []) (aCons (eVar 0) (aCons (eC (.int 2)) aNil))) (eC (.int 0))) (sSeq (sSet 9 (eBin gAdd (eC (.int 1)) (eArgs (gCallO 2 F__law_below []) (aCons (eVar 0) (aCons (eC (.int 3)) aNil)))))
      (sSet 8 (eLc [6] (iArgs gRange1 (aCons (eVar 4) aNil)) (tgName 6) t1__law_wide e3__law_wide))) sNext ((wSl k (1 + r1) (1 + r4) st.length (.tup (nms.map strL)) (some (iV mx)) x6 x7).set 8 (some (.val (.lst [])))) (W (st ++ [O.lst (starts.map triV)]) k d7) =
        some (.nx, ((wSl k (1 + r1) (1 + r4) st.length (.tup (nms.map strL)) (some (iV mx)) x6 x7).set 8 (some (.val (.lst (pau.map iD))))).set 9 x9, W (st ++ [O.lst (starts.map triV)]) k d9) := by
    by_cases h : r8 = 0
    · rw [h] at e8t
      simp only [decide_true] at e8t
      obtain ⟨r9, d9, hr9, hd9, e9⟩ := eBelowC (i := 0) (z := 3) (s := st ++ [O.lst (starts.map triV)]) (k := k) (d := d8) (sl := (wSl k (1 + r1) (1 + r4) st.length (.tup (nms.map strL)) (some (iV mx)) x6 x7).set 8 (some (.val (.lst [])))) rfl hkl2 hd8 3 (by decide) (by decide)
      obtain ⟨pau, d10, p1, p2, hd10, e10⟩ := pause_comp (s := st ++ [O.lst (starts.map triV)]) (k := k) (len := 1 + r4) (share := 1 + r9) (d := d9) (sl := ((wSl k (1 + r1) (1 + r4) st.length (.tup (nms.map strL)) (some (iV mx)) x6 x7).set 8 (some (.val (.lst [])))).set 9 (some (iV ((1 + r9 : Nat) : Int)))) rfl rfl rfl rfl hkl2 hd9 (by omega)
      refine ⟨pau, some (iV ((1 + r9 : Nat) : Int)), d10, p1, p2, hd10, ?_⟩
      rw [if_t e8t, seq_nx (set_nx (eOne e9)), set_nx e10]
      rfl
    · simp only [h, decide_false] at e8t
      exact ⟨[], none, d8, List.Pairwise.nil, by simp, hd8, by rw [if_f e8t]; rfl⟩
  obtain ⟨pau, x9, d9, p1, p2, hd9, e9⟩ := pz
  obtain ⟨rks, d10, k1, hd10, e10⟩ := eRanks (s := st ++ [O.lst (starts.map triV)]) (k := k) (many := 1 + r1) (d := d9) (sl := ((wSl k (1 + r1) (1 + r4) st.length (.tup (nms.map strL)) (some (iV mx)) x6 x7).set 8 (some (.val (.lst (pau.map iD))))).set 9 x9) rfl rfl hkl2 hc2 hd9 (by omega)
  have gst : ∀ d, (W (st ++ [O.lst (starts.map triV)]) k d)[st.length]? = some (.lst (starts.map triV)) := fun d => by rw [W_ne hne]; exact get_r0 rfl
  have e11 := places_comp (sl := (((wSl k (1 + r1) (1 + r4) st.length (.tup (nms.map strL)) (some (iV mx)) x6 x7).set 8 (some (.val (.lst (pau.map iD))))).set 9 x9).set 10 (some (.val (.lst (rks.map iD))))) (n := st.length) (starts := starts) rfl (gst d10) rfl (by omega)
  obtain ⟨m12, d12, hm12, hd12, e12⟩ := eMenu (i := 0) (z := 2) (s := st ++ [O.lst (starts.map triV)]) (k := k) (d := d10) (sl := ((((wSl k (1 + r1) (1 + r4) st.length (.tup (nms.map strL)) (some (iV mx)) x6 x7).set 8 (some (.val (.lst (pau.map iD))))).set 9 x9).set 10 (some (.val (.lst (rks.map iD))))).set 11 (some (.val (.lst ((placesOf starts).map triD))))) (m := eArgs Cl.gLst (aCons (eC (.int 2)) (aCons (eC (.int 9)) aNil))) (xs := [2, 9]) rfl hkl2 hd10 (by simp [Cl.gLst]) (by decide) (by decide)
  have hm12' : 0 < m12 ∧ m12 ≤ 9 := by
    simp only [List.mem_cons, List.not_mem_nil, or_false] at hm12; omega
  obtain ⟨r13, d13, hr13, hd13, e13⟩ := eBelow (i := 0) rfl hkl2 e12 hd12 hm12'.1 (by omega)
  have e14 := by_comp (sl := (((((wSl k (1 + r1) (1 + r4) st.length (.tup (nms.map strL)) (some (iV mx)) x6 x7).set 8 (some (.val (.lst (pau.map iD))))).set 9 x9).set 10 (some (.val (.lst (rks.map iD))))).set 11 (some (.val (.lst ((placesOf starts).map triD))))).set 1 (some (iV ((1 + r13 : Nat) : Int)))) (n := st.length) (starts := starts) rfl rfl (gst d13) rfl (by omega)
  refine ⟨⟨1 + r4, 1 + r13, nms, rks, startsBy starts, pau⟩, d13, par_pok (many := 1 + r1) (by omega) (by omega) (by omega) (by omega) (by omega) (by omega) n1 n2 n3 k1 s2 (by omega) p1 p2, by show nms.length ≤ mx; omega, hd13, ?_⟩
  have body : ∃ sl', b__law_wide (mkSl 13 [.obj k, iV mx]) st = some (.rt (.val (Pl.d ⟨1 + r4, 1 + r13, nms, rks, startsBy starts, pau⟩)), sl', W (st ++ [O.lst (starts.map triV)]) k d13) := by
    refine ⟨(((((wSl k (1 + r1) (1 + r4) st.length (.tup (nms.map strL)) (some (iV mx)) x6 x7).set 8 (some (.val (.lst (pau.map iD))))).set 9 x9).set 10 (some (.val (.lst (rks.map iD))))).set 11 (some (.val (.lst ((placesOf starts).map triD))))).set 1 (some (iV ((1 + r13 : Nat) : Int))), ?_⟩
    unfold b__law_wide
    refine (seq_nx (set_nx (eOne e1))).trans ?_
    refine (seq_nx (set_nx e2)).trans ?_
    refine (seq_nx (set_nx (eOne e4))).trans ?_
    refine (seq_nx (set_nx (d := .obj st.length) (st' := W (st ++ [.lst []]) k d4) ?_)).trans ?_
    · simp [gLstO, W_app hkl]
    refine (seq_nx (sl' := wSl k (1 + r1) (1 + r4) st.length (.tup (nms.map strL)) (some (iV mx)) x6 x7) (st' := W (st ++ [O.lst (starts.map triV)]) k d7) ?_).trans ?_
    · have hr : iArgs gRange1 (aCons (eArgs (gCallO 2 F__law_below []) (aCons (eVar 0) (aCons (eBin gIx (eArgs Cl.gLst (aCons (eC (.int 4)) (aCons (eC (.int 8)) (aCons (eC (.int 13)) aNil)))) (eArgs (gCallO 2 F__law_below []) (aCons (eVar 0) (aCons (eC (.int 3)) aNil)))) aNil))) aNil) (wSl k (1 + r1) (1 + r4) st.length (.tup (nms.map strL)) (some (iV mx)) none none) (W (st ++ [.lst []]) k d4) = some (.ok ((List.range r6).map fun i : Nat => S.val (iD i), always), W (st ++ [.lst []]) k d6) := by
        rw [iargs1 e6]
        exact range_val r6 (by omega) _
      show sFor _ _ _ (wSl k (1 + r1) (1 + r4) st.length (.tup (nms.map strL)) (some (iV mx)) none none) (W (st ++ [.lst []]) k d4) = _
      unfold sFor sBind
      simp only [hr]
      exact e7
    refine (seq_nx (set_nx (d := .val (.lst [])) (st' := W (st ++ [O.lst (starts.map triV)]) k d7) ?_)).trans ?_
    · simp [Cl.gLst]
    refine (seq_nx e9).trans ?_
    refine (seq_nx (set_nx e10)).trans ?_
    refine (seq_nx (set_nx e11)).trans ?_
    refine (seq_nx (set_nx (eOne e13))).trans ?_
    refine ret_ok ?_
    have v4 := var_val (i := 4) (st := W (st ++ [O.lst (starts.map triV)]) k d13) (v := .int ((1 + r4 : Nat) : Int)) (sl := (((((wSl k (1 + r1) (1 + r4) st.length (.tup (nms.map strL)) (some (iV mx)) x6 x7).set 8 (some (.val (.lst (pau.map iD))))).set 9 x9).set 10 (some (.val (.lst (rks.map iD))))).set 11 (some (.val (.lst ((placesOf starts).map triD))))).set 1 (some (iV ((1 + r13 : Nat) : Int)))) rfl
    generalize hsl : (((((wSl k (1 + r1) (1 + r4) st.length (.tup (nms.map strL)) (some (iV mx)) x6 x7).set 8 (some (.val (.lst (pau.map iD))))).set 9 x9).set 10 (some (.val (.lst (rks.map iD))))).set 11 (some (.val (.lst ((placesOf starts).map triD))))).set 1 (some (iV ((1 + r13 : Nat) : Int))) = slf at e14 v4 ⊢
    have v1 := var_val (i := 1) (st := W (st ++ [O.lst (starts.map triV)]) k d13) (v := .int ((1 + r13 : Nat) : Int)) (sl := slf) (by rw [← hsl]; rfl)
    have v3 := var_val (i := 3) (st := W (st ++ [O.lst (starts.map triV)]) k d13) (v := .tup (nms.map strL)) (sl := slf) (by rw [← hsl]; rfl)
    have v10 := var_val (i := 10) (st := W (st ++ [O.lst (starts.map triV)]) k d13) (v := .lst (rks.map iD)) (sl := slf) (by rw [← hsl]; rfl)
    have v8 := var_val (i := 8) (st := W (st ++ [O.lst (starts.map triV)]) k d13) (v := .lst (pau.map iD)) (sl := slf) (by rw [← hsl]; rfl)
    unfold eArgs aCons
    simp only [M.bind, v4, v1, v3, v10, e14, v8, aCons, aNil, M.pure]
    simp [Cl.gTup, Pl.d]
  obtain ⟨sl', body⟩ := body
  unfold F__law_wide asC
  rw [body, ← W_app hkl]
  exact exitC_rt (W_closed hc) W_len
end G
namespace G
open PySem L2 Cl
theorem wd_key (s : String) (h : Str.ofString s ∈ keyW) (h2 : (s.toList.map Char.toNat).all isLet = true) (h3 : 1 ≤ (s.toList.map Char.toNat).length) : WdOk (kyw s) :=
  .key ⟨by show Sc (kyw s).2 ∈ keyW; rw [Sc_kyw]; exact h, fun c hc => List.all_eq_true.mp h2 c hc, h3⟩
theorem wd_round : WdOk (kyw "round") := wd_key _ (by simp [keyW]) (by decide) (by decide)
theorem wd_open : WdOk (kyw "open") := wd_key _ (by simp [keyW]) (by decide) (by decide)
theorem wd_valves : WdOk (kyw "valves") := wd_key _ (by simp [keyW]) (by decide) (by decide)
theorem wd_start : WdOk (kyw "start") := wd_key _ (by simp [keyW]) (by decide) (by decide)
theorem wd_for : WdOk (kyw "for") := wd_key _ (by simp [keyW]) (by decide) (by decide)
theorem wd_pause : WdOk (kyw "pause") := wd_key _ (by simp [keyW]) (by decide) (by decide)
theorem wd_rank : WdOk (kyw "rank") := wd_key _ (by simp [keyW]) (by decide) (by decide)
theorem wd_num {n : Nat} (h : n < 100) : WdOk (nuw n) := by
  refine .num ⟨?_, TL.numL_len (by decide) (by omega), fun c hc => ?_, ?_⟩
  · have := TL.numL_ne n
    cases e : TL.numL n with
    | nil => exact absurd e this
    | cons a l => simp
  · have := TL.numL_digits n c hc
    simp only [isDig, Bool.and_eq_true, decide_eq_true_eq]
    exact this
  · rcases Nat.lt_or_ge n 10 with h1 | h1
    · left; rw [TL.numL_lt h1]; rfl
    · right
      intro r e
      rw [TL.numL_step h1, TL.numL_lt (by omega)] at e
      simp only [List.cons_append, List.nil_append, List.cons.injEq] at e
      omega
theorem wd_name {p : Pl} (h : Pok p) {j : Nat} (hj : j < p.nms.length) : WdOk (naw (p.nms.getD j [])) := by
  refine .name (h.nw _ ?_)
  simp [List.getD, hj]
theorem lines_ok {p : Pl} (h : Pok p) : ∀ ws ∈ p.lines, ws ≠ [] ∧ (∀ x ∈ ws, WdOk x) ∧ ws.length ≤ 9 := by
  have h60 := h.l2
  intro ws hw
  rw [lines_eq] at hw
  simp only [List.mem_append] at hw
  rcases hw with ((hw | hw) | hw) | hw
  · simp only [Pl.l3, List.mem_cons, List.not_mem_nil, or_false] at hw
    rcases hw with rfl | rfl | rfl
    · refine ⟨by simp, fun x hx => ?_, by simp⟩
      simp only [List.mem_cons, List.not_mem_nil, or_false] at hx
      rcases hx with rfl | rfl
      · exact wd_round
      · exact wd_num (by omega)
    · refine ⟨by simp, fun x hx => ?_, by simp⟩
      simp only [List.mem_cons, List.not_mem_nil, or_false] at hx
      rcases hx with rfl | rfl
      · exact wd_open
      · exact wd_num (by have := h.m2; omega)
    · refine ⟨by simp, fun x hx => ?_, by simp; exact h.n2⟩
      rcases List.mem_cons.mp hx with rfl | hx
      · exact wd_valves
      · obtain ⟨w, hw, rfl⟩ := List.mem_map.mp hx
        exact .name (h.nw w hw)
  · unfold Pl.lr at hw
    split at hw
    · cases hw
    · rw [List.mem_singleton.mp hw]
      refine ⟨by simp, fun x hx => ?_, by simp; rw [rks_len h]; exact h.n2⟩
      rcases List.mem_cons.mp hx with rfl | hx
      · exact wd_rank
      · obtain ⟨j, hj, rfl⟩ := List.mem_map.mp hx
        exact wd_name h (rks_lt h hj)
  · obtain ⟨s, hs, rfl⟩ := List.mem_map.mp hw
    obtain ⟨h1, h2, h3, h4⟩ := h.st s hs
    refine ⟨by simp, fun x hx => ?_, by simp⟩
    simp only [List.mem_cons, List.not_mem_nil, or_false] at hx
    rcases hx with rfl | rfl | rfl | rfl | rfl
    · exact wd_start
    · exact wd_name h h2
    · exact wd_num (by omega)
    · exact wd_for
    · exact wd_num (by omega)
  · obtain ⟨q, hq, rfl⟩ := List.mem_map.mp hw
    obtain ⟨h1, h2⟩ := runs_lt h q hq
    refine ⟨by simp, fun x hx => ?_, by simp⟩
    simp only [List.mem_cons, List.not_mem_nil, or_false] at hx
    rcases hx with rfl | rfl | rfl
    · exact wd_pause
    · exact wd_num (by omega)
    · exact wd_num (by omega)
theorem lines_len {p : Pl} (h : Pok p) : p.lines.length ≤ 100 := by
  rw [lines_eq]
  have h1 := h.s20
  have h2 := runsL_len p.pau
  have h3 := pau_len h
  simp only [List.length_append, Pl.l3, Pl.lr, Pl.ls, Pl.lp, List.length_cons, List.length_nil, List.length_map]
  split <;> simp <;> omega
theorem joinL_len (s : List Nat) : ∀ l : List (List Nat), (TL.joinL s l).length ≤ (l.map List.length).sum + l.length * s.length
  | [] => by simp [TL.joinL]
  | [x] => by simp [TL.joinL]
  | x :: y :: l => by
    have := joinL_len s (y :: l)
    have e : TL.joinL s (x :: y :: l) = x ++ (s ++ TL.joinL s (y :: l)) := by simp [TL.joinL]
    rw [e]
    simp only [List.length_append, List.map_cons, List.sum_cons, List.length_cons, Nat.add_mul, Nat.one_mul] at this ⊢
    omega
theorem sum_le {l : List (List Nat)} {k : Nat} (h : ∀ x ∈ l, x.length ≤ k) : (l.map List.length).sum ≤ l.length * k := by
  induction l with
  | nil => simp
  | cons a l ih =>
    have h1 := ih fun x hx => h x (List.mem_cons_of_mem _ hx)
    have h2 := h a List.mem_cons_self
    simp only [List.map_cons, List.sum_cons, List.length_cons, Nat.add_mul, Nat.one_mul]
    omega
theorem line_len {ws : List KW} (h : ∀ x ∈ ws, WdOk x) (hl : ws.length ≤ 9) : (lineOf ws).length ≤ 100 := by
  unfold lineOf
  have h1 := joinL_len [32] (ws.map (·.2))
  have h2 := sum_le (l := ws.map (·.2)) (k := 8) fun x hx => by
    obtain ⟨y, hy, rfl⟩ := List.mem_map.mp hx
    exact (wd_ok (h y hy)).2.2
  simp only [List.length_append, List.length_map, List.length_singleton] at h1 h2 ⊢
  omega
theorem join_eq (sep : List Nat) (ls : List (List Nat)) (st : List O) (hz : (ls.map List.length).sum + ls.length * sep.length ≤ 16777216) : gJoin (.val (.str (Sc sep))) [.val (.lst (ls.map strL))] st = some (.ok (.val (strL (TL.joinL sep ls))), st) := by
  have e1 : strsD (ls.map strL) = some (ls.map Sc) := by
    clear hz
    induction ls with
    | nil => rfl
    | cons a l ih => rw [List.map_cons, strL, strsD, ih]; rfl
  have e2 : Txt.join (Sc sep) (ls.map Sc) = Sc (TL.joinL sep ls) := SX.join_S sep ls
  have e3 : (ls.map Sc).map (·.length) = ls.map List.length := by simp [Function.comp_def]
  have dd : datas ((ls.map strL).map S.val) = some (ls.map strL) := datas_map _
  unfold gJoin
  simp only [seqOf, lstOf, Option.bind_some, dd, e1]
  rw [e3, if_pos (by rw [List.length_map, Sc_len]; exact hz), e2]
  rfl
theorem gAdd_str (a b : List Nat) (st : List O) (h : a.length + b.length ≤ sizeLine) : gAdd (.val (.str (Sc a))) (.val (.str (Sc b))) st = some (.ok (.val (.str (Sc (a ++ b)))), st) := by
  have e : Sc a ++ Sc b = Sc (a ++ b) := SX.S_cat a b
  simp [gAdd, h, e]
theorem lit_32 : Str.ofString " " = Sc [32] := by rw [Sc_of]; rfl
theorem text_6 {p : Pl} (h : Pok p) (o1 o2 : O) : (eBM "str" gJoin (eC (.str "\n")) (aCons (eLc [14] (iOf (eVar 7)) (tgName 14) tTrue e1__law_text) aNil)) (tSl p (some (.obj 2))) [o1, o2, .lst (p.lines.map wV)] = some (.ok (.val (strL p.text)), [o1, o2, .lst (p.lines.map wV)]) := by
  generalize hst : ([o1, o2, .lst (p.lines.map wV)] : List O) = st
  have h2 : st[2]? = some (.lst (p.lines.map wV)) := by rw [← hst]; rfl
  have hlc := eLc_all (vs := [14]) (fi := iOf (eVar 7)) (g := tgName 14) (e := e1__law_text) (sl := tSl p (some (.obj 2))) (st := st) (C := fun st' => st'[2]? = some (.lst (p.lines.map wV))) (fun ws : List KW => wV ws)
    (fun ws => strL (lineOf ws)) p.lines (by simp [tSl, gIter, h2]) h2 (Nat.le_of_lt (sizes (by have := lines_len h; omega)))
    (fun ws hw => by
      obtain ⟨w1, w2, w3⟩ := lines_ok h ws hw
      have e1 := join_words ws w2 (by omega) st
      have hl := line_len w2 w3
      unfold lineOf at hl
      rw [List.length_append] at hl
      have e2 := gAdd_str (TL.joinL [32] (ws.map (·.2))) [59] st (Nat.le_of_lt (sizes (by omega)))
      refine ⟨(wipeS (tSl p (some (.obj 2))) [14]).set 14 (some (wV ws)), rfl, ?_⟩
      unfold e1__law_text
      rw [lit_32, lit_semi]
      simp [tSl, wV, e1, e2, strL, lineOf])
  have hz : ((p.lines.map lineOf).map List.length).sum + (p.lines.map lineOf).length * [10].length ≤ 16777216 := by
    have h1 := sum_le (l := p.lines.map lineOf) (k := 100) fun x hx => by
      obtain ⟨ws, hw, rfl⟩ := List.mem_map.mp hx
      obtain ⟨w1, w2, w3⟩ := lines_ok h ws hw
      exact line_len w2 w3
    have h2 := lines_len h
    simp only [List.length_map, List.length_singleton] at h1 ⊢
    omega
  have hj := join_eq [10] (p.lines.map lineOf) st hz
  rw [lit_nl]
  rw [List.map_map] at hj
  simp [-eLc, hlc, Function.comp_def] at hj ⊢
  rw [hj]
  rfl
theorem law_text_eq {p : Pl} (h : Pok p) : F__law_text [p.d] = some (.ok (strL p.text)) := by
  unfold F__law_text asP b__law_text
  rw [List.map_cons, List.map_nil, seq_nx (text_1 h), seq_nx (text_2 h), seq_nx (text_3 h), seq_nx (text_4 h), seq_nx (text_5 h), ret_ok (text_6 h _ _)]
  simp [deepD]
end G
namespace G
open PySem L2 Cl
theorem parser_init (toks : D) : F_Parser_init [.obj 0, .val toks] [.ins "Parser" []] = some (.ok (.val .non), [.ins "Parser" [("tokens", .val toks), ("at", .val (.int 0)), ("faults", .obj 1), ("names", .obj 2), ("starts", .obj 3), ("pauses", .obj 4), ("ranks", .val .non)], .lst [], .lst [], .lst [], .lst []]) := by
  have z0 : (0 : Nat) ≤ sizeLine := Nat.zero_le _
  simp [F_Parser_init, b_Parser_init, gLstO, z0]
structure LoadOk (len most : Nat) (nms : List (List Nat)) (ss : List Sm) : Prop where
  l1 : 1 ≤ len
  l2 : len ≤ 60
  m1 : 1 ≤ most
  m2 : most ≤ 9
  n1 : nms ≠ []
  n2 : nms.length ≤ 8
  nd : nms.Nodup
  nw : ∀ w ∈ nms, NmW w
  sok : ∀ s ∈ ss, SmOk nms len s
  s20 : (startsOf ss).length ≤ 20
  p900 : (pausesOf ss).length ≤ 900
  r1 : (ranksOf ss).length ≤ 1
theorem Sc_inj {a b : List Nat} (h : Sc a = Sc b) : a = b := by simpa using h
theorem load_words {s : List Nat} (hok : okC s) (hl : s.length ≤ 4000000) {len most : Nat} {nms : List (List Nat)} {ss : List Sm} (P : LoadOk len most nms ss) (hx : lexK s = some (headW len most nms ++ (ss.map (smW nms)).flatten)) :
    F_load [.str (Sc s)] = some (.ok (planD len most (nms.map Sc) ((startsOf ss).mergeSort leTwo) ((List.range len).map fun i => .bl (pausedAt (prsOf ss) i)) ((rankOf nms.length (ranksOf ss)).map iD))) := by
  obtain ⟨ts, n, ht, hk⟩ := tokens_of hok hl hx
  unfold headW at hk
  simp only [List.cons_append, List.nil_append] at hk
  obtain ⟨t1, r1, rfl, e1, hk⟩ := List.map_eq_cons_iff.mp hk
  obtain ⟨t2, r2, rfl, e2, hk⟩ := List.map_eq_cons_iff.mp hk
  obtain ⟨t3, r3, rfl, e3, hk⟩ := List.map_eq_cons_iff.mp hk
  obtain ⟨t4, r4, rfl, e4, hk⟩ := List.map_eq_cons_iff.mp hk
  obtain ⟨t5, r5, rfl, e5, hk⟩ := List.map_eq_cons_iff.mp hk
  obtain ⟨t6, r6, rfl, e6, hk⟩ := List.map_eq_cons_iff.mp hk
  obtain ⟨t7, r7, rfl, e7, hk⟩ := List.map_eq_cons_iff.mp hk
  obtain ⟨rA, r9, rfl, hkA, hk9⟩ := List.map_eq_append_iff.mp hk
  obtain ⟨r8, r10, rfl, hk8, hk10⟩ := List.map_eq_append_iff.mp hkA
  obtain ⟨t11, r11, rfl, e11, hk11⟩ := List.map_eq_cons_iff.mp hk10
  have hn := List.map_eq_nil_iff.mp hk11
  subst hn
  obtain ⟨gs, g1, g2⟩ := sms_toks P.n2 P.l2 ss r9 P.sok hk9
  have key : ∀ (nms : List (List Nat)) (r8 : List Tk), r8.map kw = nms.map naw → ∃ ns : List (Str × Int × Int), ns.map (·.1) = nms.map Sc ∧ ns.map nmD = r8.map Tk.d := by
    intro nms
    induction nms with
    | nil => intro r8 h; rw [List.map_nil, List.map_eq_nil_iff] at h; subst h; exact ⟨[], rfl, rfl⟩
    | cons w nms ih =>
      intro r8 h
      rw [List.map_cons] at h
      obtain ⟨t, r, rfl, e, h⟩ := List.map_eq_cons_iff.mp h
      obtain ⟨ns, i1, i2⟩ := ih r h
      exact ⟨(Sc w, t.l, t.c) :: ns, by rw [List.map_cons, List.map_cons, i1], by rw [List.map_cons, List.map_cons, i2, kw_inj e]⟩
  obtain ⟨ns, i1, i2⟩ := key nms r8 hk8
  match ns, i1, i2 with
  | [], i1, _ => exact absurd (List.map_eq_nil_iff.mp i1.symm) P.n1
  | nn :: ns, i1, i2 =>
    have hlen := congrArg List.length i1
    simp only [List.length_map] at hlen
    have ok : NmOk (nms.map Sc) := ⟨P.nd.map Sc fun a b hab e => hab (Sc_inj e), fun x hx => by
      obtain ⟨w, hw, rfl⟩ := List.mem_map.mp hx
      exact ok_Sc (wd_ok (WdOk.name (P.nw w hw))).1⟩
    obtain ⟨q, hq⟩ := parse_plan_eq (toks := (t1 :: t2 :: t3 :: t4 :: t5 :: t6 :: t7 :: (r8 ++ [t11] ++ r9)).map Tk.d ++ [tokD "end" "" n 0]) (len := len) (most := most) (n := nn) (ns := ns) (ss := ss) (ts := gs) (rest := []) (by rw [i1]; exact ok) (by rw [hlen]; exact P.n2) (by rw [i1]; exact g2) (Num_num (n := len) (by have := P.l2; omega)) (Num_num (n := most) (by have := P.m2; omega)) ⟨P.l1, P.l2⟩ ⟨P.m1, P.m2⟩ P.s20 P.p900 P.r1 (by
        simp only [List.map_cons, List.map_append, List.map_nil]
        rw [← i2, ← g1, kw_inj e1, kw_inj e2, kw_inj e3, kw_inj e4, kw_inj e5, kw_inj e6, kw_inj e7, kw_inj e11, ← Sc_of, ← Sc_of, ← Sc_of, ← lit_semi]
        simp only [List.cons_append, List.append_assoc, List.nil_append, List.map_cons]
        rfl)
    rw [i1, hlen] at hq
    generalize (t1 :: t2 :: t3 :: t4 :: t5 :: t6 :: t7 :: (r8 ++ [t11] ++ r9)).map Tk.d ++ [tokD "end" "" n 0] = toks at hq ht
    have hi := parser_init (.lst toks)
    have hp : (PSt toks ⟨0, [], [], [], [], .non⟩ [] : List O) = [.ins "Parser" [("tokens", .val (.lst toks)), ("at", .val (.int 0)), ("faults", .obj 1), ("names", .obj 2), ("starts", .obj 3), ("pauses", .obj 4), ("ranks", .val .non)], .lst [], .lst [], .lst [], .lst []] := rfl
    rw [hp] at hq
    simp [F_load, b_load, ht, hi, hq, deepD]
end G
namespace G
open PySem L2 Cl
/-! ### load of a plan's text -/
def Pl.parsed (p : Pl) : D := planD p.len p.most (p.nms.map Sc) (p.sts.map triD) ((List.range p.len).map fun i => .bl (decide (i ∈ p.pau))) (p.rks.map iD)
def Pl.sms (p : Pl) : List Sm := (if p.rks = List.range p.nms.length then [] else [.rank p.rks]) ++ (p.sts.map fun s => .start s.1 s.2.1 s.2.2) ++ ((runsL p.pau).map fun q => .pause q.1 q.2)
theorem startsOf_app (a b : List Sm) : startsOf (a ++ b) = startsOf a ++ startsOf b := by
  induction a with
  | nil => rfl
  | cons s a ih => cases s <;> simp [startsOf, ih]
theorem pausesOf_app (a b : List Sm) : pausesOf (a ++ b) = pausesOf a ++ pausesOf b := by
  induction a with
  | nil => rfl
  | cons s a ih => cases s <;> simp [pausesOf, ih]
theorem prsOf_app (a b : List Sm) : prsOf (a ++ b) = prsOf a ++ prsOf b := by
  induction a with
  | nil => rfl
  | cons s a ih => cases s <;> simp [prsOf, ih]
theorem ranksOf_app (a b : List Sm) : ranksOf (a ++ b) = ranksOf a ++ ranksOf b := by
  induction a with
  | nil => rfl
  | cons s a ih => cases s <;> simp [ranksOf, ih]
theorem of_starts (l : List (Nat × Nat × Nat)) : startsOf (l.map fun s => .start s.1 s.2.1 s.2.2) = l.map triD ∧ prsOf (l.map fun s => .start s.1 s.2.1 s.2.2) = [] ∧ ranksOf (l.map fun s => .start s.1 s.2.1 s.2.2) = [] := by
  induction l with
  | nil => exact ⟨rfl, rfl, rfl⟩
  | cons s l ih => simp [startsOf, prsOf, ranksOf, ih]
theorem of_pauses (l : List (Nat × Nat)) : startsOf (l.map fun q => .pause q.1 q.2) = [] ∧ prsOf (l.map fun q => .pause q.1 q.2) = l ∧ ranksOf (l.map fun q => .pause q.1 q.2) = [] := by
  induction l with
  | nil => exact ⟨rfl, rfl, rfl⟩
  | cons s l ih => simp [startsOf, prsOf, ranksOf, ih]
def Pl.rkS (p : Pl) : List (List Nat) := if p.rks = List.range p.nms.length then [] else [p.rks]
theorem sms_of (p : Pl) : startsOf p.sms = p.sts.map triD ∧ prsOf p.sms = runsL p.pau ∧ ranksOf p.sms = p.rkS := by
  unfold Pl.sms Pl.rkS
  have h1 := of_starts p.sts
  have h2 := of_pauses (runsL p.pau)
  rw [startsOf_app, startsOf_app, prsOf_app, prsOf_app, ranksOf_app, ranksOf_app, h1.1, h1.2.1, h1.2.2, h2.1, h2.2.1, h2.2.2]
  split <;> simp [startsOf, prsOf, ranksOf]
theorem rank_of {p : Pl} (h : Pok p) : rankOf p.nms.length p.rkS = p.rks := by
  unfold Pl.rkS
  split
  · rename_i e; simp [rankOf, e]
  · simp only [rankOf]
    have : ((List.range p.nms.length).filter fun i => !decide (i ∈ p.rks)) = [] := by
      rw [List.filter_eq_nil_iff]
      intro i hi
      have : i ∈ p.rks := h.rk.mem_iff.mpr hi
      simp [this]
    rw [this, List.append_nil]
theorem sort_starts {p : Pl} (h : Pok p) : (p.sts.map triD).mergeSort leTwo = p.sts.map triD := by
  refine List.mergeSort_of_pairwise ?_
  rw [List.pairwise_map]
  refine h.srt.imp fun {a b} hab => ?_
  simp [leTwo, tri, twoD, twoO]
  omega
/-- the runs cover just the ticks -/
def cov (fs : List (Nat × Nat)) (i : Nat) : Prop := ∃ q ∈ fs, q.1 ≤ i ∧ i ≤ q.2
theorem runs_cov : ∀ (ps : List Nat) (fs : List (Nat × Nat)), ps.Pairwise (· < ·) → (∀ q ∈ fs, q.1 ≤ q.2 ∧ ∀ t ∈ ps, q.2 < t) → (∀ i, cov (ps.foldl runStep fs) i ↔ cov fs i ∨ i ∈ ps)
  | [], fs, _, _ => fun i => by simp
  | t :: ps, fs, hp, hf => by
    intro i
    rw [List.foldl_cons]
    have ht := List.pairwise_cons.mp hp
    rcases List.eq_nil_or_concat fs with rfl | ⟨L, ab, rfl⟩
    · rw [runStep_nil, runs_cov ps [(t, t)] ht.2 (fun q hq => by rw [List.mem_singleton.mp hq]; exact ⟨Nat.le_refl _, ht.1⟩) i]
      constructor
      · rintro (⟨q, h1, h2⟩ | h)
        · rw [List.mem_singleton.mp h1] at h2
          simp only at h2
          exact .inr (by rw [show i = t by omega]; exact List.mem_cons_self)
        · exact .inr (List.mem_cons_of_mem _ h)
      · rintro (⟨q, h1, h2⟩ | h)
        · cases h1
        · rcases List.mem_cons.mp h with rfl | h
          · exact .inl ⟨(i, i), by simp, Nat.le_refl _, Nat.le_refl _⟩
          · exact .inr h
    · obtain ⟨a, b⟩ := ab
      rw [List.concat_eq_append] at hf ⊢
      have hab := hf (a, b) (by simp)
      rw [runStep_app]
      split
      · rename_i hb
        subst hb
        rw [runs_cov ps (L ++ [(a, b + 1)]) ht.2 (fun q hq => by
          rcases List.mem_append.mp hq with h | h
          · exact ⟨(hf q (List.mem_append_left _ h)).1, fun t' ht' => (hf q (List.mem_append_left _ h)).2 t' (List.mem_cons_of_mem _ ht')⟩
          · rw [List.mem_singleton.mp h]; exact ⟨by have := hab.1; simp only at this ⊢; omega, ht.1⟩) i]
        simp only [cov, List.mem_append, List.mem_cons, List.not_mem_nil, or_false]
        have := hab.1
        simp only at this
        constructor
        · rintro (⟨q, h1 | h1, h2⟩ | h)
          · exact .inl ⟨q, .inl h1, h2⟩
          · subst h1
            simp only at h2
            by_cases e : i = b + 1
            · exact .inr (.inl e)
            · exact .inl ⟨(a, b), .inr rfl, h2.1, by simp only; omega⟩
          · exact .inr (.inr h)
        · rintro (⟨q, h1 | h1, h2⟩ | h | h)
          · exact .inl ⟨q, .inl h1, h2⟩
          · subst h1
            simp only at h2
            exact .inl ⟨(a, b + 1), .inr rfl, h2.1, by simp only; omega⟩
          · exact .inl ⟨(a, b + 1), .inr rfl, by simp only; omega, by simp only; omega⟩
          · exact .inr h
      · rw [show L ++ [(a, b), (t, t)] = (L ++ [(a, b)]) ++ [(t, t)] by simp, runs_cov ps _ ht.2 (fun q hq => by
          rcases List.mem_append.mp hq with h | h
          · exact ⟨(hf q h).1, fun t' ht' => (hf q h).2 t' (List.mem_cons_of_mem _ ht')⟩
          · rw [List.mem_singleton.mp h]; exact ⟨Nat.le_refl _, ht.1⟩) i]
        simp only [cov]
        constructor
        · rintro (⟨q, h1, h2⟩ | h)
          · rcases List.mem_append.mp h1 with h1 | h1
            · exact .inl ⟨q, h1, h2⟩
            · rw [List.mem_singleton.mp h1] at h2
              simp only at h2
              exact .inr (by rw [show i = t by omega]; exact List.mem_cons_self)
          · exact .inr (List.mem_cons_of_mem _ h)
        · rintro (⟨q, h1, h2⟩ | h)
          · exact .inl ⟨q, List.mem_append_left _ h1, h2⟩
          · rcases List.mem_cons.mp h with rfl | h
            · exact .inl ⟨(i, i), by simp, Nat.le_refl _, Nat.le_refl _⟩
            · exact .inr h
theorem paused_runs {p : Pl} (h : Pok p) (i : Nat) : pausedAt (runsL p.pau) i = decide (i ∈ p.pau) := by
  have := runs_cov p.pau [] h.pa (by simp) i
  rw [Bool.eq_iff_iff, decide_eq_true_eq]
  simp only [pausedAt, List.any_eq_true, Bool.and_eq_true, decide_eq_true_eq]
  rw [show (∃ x, x ∈ runsL p.pau ∧ x.1 ≤ i ∧ i ≤ x.2) ↔ cov (runsL p.pau) i from Iff.rfl]
  unfold runsL
  rw [this]
  simp [cov]
theorem runs_ord : ∀ (ps : List Nat) (fs : List (Nat × Nat)), ps.Pairwise (· < ·) → (∀ q ∈ fs, q.1 ≤ q.2 ∧ ∀ t ∈ ps, q.2 < t) → ∀ q ∈ ps.foldl runStep fs, q.1 ≤ q.2
  | [], fs, _, hf => fun q hq => (hf q hq).1
  | t :: ps, fs, hp, hf => by
    rw [List.foldl_cons]
    have ht := List.pairwise_cons.mp hp
    refine runs_ord ps _ ht.2 fun q hq => ?_
    rcases List.eq_nil_or_concat fs with rfl | ⟨L, ab, rfl⟩
    · rw [runStep_nil] at hq
      rw [List.mem_singleton.mp hq]; exact ⟨Nat.le_refl _, ht.1⟩
    · obtain ⟨a, b⟩ := ab
      rw [List.concat_eq_append] at hf hq
      have hab := hf (a, b) (by simp)
      rw [runStep_app] at hq
      have old : ∀ q ∈ L ++ [(a, b)], q.1 ≤ q.2 ∧ ∀ t' ∈ ps, q.2 < t' := fun q h => ⟨(hf q h).1, fun t' ht' => (hf q h).2 t' (List.mem_cons_of_mem _ ht')⟩
      split at hq
      · rename_i hb
        rcases List.mem_append.mp hq with h | h
        · exact old q (List.mem_append_left _ h)
        · rw [List.mem_singleton.mp h]
          exact ⟨by have := hab.1; simp only at this ⊢; omega, ht.1⟩
      · rw [show L ++ [(a, b), (t, t)] = (L ++ [(a, b)]) ++ [(t, t)] by simp] at hq
        rcases List.mem_append.mp hq with h | h
        · exact old q h
        · rw [List.mem_singleton.mp h]; exact ⟨Nat.le_refl _, ht.1⟩
theorem sms_ok {p : Pl} (h : Pok p) : ∀ s ∈ p.sms, SmOk p.nms p.len s := by
  intro s hs
  unfold Pl.sms at hs
  simp only [List.mem_append] at hs
  rcases hs with (hs | hs) | hs
  · split at hs
    · cases hs
    · rw [List.mem_singleton.mp hs]
      refine ⟨fun e => ?_, ?_, fun j hj => rks_lt h hj⟩
      · have := rks_len h
        rw [e] at this
        exact h.n1 (List.length_eq_zero_iff.mp this.symm)
      · exact h.rk.nodup_iff.mpr List.nodup_range
  · obtain ⟨s', hs', rfl⟩ := List.mem_map.mp hs
    obtain ⟨h1, h2, h3, h4⟩ := h.st s' hs'
    exact ⟨h2, h1, h3, h4⟩
  · obtain ⟨q, hq, rfl⟩ := List.mem_map.mp hs
    exact ⟨(runs_lt h q hq).2, runs_ord p.pau [] h.pa (by simp) q hq⟩
theorem lines_words (p : Pl) : ((p.lines.map fun ws => ws ++ [sgn]).flatten) = headW p.len p.most p.nms ++ (p.sms.map (smW p.nms)).flatten := by
  rw [lines_eq]
  unfold Pl.l3 Pl.lr Pl.ls Pl.lp Pl.sms headW
  simp only [List.map_append, List.flatten_append, List.map_cons, List.map_nil, List.flatten_cons, List.flatten_nil, List.append_nil, List.map_map]
  split <;> simp [smW, Function.comp_def]
theorem load_ok {p : Pl} (h : Pok p) : LoadOk p.len p.most p.nms p.sms := by
  obtain ⟨e1, e2, e3⟩ := sms_of p
  refine ⟨h.l1, h.l2, h.m1, h.m2, h.n1, h.n2, h.nd, h.nw, sms_ok h, ?_, ?_, ?_⟩
  · rw [e1, List.length_map]; exact h.s20
  · rw [pauses_prs, e2, List.length_map]
    have := runsL_len p.pau
    have := pau_len h
    omega
  · rw [e3]; unfold Pl.rkS; split <;> simp
theorem text_ok {p : Pl} (h : Pok p) : okC p.text ∧ p.text.length ≤ 100000 := by
  constructor
  · intro c hc
    have key : ∀ (S : List Nat) (l : List (List Nat)) (c : Nat), c ∈ TL.joinL S l → c ∈ S ∨ ∃ x ∈ l, c ∈ x := by
      intro S l
      induction l with
      | nil => intro c h; simp [TL.joinL] at h
      | cons x l ih =>
        intro c h
        cases l with
        | nil => simp [TL.joinL] at h; exact .inr ⟨x, by simp, h⟩
        | cons y l =>
          have e : TL.joinL S (x :: y :: l) = x ++ (S ++ TL.joinL S (y :: l)) := by simp [TL.joinL]
          rw [e] at h
          rcases List.mem_append.mp h with h | h
          · exact .inr ⟨x, by simp, h⟩
          · rcases List.mem_append.mp h with h | h
            · exact .inl h
            · rcases ih c h with h | ⟨z, h1, h2⟩
              · exact .inl h
              · exact .inr ⟨z, List.mem_cons_of_mem _ h1, h2⟩
    rcases key [10] _ c hc with h1 | ⟨x, h1, h2⟩
    · rw [List.mem_singleton.mp h1]; decide
    · obtain ⟨ws, hw, rfl⟩ := List.mem_map.mp h1
      obtain ⟨w1, w2, w3⟩ := lines_ok h ws hw
      unfold lineOf at h2
      rcases List.mem_append.mp h2 with h2 | h2
      · rcases key [32] _ c h2 with h1 | ⟨x, h1, h2⟩
        · rw [List.mem_singleton.mp h1]; decide
        · obtain ⟨y, hy, rfl⟩ := List.mem_map.mp h1
          exact (wd_ok (w2 y hy)).1 c h2
      · rw [List.mem_singleton.mp h2]; decide
  · have h1 := joinL_len [10] (p.lines.map lineOf)
    have h2 := sum_le (l := p.lines.map lineOf) (k := 100) fun x hx => by
      obtain ⟨ws, hw, rfl⟩ := List.mem_map.mp hx
      obtain ⟨w1, w2, w3⟩ := lines_ok h ws hw
      exact line_len w2 w3
    have h3 := lines_len h
    unfold Pl.text
    simp only [List.length_map, List.length_singleton] at h1 h2
    omega
theorem load_eq {p : Pl} (h : Pok p) : F_load [strL p.text] = some (.ok p.parsed) := by
  obtain ⟨e1, e2, e3⟩ := sms_of p
  obtain ⟨t1, t2⟩ := text_ok h
  have hx : lexK p.text = some (headW p.len p.most p.nms ++ (p.sms.map (smW p.nms)).flatten) := by
    rw [← lines_words]
    exact lexK_lines p.lines fun ws hw => ⟨(lines_ok h ws hw).1, (lines_ok h ws hw).2.1⟩
  have := load_words t1 (by omega) (load_ok h) hx
  rw [e1, e2, e3, rank_of h, sort_starts h] at this
  unfold strL
  rw [this]
  unfold Pl.parsed
  congr 3
  exact List.map_congr_left fun i _ => by rw [paused_runs h]
end G
namespace G
open PySem L2 Cl
theorem sorted_ext : ∀ {l m : List Nat}, l.Pairwise (· < ·) → m.Pairwise (· < ·) → (∀ x, x ∈ l ↔ x ∈ m) → l = m
  | [], [], _, _, _ => rfl
  | [], b :: m, _, _, h => absurd ((h b).mpr List.mem_cons_self) (by simp)
  | a :: l, [], _, _, h => absurd ((h a).mp List.mem_cons_self) (by simp)
  | a :: l, b :: m, hl, hm, h => by
    have h1 := List.pairwise_cons.mp hl
    have h2 := List.pairwise_cons.mp hm
    have hab : a = b := by
      rcases List.mem_cons.mp ((h a).mp List.mem_cons_self) with e | e
      · exact e
      · rcases List.mem_cons.mp ((h b).mpr List.mem_cons_self) with e2 | e2
        · exact e2.symm
        · have := h2.1 a e; have := h1.1 b e2; omega
    subst hab
    congr 1
    refine sorted_ext h1.2 h2.2 fun x => ?_
    constructor
    · intro hx
      rcases List.mem_cons.mp ((h x).mp (List.mem_cons_of_mem _ hx)) with e | e
      · subst e; exact absurd (h1.1 _ hx) (by omega)
      · exact e
    · intro hx
      rcases List.mem_cons.mp ((h x).mpr (List.mem_cons_of_mem _ hx)) with e | e
      · subst e; exact absurd (h2.1 _ hx) (by omega)
      · exact e
theorem filter_range {len : Nat} {pau : List Nat} (h1 : pau.Pairwise (· < ·)) (h2 : ∀ t ∈ pau, t < len) : (List.range len).filter (fun i => decide (i ∈ pau)) = pau := by
  refine sorted_ext (List.Pairwise.filter _ List.pairwise_lt_range) h1 fun x => ?_
  rw [List.mem_filter, List.mem_range]
  simp only [decide_eq_true_eq]
  exact ⟨fun h => h.2, fun h => ⟨h2 x h, h⟩⟩
theorem runsL_snoc (ps : List Nat) (t : Nat) : runsL (ps ++ [t]) = runStep (runsL ps) t := by
  unfold runsL; rw [List.foldl_append]; rfl
theorem runs_last (ps : List Nat) (t : Nat) : ∃ L a, runsL (ps ++ [t]) = L ++ [(a, t)] := by
  rw [runsL_snoc]
  rcases List.eq_nil_or_concat (runsL ps) with h | ⟨L, ab, h⟩
  · rw [h]; exact ⟨[], t, rfl⟩
  · obtain ⟨a, b⟩ := ab
    rw [h, List.concat_eq_append, runStep_app]
    split
    · exact ⟨L, a, rfl⟩
    · exact ⟨L ++ [(a, b)], t, by simp⟩
theorem filt_succ (f : Nat → Bool) (i : Nat) : (List.range (i + 1)).filter f = (List.range i).filter f ++ (if f i = true then [i] else []) := by
  rw [List.range_succ, List.filter_append]
  congr 1
  by_cases h : f i = true <;> simp [h]
/-- one turn of runs_of -/
theorem runs_of_turn {f : Nat → Bool} {len i : Nat} {st : List O} {fs : List (Nat × Nat)} {x2 x3 : Option S} (hi : i < len) (hl : len ≤ 60) (hfs : fs = runsL ((List.range i).filter f)) (h0 : fs.length ≤ 60) :
    l1_runs_of [some (.val (.lst ((List.range len).map fun i => .bl (f i)))), some (.obj 0), some (iV i), some (.val (.bl (f i)))] [.lst (fs.map prV)] =
      some (.nx, [some (.val (.lst ((List.range len).map fun i => .bl (f i)))), some (.obj 0), some (iV i), some (.val (.bl (f i)))], [.lst ((runsL ((List.range (i + 1)).filter f)).map prV)]) := by
  rw [filt_succ]
  have z : fs.length < sizeLine := sizes (by omega)
  by_cases hf : f i = true
  · rw [if_pos hf, runsL_snoc, ← hfs]
    by_cases hp : 0 < i ∧ f (i - 1) = true
    · obtain ⟨hp0, hp1⟩ := hp
      obtain ⟨j, rfl⟩ : ∃ j, i = j + 1 := ⟨i - 1, by omega⟩
      simp only [Nat.add_sub_cancel] at hp1
      obtain ⟨L, a, e⟩ := runs_last ((List.range j).filter f) j
      rw [filt_succ, if_pos hp1, e] at hfs
      rw [hfs, runStep_app, if_pos rfl]
      have e0 : (0 : Int) < (j : Int) + 1 := by omega
      have ej : atI ((List.range len).map (S.val ∘ fun i => D.bl (f i))) (j : Int) = some (.val (.bl (f j))) := by
        refine Cl.atI_nat ?_
        rw [List.getElem?_map, List.getElem?_range (by omega)]; rfl
      have ix : ixN (L.length + 1) (-1) = some L.length := by unfold ixN; simp; omega
      simp [l1_runs_of, hf, gIx, e0, ej, hp1, atIm1, prV, pr, atI0, Cl.gTup, gSetL, ix]
    · have hn : ∀ L a b, fs = L ++ [(a, b)] → b + 1 ≠ i := fun L a b e hb => by
        subst hb
        rw [filt_succ] at hfs
        have hf2 : ¬ f b = true := fun z => hp ⟨by omega, by simpa using z⟩
        rw [if_neg hf2, List.append_nil] at hfs
        rcases List.eq_nil_or_concat ((List.range b).filter f) with h | ⟨L', t, h⟩
        · rw [hfs, h] at e; simp [runsL] at e
        · rw [List.concat_eq_append] at h
          obtain ⟨L2, a2, e2⟩ := runs_last L' t
          rw [hfs, h, e2] at e
          have := (List.append_inj' e rfl).2
          simp only [List.cons.injEq, Prod.mk.injEq, and_true] at this
          have ht : t ∈ (List.range b).filter f := by rw [h]; simp
          have := List.mem_range.mp (List.mem_filter.mp ht).1
          omega
      have e2 : runStep fs i = fs ++ [(i, i)] := by
        rcases List.eq_nil_or_concat fs with h | ⟨L, ab, h⟩
        · rw [h]; rfl
        · obtain ⟨a, b⟩ := ab
          rw [List.concat_eq_append] at h
          rw [h, runStep_app, if_neg (hn L a b h)]
          simp
      rw [e2]
      by_cases h0' : 0 < i
      · have hp1 : f (i - 1) = false := by
          cases e : f (i - 1) with
          | false => rfl
          | true => exact absurd ⟨h0', e⟩ hp
        obtain ⟨j, rfl⟩ : ∃ j, i = j + 1 := ⟨i - 1, by omega⟩
        simp only [Nat.add_sub_cancel] at hp1
        have e0 : (0 : Int) < (j : Int) + 1 := by omega
        have ej : atI ((List.range len).map (S.val ∘ fun i => D.bl (f i))) (j : Int) = some (.val (.bl (f j))) := by
          refine Cl.atI_nat ?_
          rw [List.getElem?_map, List.getElem?_range (by omega)]; rfl
        simp [l1_runs_of, hf, gIx, e0, ej, hp1, prV, pr, Cl.gTup, gAppend, z]
      · have : i = 0 := by omega
        subst this
        simp [l1_runs_of, hf, prV, pr, Cl.gTup, gAppend, z]
  · rw [if_neg hf, List.append_nil, ← hfs]
    simp [l1_runs_of, hf]
theorem enum_map (f : Nat → Bool) : ∀ (n a : Nat), enumD a ((List.range' a n).map fun i => .bl (f i)) = (List.range' a n).map fun i : Nat => D.tup [.int i, .bl (f i)]
  | 0, _ => rfl
  | n + 1, a => by
    rw [List.range'_succ, List.map_cons, enumD, enum_map f n (a + 1), List.map_cons]
theorem runs_len {p : Pl} (h : Pok p) : (runsL p.pau).length ≤ 60 := Nat.le_trans (runsL_len _) (pau_len h)
theorem runs_of_eq (f : Nat → Bool) (len : Nat) (hl : len ≤ 60) : F_runs_of [.lst ((List.range len).map fun i => .bl (f i))] = some (.ok (.lst ((runsL ((List.range len).filter f)).map fun q => pr q.1 q.2))) := by
  have key : ∀ (n a : Nat) (x2 x3 : Option S), a + n = len → ∃ x2' x3', forL (fun _ => True) (tgTup 2 (tgCons (tgName 2) (tgCons (tgName 3) tgNil))) l1_runs_of ((List.range' a n).map fun i : Nat => S.val (.tup [.int i, .bl (f i)])) [some (.val (.lst ((List.range len).map fun i => .bl (f i)))), some (.obj 0), x2, x3] [.lst ((runsL ((List.range a).filter f)).map prV)] =
      some (.nx, [some (.val (.lst ((List.range len).map fun i => .bl (f i)))), some (.obj 0), x2', x3'], [.lst ((runsL ((List.range len).filter f)).map prV)]) := by
    intro n
    induction n with
    | zero => intro a x2 x3 h; refine ⟨x2, x3, ?_⟩; rw [show a = len by omega]; exact for_nil trivial
    | succ n ih =>
      intro a x2 x3 h
      obtain ⟨x2', x3', e⟩ := ih (a + 1) (some (iV a)) (some (.val (.bl (f a)))) (by omega)
      refine ⟨x2', x3', ?_⟩
      rw [List.range'_succ, List.map_cons]
      have hlen : (runsL ((List.range a).filter f)).length ≤ 60 := by
        have h1 := runsL_len ((List.range a).filter f)
        have h2 := List.length_filter_le f (List.range a)
        rw [List.length_range] at h2
        omega
      rw [for_cons trivial (sl1 := [some (.val (.lst ((List.range len).map fun i => .bl (f i)))), some (.obj 0), some (iV a), some (.val (.bl (f a)))]) (st1 := [.lst ((runsL ((List.range a).filter f)).map prV)]) (by simp) (runs_of_turn (x2 := none) (x3 := none) (st := []) (by omega) hl rfl hlen)]
      exact e
  obtain ⟨x2, x3, e⟩ := key len 0 none none (by omega)
  have en := enum_map f len 0
  rw [← List.range_eq_range'] at en e
  have e' : forL (fun _ => True) (tgTup 2 (tgCons (tgName 2) (tgCons (tgName 3) tgNil))) l1_runs_of ((enumD 0 ((List.range len).map fun i => .bl (f i))).map .val) [some (.val (.lst ((List.range len).map fun i => .bl (f i)))), some (.obj 0), none, none] [.lst []] = some (.nx, [some (.val (.lst ((List.range len).map fun i => .bl (f i)))), some (.obj 0), x2, x3], [.lst ((runsL ((List.range len).filter f)).map prV)]) := by
    rw [en, List.map_map]; exact e
  have dd : ∀ (n : Nat) (st : List O) (l : List (Nat × Nat)), deepL n st (l.map prV) = some (l.map fun q => pr q.1 q.2) := fun n st l => deepL_vals _ _ _ _
  simp [F_runs_of, b_runs_of, gLstO, gEnum, e', deepD, dd]
theorem runs_of_plan {p : Pl} (h : Pok p) : F_runs_of [.lst ((List.range p.len).map fun i => .bl (decide (i ∈ p.pau)))] = some (.ok (.lst ((runsL p.pau).map fun q => pr q.1 q.2))) := by
  have := runs_of_eq (fun i => decide (i ∈ p.pau)) p.len h.l2
  rwa [filter_range h.pa h.pl] at this
end G
namespace G
open PySem L2 Cl
theorem gAdd_L {a b : List Nat} (st : List O) (h : a.length + b.length ≤ 1000000) : gAdd (.val (strL a)) (.val (strL b)) st = some (.ok (.val (strL (a ++ b))), st) := gAdd_str a b st (Nat.le_of_lt (sizes (by omega)))
def cds (s : String) : List Nat := s.toList.map Char.toNat
theorem lit_L (s : String) : D.str (Str.ofString s) = strL (cds s) := by rw [strL, Sc_of]; rfl
theorem numL2 {n : Nat} (h : n < 100) : (TL.numL n).length ≤ 2 := TL.numL_len (by decide) (by omega)
def fSl (p : Pl) (x3 x4 x5 x6 x7 : Option S) : Sl := [some (.val p.parsed), some (.val (.tup (p.nms.map strL))), some (.obj 0), x3, x4, x5, x6, x7]
abbrev lnV (ws : List KW) : S := .val (strL (lineOf ws))
theorem parsed_names (p : Pl) : (p.nms.map Sc).map D.str = p.nms.map strL := by rw [List.map_map]; rfl
theorem name_len {p : Pl} (h : Pok p) {j : Nat} (hj : j < p.nms.length) : (p.nms.getD j []).length ≤ 8 := (wd_ok (wd_name h hj)).2.2
theorem cat_ok {a b : ME} {sl : Sl} {st : List O} {x y : List Nat} (h1 : a sl st = some (.ok (.val (strL x)), st)) (h2 : b sl st = some (.ok (.val (strL y)), st)) (h : x.length + y.length ≤ 1000000) : eBin gAdd a b sl st = some (.ok (.val (strL (x ++ y))), st) := by
  rw [bin_ok h1 h2]; exact gAdd_L st h
theorem lit_ok (s : String) (sl : Sl) (st : List O) : eC (.str (Str.ofString s)) sl st = some (.ok (.val (strL (cds s))), st) := by rw [lit_L]; rfl
theorem str_ok {e : ME} {sl : Sl} {st : List O} {n : Nat} (h : e sl st = some (.ok (iV n), st)) (hn : n < 1000) : eArgs (g1 gStr) (aCons e aNil) sl st = some (.ok (.val (strL (TL.numL n))), st) := by
  rw [args1 h]; exact gStr_nat n (by omega) st
theorem fmt_starts {p : Pl} (h : Pok p) : ∀ (ss : List T3) (ls : List (List KW)) (x3 x4 x5 : Option S), (∀ s ∈ ss, s ∈ p.sts) → ls.length + ss.length ≤ 1000 →
    ∃ x3' x4' x5', forL always (tgTup 3 (tgCons (tgName 4) (tgCons (tgName 3) (tgCons (tgName 5) tgNil)))) l2_format_parsed (ss.map triV) (fSl p x3 x4 x5 none none) [.lst (ls.map lnV)] =
      some (.nx, fSl p x3' x4' x5' none none, [.lst ((ls ++ ss.map fun s => [kyw "start", naw (p.nms.getD s.2.1 []), nuw s.1, kyw "for", nuw s.2.2]).map lnV)])
  | [], ls, x3, x4, x5, _, _ => ⟨x3, x4, x5, by rw [List.map_nil, for_nil trivial]; simp⟩
  | s :: ss, ls, x3, x4, x5, hs, hl => by
    simp only [List.length_cons] at hl
    obtain ⟨h1, h2, h3, h4⟩ := h.st s (hs s List.mem_cons_self)
    have h60 := h.l2
    obtain ⟨y3, y4, y5, ih⟩ := fmt_starts h ss (ls ++ [[kyw "start", naw (p.nms.getD s.2.1 []), nuw s.1, kyw "for", nuw s.2.2]]) (some (iV s.2.1)) (some (iV s.1)) (some (iV s.2.2)) (fun s' h' => hs s' (List.mem_cons_of_mem _ h')) (by rw [List.length_append, List.length_singleton]; omega)
    refine ⟨y3, y4, y5, ?_⟩
    rw [List.map_cons, for_cons trivial (sl1 := fSl p (some (iV s.2.1)) (some (iV s.1)) (some (iV s.2.2)) none none) (st1 := [.lst (ls.map lnV)]) (sl2 := fSl p (some (iV s.2.1)) (some (iV s.1)) (some (iV s.2.2)) none none) (st2 := [.lst ((ls ++ [[kyw "start", naw (p.nms.getD s.2.1 []), nuw s.1, kyw "for", nuw s.2.2]]).map lnV)]) (by simp [triV, triD, tri, fSl]), ih]
    · simp
    · generalize hst : ([.lst (ls.map lnV)] : List O) = st
      have n1 := numL2 (show s.1 < 100 by omega)
      have n2 := numL2 (show s.2.2 < 100 by omega)
      have n3 := name_len h h2
      have v1 : eBin gIx (eVar 1) (eVar 3) (fSl p (some (iV s.2.1)) (some (iV s.1)) (some (iV s.2.2)) none none) st = some (.ok (.val (strL (p.nms.getD s.2.1 []))), st) := by
        rw [bin_ok (var_val (i := 1) rfl) (var_val (i := 3) rfl)]; exact names_at h h2 st
      have v4 := str_ok (var_val (i := 4) (sl := fSl p (some (iV s.2.1)) (some (iV s.1)) (some (iV s.2.2)) none none) (st := st) rfl) (show s.1 < 1000 by omega)
      have v5 := str_ok (var_val (i := 5) (sl := fSl p (some (iV s.2.1)) (some (iV s.1)) (some (iV s.2.2)) none none) (st := st) rfl) (show s.2.2 < 1000 by omega)
      have c1 := cat_ok (lit_ok "start " _ st) v1 (by have : (cds "start ").length = 6 := by decide
                                                      omega)
      have c2 := cat_ok c1 (lit_ok " " _ st) (by have : (cds "start ").length = 6 := by decide
                                                 have : (cds " ").length = 1 := by decide
                                                 simp only [List.length_append]; omega)
      have c3 := cat_ok c2 v4 (by have : (cds "start ").length = 6 := by decide
                                  have : (cds " ").length = 1 := by decide
                                  simp only [List.length_append]; omega)
      have c4 := cat_ok c3 (lit_ok " for " _ st) (by have : (cds "start ").length = 6 := by decide
                                                     have : (cds " ").length = 1 := by decide
                                                     have : (cds " for ").length = 5 := by decide
                                                     simp only [List.length_append]; omega)
      have c5 := cat_ok c4 v5 (by have : (cds "start ").length = 6 := by decide
                                  have : (cds " ").length = 1 := by decide
                                  have : (cds " for ").length = 5 := by decide
                                  simp only [List.length_append]; omega)
      have c6 := cat_ok c5 (lit_ok ";" _ st) (by have : (cds "start ").length = 6 := by decide
                                                 have : (cds " ").length = 1 := by decide
                                                 have : (cds " for ").length = 5 := by decide
                                                 have : (cds ";").length = 1 := by decide
                                                 simp only [List.length_append]; omega)
      have e : cds "start " ++ p.nms.getD s.2.1 [] ++ cds " " ++ TL.numL s.1 ++ cds " for " ++ TL.numL s.2.2 ++ cds ";" = lineOf [kyw "start", naw (p.nms.getD s.2.1 []), nuw s.1, kyw "for", nuw s.2.2] := by
        simp [lineOf, TL.joinL, kyw, naw, nuw, cds]
      rw [e] at c6
      have g2 : st[0]? = some (.lst (ls.map lnV)) := by rw [← hst]; rfl
      unfold l2_format_parsed
      refine expr_nx (x := .val .non) ?_
      rw [bm1 (var_obj (i := 2) rfl g2) (chk_list g2) c6, gApp_eq g2 (by rw [List.length_map]; exact sizes (by omega)), ← hst]
      simp
end G
namespace G
open PySem L2 Cl
theorem fmt_pauses {p : Pl} (h : Pok p) (x3 x4 x5 : Option S) : ∀ (qs : List (Nat × Nat)) (ls : List (List KW)) (x6 x7 : Option S), (∀ q ∈ qs, q ∈ runsL p.pau) → ls.length + qs.length ≤ 1000 →
    ∃ x6' x7', forL always (tgTup 2 (tgCons (tgName 6) (tgCons (tgName 7) tgNil))) l1_format_parsed (qs.map prV) (fSl p x3 x4 x5 x6 x7) [.lst (ls.map lnV)] =
      some (.nx, fSl p x3 x4 x5 x6' x7', [.lst ((ls ++ qs.map fun q => [kyw "pause", nuw q.1, nuw q.2]).map lnV)])
  | [], ls, x6, x7, _, _ => ⟨x6, x7, by rw [List.map_nil, for_nil trivial]; simp⟩
  | q :: qs, ls, x6, x7, hs, hl => by
    simp only [List.length_cons] at hl
    obtain ⟨h1, h2⟩ := runs_lt h q (hs q List.mem_cons_self)
    have h60 := h.l2
    obtain ⟨y6, y7, ih⟩ := fmt_pauses h x3 x4 x5 qs (ls ++ [[kyw "pause", nuw q.1, nuw q.2]]) (some (iV q.1)) (some (iV q.2)) (fun s' h' => hs s' (List.mem_cons_of_mem _ h')) (by rw [List.length_append, List.length_singleton]; omega)
    refine ⟨y6, y7, ?_⟩
    rw [List.map_cons, for_cons trivial (sl1 := fSl p x3 x4 x5 (some (iV q.1)) (some (iV q.2))) (st1 := [.lst (ls.map lnV)]) (sl2 := fSl p x3 x4 x5 (some (iV q.1)) (some (iV q.2))) (st2 := [.lst ((ls ++ [[kyw "pause", nuw q.1, nuw q.2]]).map lnV)]) (by simp [prV, pr, fSl]), ih]
    · simp
    · generalize hst : ([.lst (ls.map lnV)] : List O) = st
      have n1 := numL2 (show q.1 < 100 by omega)
      have n2 := numL2 (show q.2 < 100 by omega)
      have v4 := str_ok (var_val (i := 6) (sl := fSl p x3 x4 x5 (some (iV q.1)) (some (iV q.2))) (st := st) rfl) (show q.1 < 1000 by omega)
      have v5 := str_ok (var_val (i := 7) (sl := fSl p x3 x4 x5 (some (iV q.1)) (some (iV q.2))) (st := st) rfl) (show q.2 < 1000 by omega)
      have k1 : (cds "pause ").length = 6 := by decide
      have k2 : (cds " ").length = 1 := by decide
      have k3 : (cds ";").length = 1 := by decide
      have c1 := cat_ok (lit_ok "pause " _ st) v4 (by omega)
      have c2 := cat_ok c1 (lit_ok " " _ st) (by simp only [List.length_append]; omega)
      have c3 := cat_ok c2 v5 (by simp only [List.length_append]; omega)
      have c6 := cat_ok c3 (lit_ok ";" _ st) (by simp only [List.length_append]; omega)
      have e : cds "pause " ++ TL.numL q.1 ++ cds " " ++ TL.numL q.2 ++ cds ";" = lineOf [kyw "pause", nuw q.1, nuw q.2] := by
        simp [lineOf, TL.joinL, kyw, nuw, cds]
      rw [e] at c6
      have g2 : st[0]? = some (.lst (ls.map lnV)) := by rw [← hst]; rfl
      unfold l1_format_parsed
      refine expr_nx (x := .val .non) ?_
      rw [bm1 (var_obj (i := 2) rfl g2) (chk_list g2) c6, gApp_eq g2 (by rw [List.length_map]; exact sizes (by omega)), ← hst]
      simp
theorem joinL_cons (S w : List Nat) {ws : List (List Nat)} (h : ws ≠ []) : TL.joinL S (w :: ws) = w ++ (S ++ TL.joinL S ws) := by
  cases ws with
  | nil => exact absurd rfl h
  | cons a l => simp [TL.joinL]
/-- a field of the parsed plan -/
theorem fld_ok {e : ME} {sl : Sl} {st : List O} {p : Pl} {f : Str} {v : D} (h : e sl st = some (.ok (.val p.parsed), st)) (hf : gFld ["Plan"] f (.val p.parsed) st = some (.ok (.val v), st)) : eFld ["Plan"] f e sl st = some (.ok (.val v), st) := by
  unfold eFld
  simp only [M.bind, h]
  exact hf
theorem fl_names (p : Pl) (st : List O) : gFld ["Plan"] "names" (.val p.parsed) st = some (.ok (.val (.tup (p.nms.map strL))), st) := by simp [Pl.parsed, planD, ← parsed_names]
theorem fl_length (p : Pl) (st : List O) : gFld ["Plan"] "length" (.val p.parsed) st = some (.ok (iV p.len), st) := by simp [Pl.parsed, planD]
theorem fl_most (p : Pl) (st : List O) : gFld ["Plan"] "most" (.val p.parsed) st = some (.ok (iV p.most), st) := by simp [Pl.parsed, planD]
theorem fl_starts (p : Pl) (st : List O) : gFld ["Plan"] "starts" (.val p.parsed) st = some (.ok (.val (.lst (p.sts.map triD))), st) := by simp [Pl.parsed, planD]
theorem fl_ranks (p : Pl) (st : List O) : gFld ["Plan"] "ranks" (.val p.parsed) st = some (.ok (.val (.lst (p.rks.map iD))), st) := by simp [Pl.parsed, planD]
theorem fl_paused (p : Pl) (st : List O) : gFld ["Plan"] "paused" (.val p.parsed) st = some (.ok (.val (.lst ((List.range p.len).map fun i => .bl (decide (i ∈ p.pau))))), st) := by simp [Pl.parsed, planD]
theorem lits (s : String) : Str.ofString s = Sc (cds s) := Sc_of s
theorem join_tup {sl : Sl} {st : List O} {e : ME} {ws : List (List Nat)} (h : e sl st = some (.ok (.val (.tup (ws.map strL))), st)) (hz : (ws.map List.length).sum + ws.length * 1 ≤ 16777216) : eBM "str" gJoin (eC (.str " ")) (aCons e aNil) sl st = some (.ok (.val (strL (TL.joinL [32] ws))), st) := by
  rw [bm1 (x := .val (.str " ")) (st1 := st) rfl (by simp) h]
  have e1 : strsD (ws.map strL) = some (ws.map Sc) := by
    clear hz h
    induction ws with
    | nil => rfl
    | cons a l ih => rw [List.map_cons, strL, strsD, ih]; rfl
  have e2 : Txt.join (Sc [32]) (ws.map Sc) = Sc (TL.joinL [32] ws) := SX.join_S [32] ws
  have e3 : (ws.map Sc).map (·.length) = ws.map List.length := by simp [Function.comp_def]
  have dd : datas ((ws.map strL).map S.val) = some (ws.map strL) := datas_map _
  rw [lit_32]
  unfold gJoin
  simp only [seqOf, Option.bind_some, dd, e1]
  rw [e3, if_pos (by rw [List.length_map, Sc_len]; exact hz), e2]
  rfl
theorem join_lst {sl : Sl} {st : List O} {e : ME} {ws : List (List Nat)} (h : e sl st = some (.ok (.val (.lst (ws.map strL))), st)) (hz : (ws.map List.length).sum + ws.length * 1 ≤ 16777216) : eBM "str" gJoin (eC (.str " ")) (aCons e aNil) sl st = some (.ok (.val (strL (TL.joinL [32] ws))), st) := by
  rw [bm1 (x := .val (.str " ")) (st1 := st) rfl (by simp) h, lit_32]
  exact join_eq [32] ws st hz
theorem fmt_2 {p : Pl} (h : Pok p) : eArgs gLstO (aCons (eBin gAdd (eBin gAdd (eC (.str "round ")) (eArgs (g1 gStr) (aCons (eFld ["Plan"] "length" (eVar 0)) aNil))) (eC (.str ";"))) (aCons (eBin gAdd (eBin gAdd (eC (.str "open ")) (eArgs (g1 gStr) (aCons (eFld ["Plan"] "most" (eVar 0)) aNil))) (eC (.str ";"))) (aCons (eBin gAdd (eBin gAdd (eC (.str "valves ")) (eBM "str" gJoin (eC (.str " ")) (aCons (eVar 1) aNil))) (eC (.str ";"))) aNil)))
    [some (.val p.parsed), some (.val (.tup (p.nms.map strL))), none, none, none, none, none, none] [] = some (.ok (.obj 0), [.lst (p.l3.map lnV)]) := by
  generalize hsl : ([some (.val p.parsed), some (.val (.tup (p.nms.map strL))), none, none, none, none, none, none] : Sl) = sl
  have v0 := var_val (i := 0) (sl := sl) (st := []) (v := p.parsed) (by rw [← hsl]; rfl)
  have v1 := var_val (i := 1) (sl := sl) (st := []) (v := .tup (p.nms.map strL)) (by rw [← hsl]; rfl)
  have k1 : (cds "round ").length = 6 := by decide
  have k2 : (cds "open ").length = 5 := by decide
  have k3 : (cds ";").length = 1 := by decide
  have k4 : (cds "valves ").length = 7 := by decide
  have n1 := numL2 (show p.len < 100 by have := h.l2; omega)
  have n2 := numL2 (show p.most < 100 by have := h.m2; omega)
  have h8 : (p.nms.map List.length).sum ≤ p.nms.length * 8 := sum_le fun x hx => (wd_ok (WdOk.name (h.nw x hx))).2.2
  have h9 := h.n2
  have jl := joinL_len [32] p.nms
  simp only [List.length_singleton] at jl
  have a1 := cat_ok (cat_ok (lit_ok "round " sl []) (str_ok (fld_ok v0 (fl_length p [])) (by have := h.l2; omega)) (by omega)) (lit_ok ";" sl []) (by simp only [List.length_append]; omega)
  have a2 := cat_ok (cat_ok (lit_ok "open " sl []) (str_ok (fld_ok v0 (fl_most p [])) (by have := h.m2; omega)) (by omega)) (lit_ok ";" sl []) (by simp only [List.length_append]; omega)
  have a3 := cat_ok (cat_ok (lit_ok "valves " sl []) (join_tup v1 (by omega)) (by omega)) (lit_ok ";" sl []) (by simp only [List.length_append]; omega)
  rw [args3 a1 a2 a3]
  have e1 : cds "round " ++ TL.numL p.len ++ cds ";" = lineOf [kyw "round", nuw p.len] := by simp [lineOf, TL.joinL, kyw, nuw, cds]
  have e2 : cds "open " ++ TL.numL p.most ++ cds ";" = lineOf [kyw "open", nuw p.most] := by simp [lineOf, TL.joinL, kyw, nuw, cds]
  have e3 : cds "valves " ++ TL.joinL [32] p.nms ++ cds ";" = lineOf (kyw "valves" :: p.nms.map naw) := by
    have : (p.nms.map naw).map (·.2) = p.nms := by rw [List.map_map]; simp [naw, Function.comp_def]
    unfold lineOf
    rw [List.map_cons, this, joinL_cons _ _ h.n1]
    simp [kyw, cds]
  rw [e1, e2, e3]
  simp [gLstO, Pl.l3, lnV]
theorem fmt_3 {p : Pl} (h : Pok p) : sIf (tBin gNe (eFld ["Plan"] "ranks" (eVar 0)) (eLRg1 (eArgs (g1 gLen) (aCons (eVar 1) aNil)))) (sExpr (eBM "list" gAppend (eVar 2) (aCons (eBin gAdd (eBin gAdd (eC (.str "rank ")) (eBM "str" gJoin (eC (.str " ")) (aCons (eLc [3] (iOf (eFld ["Plan"] "ranks" (eVar 0))) (tgName 3) tTrue e1_format_parsed) aNil))) (eC (.str ";"))) aNil))) sNext (fSl p none none none none none) [.lst (p.l3.map lnV)] =
    some (.nx, fSl p none none none none none, [.lst ((p.l3 ++ p.lr).map lnV)]) := by
  generalize hst : ([.lst (p.l3.map lnV)] : List O) = st
  have g2 : st[0]? = some (.lst (p.l3.map lnV)) := by rw [← hst]; rfl
  have v0 := var_val (i := 0) (sl := fSl p none none none none none) (st := st) (v := p.parsed) rfl
  have v1 := var_val (i := 1) (sl := fSl p none none none none none) (st := st) (v := .tup (p.nms.map strL)) rfl
  have h8 := h.n2
  have hn := gEqB_eq (x := .val (.lst (p.rks.map iD))) (y := .val (.lst ((List.range p.nms.length).map iD))) (st := st) true rfl rfl (okP_ints _ _ _) (okP_ints _ _ _)
  rw [eqD_ints] at hn
  have hl : eArgs (g1 gLen) (aCons (eVar 1) aNil) (fSl p none none none none none) st = some (.ok (iV p.nms.length), st) := by
    rw [args1 v1]; simp [gLen]
  have ht : tBin gNe (eFld ["Plan"] "ranks" (eVar 0)) (eLRg1 (eArgs (g1 gLen) (aCons (eVar 1) aNil))) (fSl p none none none none none) st = some (.ok (!decide (p.rks = List.range p.nms.length)), st) := by
    have e2 : eBin gNe (eFld ["Plan"] "ranks" (eVar 0)) (eLRg1 (eArgs (g1 gLen) (aCons (eVar 1) aNil))) (fSl p none none none none none) st = some (.ok (.val (.bl (!decide (p.rks = List.range p.nms.length)))), st) := by
      rw [bin_ok (fld_ok v0 (fl_ranks p st)) (lrg_eq hl (by omega))]
      exact hn.trans rfl
    unfold tBin
    simp only [M.bind, e2, M.pure]
  by_cases hr : p.rks = List.range p.nms.length
  · simp only [hr, decide_true, Bool.not_true] at ht
    rw [if_f ht, ← hst]
    simp [Pl.lr, hr]
  · simp only [hr, decide_false, Bool.not_false] at ht
    rw [if_t ht]
    have hlc := eLc_all (vs := [3]) (fi := iOf (eFld ["Plan"] "ranks" (eVar 0))) (g := tgName 3) (e := e1_format_parsed) (sl := fSl p none none none none none) (st := st) (C := always) (fun j : Nat => S.val (iD j)) (fun j => strL (p.nms.getD j [])) p.rks (by
        unfold iOf
        simp only [M.bind, fld_ok v0 (fl_ranks p st), gIter]
        simp [Function.comp_def]) trivial (Nat.le_of_lt (sizes (by rw [rks_len h]; omega)))
        (fun j hj => ⟨_, rfl, by
          unfold e1_format_parsed
          rw [bin_ok (var_val (i := 1) rfl) (var_val (i := 3) rfl)]
          exact names_at h (rks_lt h hj) st⟩)
    have hlc' : eLc [3] (iOf (eFld ["Plan"] "ranks" (eVar 0))) (tgName 3) tTrue e1_format_parsed (fSl p none none none none none) st = some (.ok (.val (.lst ((p.rks.map fun j => p.nms.getD j []).map strL))), st) := by rw [hlc, List.map_map]; rfl
    have hs : ((p.rks.map fun j => p.nms.getD j []).map List.length).sum ≤ (p.rks.map fun j => p.nms.getD j []).length * 8 := sum_le fun x hx => by
      obtain ⟨j, hj, rfl⟩ := List.mem_map.mp hx
      exact name_len h (rks_lt h hj)
    have jl := joinL_len [32] (p.rks.map fun j => p.nms.getD j [])
    have rl := rks_len h
    simp only [List.length_singleton, List.length_map] at jl hs
    have k1 : (cds "rank ").length = 5 := by decide
    have k3 : (cds ";").length = 1 := by decide
    have a3 := cat_ok (cat_ok (lit_ok "rank " _ st) (join_lst hlc' (by rw [List.length_map]; omega)) (by omega)) (lit_ok ";" _ st) (by simp only [List.length_append]; omega)
    refine expr_nx (x := .val .non) ?_
    have e3 : cds "rank " ++ TL.joinL [32] (p.rks.map fun j => p.nms.getD j []) ++ cds ";" = lineOf (kyw "rank" :: p.rks.map fun j => naw (p.nms.getD j [])) := by
      have : (p.rks.map fun j => naw (p.nms.getD j [])).map (·.2) = p.rks.map fun j => p.nms.getD j [] := by rw [List.map_map]; rfl
      unfold lineOf
      rw [List.map_cons, this, joinL_cons]
      · simp [kyw, cds]
      · intro e
        have := List.map_eq_nil_iff.mp e
        rw [this] at rl
        exact h.n1 (List.length_eq_zero_iff.mp rl.symm)
    rw [e3] at a3
    rw [bm1 (var_obj (i := 2) rfl g2) (chk_list g2) a3, gApp_eq g2 (by simp [Pl.l3]), ← hst]
    simp [Pl.lr, hr]
theorem for_ok {fi : MI} {g : MG} {b : MS} {sl : Sl} {st st1 : List O} {xs : List S} {C : List O → Prop} {r : Option (Fl × Sl × List O)} (h : fi sl st = some (.ok (xs, C), st1)) (h2 : forL C g b xs sl st1 = r) : sFor fi g b sl st = r := by
  unfold sFor sBind
  simp only [h]
  exact h2
theorem iof_lst {e : ME} {sl : Sl} {st st1 : List O} {l : List D} (h : e sl st = some (.ok (.val (.lst l)), st1)) : iOf e sl st = some (.ok (l.map .val, always), st1) := by
  unfold iOf
  simp only [M.bind, h, gIter]
theorem callP1 {f : PF} {e : ME} {sl : Sl} {st st1 : List O} {a r : D} (h : e sl st = some (.ok (.val a), st1)) (hf : f [a] = some (.ok r)) : eArgs (gCallP 1 f []) (aCons e aNil) sl st = some (.ok (.val r), st1) := by
  rw [args1 h]; simp [hf]
theorem lines_ne (p : Pl) : p.l3 ++ p.lr ++ p.ls ++ p.lp = p.lines := rfl
theorem format_eq {p : Pl} (h : Pok p) : F_format_parsed [p.parsed] = some (.ok (strL p.text)) := by
  have hz : ((p.lines.map lineOf).map List.length).sum + (p.lines.map lineOf).length * [10].length ≤ 16777216 := by
    have h1 := sum_le (l := p.lines.map lineOf) (k := 100) fun x hx => by
      obtain ⟨ws, hw, rfl⟩ := List.mem_map.mp hx
      obtain ⟨w1, w2, w3⟩ := lines_ok h ws hw
      exact line_len w2 w3
    have h2 := lines_len h
    simp only [List.length_map, List.length_singleton] at h1 ⊢
    omega
  have ll := lines_len h
  rw [← lines_ne] at ll
  simp only [List.length_append] at ll
  have l1 : p.ls.length = p.sts.length := by simp [Pl.ls]
  have l2 : p.lp.length = (runsL p.pau).length := by simp [Pl.lp]
  obtain ⟨x3, x4, x5, e4⟩ := fmt_starts h p.sts (p.l3 ++ p.lr) none none none (fun s hs => hs) (by rw [List.length_append]; omega)
  obtain ⟨x6, x7, e5⟩ := fmt_pauses h x3 x4 x5 (runsL p.pau) (p.l3 ++ p.lr ++ p.ls) none none (fun s hs => hs) (by simp only [List.length_append]; omega)
  rw [show p.sts.map triV = (p.sts.map triD).map S.val by rw [List.map_map]; rfl] at e4
  rw [show (runsL p.pau).map prV = ((runsL p.pau).map fun q => pr q.1 q.2).map S.val by rw [List.map_map]; rfl] at e5
  unfold F_format_parsed asP b_format_parsed
  rw [List.map_cons, List.map_nil]
  have r1 := seq_nx (b := (sSeq (sSet 2 (eArgs gLstO (aCons (eBin gAdd (eBin gAdd (eC (.str "round ")) (eArgs (g1 gStr) (aCons (eFld ["Plan"] "length" (eVar 0)) aNil))) (eC (.str ";"))) (aCons (eBin gAdd (eBin gAdd (eC (.str "open ")) (eArgs (g1 gStr) (aCons (eFld ["Plan"] "most" (eVar 0)) aNil))) (eC (.str ";"))) (aCons (eBin gAdd (eBin gAdd (eC (.str "valves ")) (eBM "str" gJoin (eC (.str " ")) (aCons (eVar 1) aNil))) (eC (.str ";"))) aNil)))))
    (sSeq (sIf (tBin gNe (eFld ["Plan"] "ranks" (eVar 0)) (eLRg1 (eArgs (g1 gLen) (aCons (eVar 1) aNil)))) (sExpr (eBM "list" gAppend (eVar 2) (aCons (eBin gAdd (eBin gAdd (eC (.str "rank ")) (eBM "str" gJoin (eC (.str " ")) (aCons (eLc [3] (iOf (eFld ["Plan"] "ranks" (eVar 0))) (tgName 3) tTrue e1_format_parsed) aNil))) (eC (.str ";"))) aNil))) sNext)
    (sSeq (sFor (iOf (eFld ["Plan"] "starts" (eVar 0))) (tgTup 3 (tgCons (tgName 4) (tgCons (tgName 3) (tgCons (tgName 5) tgNil)))) l2_format_parsed)
    (sSeq (sFor (iOf (eArgs (gCallP 1 F_runs_of []) (aCons (eFld ["Plan"] "paused" (eVar 0)) aNil))) (tgTup 2 (tgCons (tgName 6) (tgCons (tgName 7) tgNil))) l1_format_parsed)
    (sRet (eBM "str" gJoin (eC (.str "\n")) (aCons (eVar 2) aNil)))))))) (set_nx (i := 1) (fld_ok (var_val (i := 0) (sl := mkSl 8 [.val p.parsed]) (st := []) (v := p.parsed) rfl) (fl_names p [])))
  have r2 := (seq_nx (b := (sSeq (sIf (tBin gNe (eFld ["Plan"] "ranks" (eVar 0)) (eLRg1 (eArgs (g1 gLen) (aCons (eVar 1) aNil)))) (sExpr (eBM "list" gAppend (eVar 2) (aCons (eBin gAdd (eBin gAdd (eC (.str "rank ")) (eBM "str" gJoin (eC (.str " ")) (aCons (eLc [3] (iOf (eFld ["Plan"] "ranks" (eVar 0))) (tgName 3) tTrue e1_format_parsed) aNil))) (eC (.str ";"))) aNil))) sNext)
    (sSeq (sFor (iOf (eFld ["Plan"] "starts" (eVar 0))) (tgTup 3 (tgCons (tgName 4) (tgCons (tgName 3) (tgCons (tgName 5) tgNil)))) l2_format_parsed)
    (sSeq (sFor (iOf (eArgs (gCallP 1 F_runs_of []) (aCons (eFld ["Plan"] "paused" (eVar 0)) aNil))) (tgTup 2 (tgCons (tgName 6) (tgCons (tgName 7) tgNil))) l1_format_parsed)
    (sRet (eBM "str" gJoin (eC (.str "\n")) (aCons (eVar 2) aNil))))))) (set_nx (i := 2) (fmt_2 h)))
  rw [r1.trans r2]
  have s3 := seq_nx (b := (sSeq (sFor (iOf (eFld ["Plan"] "starts" (eVar 0))) (tgTup 3 (tgCons (tgName 4) (tgCons (tgName 3) (tgCons (tgName 5) tgNil)))) l2_format_parsed)
    (sSeq (sFor (iOf (eArgs (gCallP 1 F_runs_of []) (aCons (eFld ["Plan"] "paused" (eVar 0)) aNil))) (tgTup 2 (tgCons (tgName 6) (tgCons (tgName 7) tgNil))) l1_format_parsed)
    (sRet (eBM "str" gJoin (eC (.str "\n")) (aCons (eVar 2) aNil)))))) (fmt_3 h)
  have f4 := for_ok (iof_lst (fld_ok (var_val (i := 0) (sl := fSl p none none none none none) (st := [.lst ((p.l3 ++ p.lr).map lnV)]) (v := p.parsed) rfl) (fl_starts p _))) e4
  have f5 := for_ok (iof_lst (callP1 (fld_ok (var_val (i := 0) (sl := fSl p x3 x4 x5 none none) (st := [.lst ((p.l3 ++ p.lr ++ p.ls).map lnV)]) (v := p.parsed) rfl) (fl_paused p _)) (runs_of_plan h))) e5
  have s45 := (seq_nx (b := (sSeq (sFor (iOf (eArgs (gCallP 1 F_runs_of []) (aCons (eFld ["Plan"] "paused" (eVar 0)) aNil))) (tgTup 2 (tgCons (tgName 6) (tgCons (tgName 7) tgNil))) l1_format_parsed)
    (sRet (eBM "str" gJoin (eC (.str "\n")) (aCons (eVar 2) aNil))))) f4).trans (seq_nx f5)
  refine (congrArg exitP (s3.trans s45)).trans ?_
  have g2 : ([.lst ((p.l3 ++ p.lr ++ p.ls ++ p.lp).map lnV)] : List O)[0]? = some (.lst ((p.l3 ++ p.lr ++ p.ls ++ p.lp).map lnV)) := rfl
  have v2 := var_obj (i := 2) (sl := fSl p x3 x4 x5 x6 x7) rfl g2
  have hj : gJoin (.val (.str "\n")) [.obj 0] [.lst (p.lines.map lnV)] = some (.ok (.val (strL p.text)), [.lst (p.lines.map lnV)]) := by
    rw [lit_nl]
    have := join_eq [10] (p.lines.map lineOf) [.lst (p.lines.map lnV)] hz
    unfold gJoin at this ⊢
    simp only [seqOf, lstOf, List.getElem?_cons_zero] at this ⊢
    rw [show p.lines.map lnV = ((p.lines.map lineOf).map strL).map S.val by simp [lnV]]
    rw [show p.lines.map lnV = ((p.lines.map lineOf).map strL).map S.val by simp [lnV]] at this
    exact this
  have last : eBM "str" gJoin (eC (.str "\n")) (aCons (eVar 2) aNil) (fSl p x3 x4 x5 x6 x7) [.lst ((p.l3 ++ p.lr ++ p.ls ++ p.lp).map lnV)] = some (.ok (.val (strL p.text)), [.lst (p.lines.map lnV)]) := by
    rw [bm1 (x := .val (.str "\n")) rfl (by simp) v2]
    exact hj
  refine (congrArg exitP (ret_ok last)).trans ?_
  simp [deepD]
end G
namespace G
open PySem L2 Cl
/-! ### bytes -/
def nameB (w : List Nat) : List Nat := w.length :: w.map (· - 97)
def Pl.b1 (p : Pl) : List Nat := [87, p.len, p.most, p.nms.length] ++ (p.nms.map nameB).flatten
def Pl.b2 (p : Pl) : List Nat := p.b1 ++ p.rks ++ [p.sts.length]
def Pl.b3 (p : Pl) : List Nat := p.b2 ++ (p.sts.map fun s => [s.1, s.2.1, s.2.2]).flatten
def Pl.bytes (p : Pl) : List Nat := p.b3 ++ [(runsL p.pau).length] ++ ((runsL p.pau).map fun q => [q.1, q.2]).flatten
theorem occ_all : ∀ i, i < 26 → Builtin.Str.occurrences (Sc letL) (Sc [97 + i]) 0 (Sc letL).length 1 = [i] := by decide +kernel
theorem sindex_eq {c : Nat} (h : isLet c = true) (st : List O) : gSIndex (.val (.str (Sc letL))) [.val (.str (Sc [c]))] st = some (.ok (iV ((c - 97 : Nat) : Int)), st) := by
  simp only [isLet, Bool.and_eq_true, decide_eq_true_eq] at h
  have := occ_all (c - 97) (by omega)
  rw [show 97 + (c - 97) = c by omega] at this
  unfold gSIndex
  simp only [this]
/-- the letters of a word -/
theorem letters_comp {sl : Sl} {st : List O} {i j : Nat} {w : List Nat} {e : ME} (he : ∀ (sl : Sl) (c : Nat), isLet c = true → sl[j]? = some (some (.val (.str (Sc [c])))) → e sl st = some (.ok (iV ((c - 97 : Nat) : Int)), st)) (hi : sl[i]? = some (some (.val (strL w)))) (hw : ∀ c ∈ w, isLet c = true) (hl : w.length ≤ 8) (hj : j < sl.length) :
    eLc [j] (iOf (eVar i)) (tgName j) tTrue e sl st = some (.ok (.val (.lst ((w.map (· - 97)).map iD))), st) := by
  have := eLc_all (vs := [j]) (fi := iOf (eVar i)) (g := tgName j) (e := e) (sl := sl) (st := st) (C := always) (fun c : Nat => S.val (.str (Sc [c]))) (fun c => iD (c - 97)) w (by
      unfold iOf
      simp only [M.bind, var_val hi, strL, gIter, Sc_cps]
      rfl) trivial (Nat.le_of_lt (sizes (by omega))) (fun c hc => ⟨(wipeS sl [j]).set j (some (S.val (.str (Sc [c])))), rfl, he _ c (hw c hc) (by rw [List.getElem?_set_self (by rw [wipeS_length]; exact hj)])⟩)
  rw [this, List.map_map]
  rfl
theorem gLen_str (w : List Nat) (st : List O) (h : w.length ≤ 1000) : gLen (.val (strL w)) st = some (.ok (iV w.length), st) := by
  have z : w.length ≤ sizeLine := Nat.le_of_lt (sizes (by omega))
  simp [gLen, strL, z]
theorem word_bytes_eq {w : List Nat} (h : NmW w) : F__law_word_bytes [strL w] = some (.ok (.lst ((nameB w).map iD))) := by
  have hl := h.2.1
  have hlc := letters_comp (sl := mkSl 2 [.val (strL w)]) (st := []) (i := 0) (j := 1) (e := e1__law_word_bytes) (w := w) (fun sl c hc hs => by
    unfold e1__law_word_bytes
    rw [lit_let, bm1 (x := .val (.str (Sc letL))) (st1 := []) rfl (by simp) (var_val hs)]
    exact sindex_eq hc []) rfl h.2.2.1 hl (by show 1 < 2; decide)
  have a1 : eArgs Cl.gLst (aCons (eArgs (g1 gLen) (aCons (eVar 0) aNil)) aNil) (mkSl 2 [.val (strL w)]) [] = some (.ok (.val (.lst [iD w.length])), []) := by
    rw [args1 (x := iV w.length) (st' := [])]
    · simp [Cl.gLst]
    · rw [args1 (var_val (v := strL w) rfl)]
      exact gLen_str w [] (by omega)
  unfold F__law_word_bytes asP b__law_word_bytes
  rw [List.map_cons, List.map_nil, ret_ok (x := .val (.lst ((nameB w).map iD))) (st' := [])]
  · simp [deepD]
  · rw [bin_ok a1 hlc, gAdd_lst]
    · rfl
    · simp; exact Nat.le_of_lt (sizes (by omega))
theorem tri_list (s : T3) (st : List O) : gList (.val (triD s)) st = some (.ok (.val (.lst ([s.1, s.2.1, s.2.2].map iD))), st) := by simp [gList, triD, tri]
theorem pr_list (q : Nat × Nat) (st : List O) : gList (.val (pr q.1 q.2)) st = some (.ok (.val (.lst ([q.1, q.2].map iD))), st) := by simp [gList, pr]
abbrev nV (n : Nat) : S := iV (n : Int)
theorem datas_nV (l : List Nat) : datas (l.map nV) = some (l.map iD) := datas_comp iD l
theorem nV_map (l : List Nat) : (l.map iD).map S.val = l.map nV := by rw [List.map_map]; rfl
/-- x = x + list(..), turn by turn -/
theorem cat_loop {α : Type} {g : MG} {E : ME} {N i7 : Nat} {keep : List Nat} (v : α → S) (f : α → List Nat) (Q : α → Sl → Prop) (h7 : i7 ∈ keep) (hN : i7 < N) : ∀ (xs : List α) (acc : List Nat) (k : Nat) (sl : Sl) (st : List O), sl.length = N → sl[i7]? = some (some (.obj k)) → st[k]? = some (.lst (acc.map nV)) →
    (∀ a ∈ xs, ∀ (sl : Sl) (st : List O), sl.length = N → ∃ sl1, g (v a) sl st = some (sl1, st) ∧ sl1.length = N ∧ Q a sl1 ∧ ∀ i ∈ keep, sl1[i]? = sl[i]?) → (∀ a ∈ xs, ∀ (sl : Sl) (st : List O), Q a sl → E sl st = some (.ok (.val (.lst ((f a).map iD))), st)) → acc.length + ((xs.map f).flatten).length ≤ 100000 →
    ∃ (k' : Nat) (sl' : Sl) (st' : List O), forL always g (sSet i7 (eBin gCatO (eVar i7) E)) (xs.map v) sl st = some (.nx, sl', st') ∧ sl'.length = N ∧ sl'[i7]? = some (some (.obj k')) ∧ st'[k']? = some (.lst ((acc ++ (xs.map f).flatten).map nV)) ∧ ∀ i ∈ keep, i ≠ i7 → sl'[i]? = sl[i]?
  | [], acc, k, sl, st, hl, hs, hk, _, _, _ => ⟨k, sl, st, for_nil trivial, hl, hs, by simpa using hk, fun _ _ _ => rfl⟩
  | a :: xs, acc, k, sl, st, hl, hs, hk, hg, hE, hz => by
    simp only [List.map_cons, List.flatten_cons, List.length_append] at hz
    obtain ⟨sl1, g1, g2, g3, g4⟩ := hg a List.mem_cons_self sl st hl
    have e1 := hE a List.mem_cons_self sl1 st g3
    have v7 := var_obj (i := i7) (sl := sl1) ((g4 i7 h7).trans hs) hk
    have body : sSet i7 (eBin gCatO (eVar i7) E) sl1 st = some (.nx, sl1.set i7 (some (.obj st.length)), st ++ [.lst ((acc ++ f a).map nV)]) := by
      refine set_nx ?_
      rw [bin_ok v7 e1]
      unfold gCatO
      simp only [lstOf, hk, nV_map]
      rw [if_pos (by rw [List.length_append, List.length_map, List.length_map]; exact Nat.le_of_lt (sizes (by omega))), List.map_append]
    obtain ⟨k', sl', st', i1, i2, i3, i4, i5⟩ := cat_loop (keep := keep) v f Q h7 hN xs (acc ++ f a) st.length (sl1.set i7 (some (.obj st.length))) (st ++ [.lst ((acc ++ f a).map nV)]) (by rw [List.length_set]; exact g2) (by rw [List.getElem?_set_self (by rw [g2]; exact hN)]) (by simp) (fun a ha => hg a (List.mem_cons_of_mem _ ha)) (fun a ha => hE a (List.mem_cons_of_mem _ ha)) (by rw [List.length_append]; omega)
    refine ⟨k', sl', st', by rw [List.map_cons, for_cons trivial g1 body]; exact i1, i2, i3, by rw [i4]; simp, fun i hi hne => ?_⟩
    rw [i5 i hi hne, List.getElem?_set_ne (Ne.symm hne)]
    exact g4 i hi
/-- x.extend(..), turn by turn -/
theorem ext_loop {α : Type} {g : MG} {E : ME} {N i7 k : Nat} {keep : List Nat} (v : α → S) (f : α → List Nat) (Q : α → Sl → Prop) (h7 : i7 ∈ keep) : ∀ (xs : List α) (acc : List Nat) (sl : Sl), sl.length = N → sl[i7]? = some (some (.obj 0)) →
    (∀ a ∈ xs, ∀ (sl : Sl) (st : List O), sl.length = N → ∃ sl1, g (v a) sl st = some (sl1, st) ∧ sl1.length = N ∧ Q a sl1 ∧ ∀ i ∈ keep, sl1[i]? = sl[i]?) → (∀ a ∈ xs, ∀ (sl : Sl) (st : List O), Q a sl → E sl st = some (.ok (.val (.lst ((f a).map iD))), st)) → acc.length + ((xs.map f).flatten).length ≤ 100000 →
    ∃ (sl' : Sl), forL always g (sExpr (eBM "list" gExtend (eVar i7) (aCons E aNil))) (xs.map v) sl [.lst (acc.map nV)] = some (.nx, sl', [.lst ((acc ++ (xs.map f).flatten).map nV)]) ∧ sl'.length = N ∧ ∀ i ∈ keep, sl'[i]? = sl[i]?
  | [], acc, sl, hl, hs, _, _, _ => ⟨sl, by rw [List.map_nil, for_nil trivial]; simp, hl, fun _ _ => rfl⟩
  | a :: xs, acc, sl, hl, hs, hg, hE, hz => by
    simp only [List.map_cons, List.flatten_cons, List.length_append] at hz
    obtain ⟨sl1, g1, g2, g3, g4⟩ := hg a List.mem_cons_self sl [.lst (acc.map nV)] hl
    have e1 := hE a List.mem_cons_self sl1 [.lst (acc.map nV)] g3
    have hk : ([.lst (acc.map nV)] : List O)[0]? = some (.lst (acc.map nV)) := rfl
    have v7 := var_obj (i := i7) (sl := sl1) ((g4 i7 h7).trans hs) hk
    have body : sExpr (eBM "list" gExtend (eVar i7) (aCons E aNil)) sl1 [.lst (acc.map nV)] = some (.nx, sl1, [.lst ((acc ++ f a).map nV)]) := by
      refine expr_nx (x := .val .non) ?_
      rw [bm1 v7 (chk_list hk) e1]
      unfold gExtend
      simp only [lstOf, hk, nV_map]
      rw [if_pos (by rw [List.length_map, List.length_map]; exact Nat.le_of_lt (sizes (by omega)))]
      simp
    obtain ⟨sl', i1, i2, i3⟩ := ext_loop (k := k) (keep := keep) v f Q h7 xs (acc ++ f a) sl1 g2 ((g4 i7 h7).trans hs) (fun a ha => hg a (List.mem_cons_of_mem _ ha)) (fun a ha => hE a (List.mem_cons_of_mem _ ha)) (by rw [List.length_append]; omega)
    exact ⟨sl', by rw [List.map_cons, for_cons trivial g1 body, i1]; simp, i2, fun i hi => (i3 i hi).trans (g4 i hi)⟩
/-- a for whose target is a name -/
theorem tg_name {α : Type} {N j : Nat} {keep : List Nat} (v : α → S) (hj : j < N) (hk : j ∉ keep) (xs : List α) : ∀ a ∈ xs, ∀ (sl : Sl) (st : List O), sl.length = N → ∃ sl1, tgName j (v a) sl st = some (sl1, st) ∧ sl1.length = N ∧ (sl1[j]? = some (some (v a))) ∧ ∀ i ∈ keep, sl1[i]? = sl[i]? := fun a _ sl st hl =>
  ⟨sl.set j (some (v a)), rfl, by rw [List.length_set]; exact hl, by rw [List.getElem?_set_self (by rw [hl]; exact hj)], fun i hi => List.getElem?_set_ne (fun e : j = i => hk (by rw [e]; exact hi))⟩
theorem flat_len {α : Type} (f : α → List Nat) {n : Nat} : ∀ {xs : List α}, (∀ a ∈ xs, (f a).length ≤ n) → ((xs.map f).flatten).length ≤ xs.length * n
  | [], _ => by simp
  | a :: xs, h => by
    have h1 := h a List.mem_cons_self
    have h2 := flat_len f fun a ha => h a (List.mem_cons_of_mem _ ha)
    simp only [List.map_cons, List.flatten_cons, List.length_append, List.length_cons, Nat.add_mul, Nat.one_mul]
    omega
theorem b1_len {p : Pl} (h : Pok p) : p.b1.length ≤ 76 := by
  have := flat_len nameB (n := 9) (xs := p.nms) fun w hw => by
    have := (h.nw w hw).2.1
    simp [nameB]; omega
  have := h.n2
  unfold Pl.b1
  rw [List.length_append]
  simp only [List.length_cons, List.length_nil]
  omega
theorem b3_len {p : Pl} (h : Pok p) : p.b2.length ≤ 85 ∧ p.b3.length ≤ 145 := by
  have h1 := b1_len h
  have h2 := rks_len h
  have h3 := h.n2
  have h4 := h.s20
  have := flat_len (fun s : Nat × Nat × Nat => [s.1, s.2.1, s.2.2]) (n := 3) (xs := p.sts) fun w _ => by simp
  have hb2 : p.b2.length ≤ 85 := by
    unfold Pl.b2
    simp only [List.length_append, List.length_singleton]
    omega
  refine ⟨hb2, ?_⟩
  unfold Pl.b3
  rw [List.length_append]
  omega
theorem bytes_len {p : Pl} (h : Pok p) : p.bytes.length ≤ 300 := by
  have h1 := (b3_len h).2
  have h2 := runs_len h
  have := flat_len (fun q : Nat × Nat => [q.1, q.2]) (n := 2) (xs := runsL p.pau) fun w _ => by simp
  unfold Pl.bytes
  simp only [List.length_append, List.length_singleton]
  omega
theorem law_bytes_eq {p : Pl} (h : Pok p) : F__law_bytes [p.d] = some (.ok (.lst (p.bytes.map iD))) := by
  have l1 := b1_len h
  have l3 := b3_len h
  have lb := bytes_len h
  have h8 := h.n2
  have h20 := h.s20
  have hrl := runs_len h
  unfold F__law_bytes asN b__law_bytes
  rw [List.map_cons, List.map_nil]
  have s1 : sAsg (eVar 0) (tgTup 6 (tgCons (tgName 1) (tgCons (tgName 2) (tgCons (tgName 3) (tgCons (tgName 4) (tgCons (tgName 5) (tgCons (tgName 6) tgNil))))))) (mkSl 12 [.val p.d]) [] =
      some (.nx, [some (.val p.d), some (nV p.len), some (nV p.most), some (.val (.tup (p.nms.map strL))), some (.val (.lst (p.rks.map iD))), some (.val (.lst (p.sts.map triD))), some (.val (.lst (p.pau.map iD))), none, none, none, none, none], []) := by simp [Pl.d]
  have s2 : eArgs gLstO (aCons (eC (.int 87)) (aCons (eVar 1) (aCons (eVar 2) (aCons (eArgs (g1 gLen) (aCons (eVar 3) aNil)) aNil)))) [some (.val p.d), some (nV p.len), some (nV p.most), some (.val (.tup (p.nms.map strL))), some (.val (.lst (p.rks.map iD))), some (.val (.lst (p.sts.map triD))), some (.val (.lst (p.pau.map iD))), none, none, none, none, none] [] =
      some (.ok (.obj 0), [.lst ([87, p.len, p.most, p.nms.length].map nV)]) := by simp [gLen, gLstO]
  obtain ⟨k3, sl3, st3, a1, a2, a3, a4, a5⟩ := cat_loop (g := tgName 8) (E := eArgs (gCallP 1 F__law_word_bytes []) (aCons (eVar 8) aNil)) (N := 12) (i7 := 7) (keep := [3, 4, 5, 6, 7]) (fun w => S.val (strL w)) nameB (fun w sl => sl[8]? = some (some (.val (strL w)))) (by decide) (by decide) p.nms [87, p.len, p.most, p.nms.length] 0 [some (.val p.d), some (nV p.len), some (nV p.most), some (.val (.tup (p.nms.map strL))), some (.val (.lst (p.rks.map iD))), some (.val (.lst (p.sts.map triD))), some (.val (.lst (p.pau.map iD))), some (.obj 0), none, none, none, none] [.lst ([87, p.len, p.most, p.nms.length].map nV)] rfl rfl rfl
    (tg_name _ (by decide) (by decide) _) (fun w hw sl st hq => callP1 (var_val hq) (word_bytes_eq (h.nw w hw))) (by unfold Pl.b1 at l1; rw [List.length_append] at l1; omega)
  have e3 := (a5 3 (by decide) (by decide))
  have e4 := (a5 4 (by decide) (by decide))
  have e5 := (a5 5 (by decide) (by decide))
  have e6 := (a5 6 (by decide) (by decide))
  simp only [List.getElem?_cons_succ, List.getElem?_cons_zero] at e3 e4 e5 e6
  have hb1 : [87, p.len, p.most, p.nms.length] ++ (p.nms.map nameB).flatten = p.b1 := rfl
  rw [hb1] at a4
  -- ranks, the number of starts
  have v7 := var_obj (i := 7) a3 a4
  have s4a : eBin gAdd (eVar 7) (eVar 4) sl3 st3 = some (.ok (.val (.lst ((p.b1 ++ p.rks).map iD))), st3) := by
    rw [bin_ok v7 (var_val e4)]
    have z : p.b1.length + p.rks.length ≤ sizeLine := Nat.le_of_lt (sizes (by rw [rks_len h]; omega))
    unfold gAdd gCat
    simp only [lstOf, a4]
    rw [datas_app, datas_nV]
    simp [z]
  have s4b : eArgs Cl.gLst (aCons (eArgs (g1 gLen) (aCons (eVar 5) aNil)) aNil) sl3 st3 = some (.ok (.val (.lst [iD p.sts.length])), st3) := by
    rw [args1 (x := nV p.sts.length) (st' := st3)]
    · simp [Cl.gLst]
    · rw [args1 (var_val e5)]; simp [gLen]
  have s4 : eBin gCatO (eBin gAdd (eVar 7) (eVar 4)) (eArgs Cl.gLst (aCons (eArgs (g1 gLen) (aCons (eVar 5) aNil)) aNil)) sl3 st3 = some (.ok (.obj st3.length), st3 ++ [.lst (p.b2.map nV)]) := by
    rw [bin_ok s4a s4b]
    have z : p.b1.length + (p.rks.length + 1) ≤ sizeLine := Nat.le_of_lt (sizes (by rw [rks_len h]; omega))
    unfold gCatO Pl.b2
    simp [z]
    rfl
  -- starts
  obtain ⟨k9, sl9, st9, c1, c2, c3, c4, c5⟩ := cat_loop (g := tgName 9) (E := eArgs (g1 gList) (aCons (eVar 9) aNil)) (N := 12) (i7 := 7) (keep := [6, 7]) triV (fun s => [s.1, s.2.1, s.2.2]) (fun s sl => sl[9]? = some (some (triV s))) (by decide) (by decide) p.sts p.b2 st3.length (sl3.set 7 (some (.obj st3.length))) (st3 ++ [.lst (p.b2.map nV)]) (by rw [List.length_set]; exact a2) (by rw [List.getElem?_set_self (by rw [a2]; decide)]) (by simp)
    (tg_name _ (by decide) (by decide) _) (fun s hs sl st hq => by rw [args1 (var_val hq)]; exact tri_list s st) (Nat.le_trans (Nat.le_of_eq (List.length_append).symm) (Nat.le_trans l3.2 (by decide)))
  have hb3 : p.b2 ++ (p.sts.map fun s => [s.1, s.2.1, s.2.2]).flatten = p.b3 := rfl
  rw [hb3] at c4
  have f6 : sl9[6]? = some (some (.val (.lst (p.pau.map iD)))) := by rw [c5 6 (by decide) (by decide), List.getElem?_set_ne (by decide)]; exact e6
  -- runs
  have s6 : eArgs (gCallP 1 F__law_runs []) (aCons (eVar 6) aNil) sl9 st9 = some (.ok (.val (.lst ((runsL p.pau).map fun q => pr q.1 q.2))), st9) := callP1 (var_val f6) (law_runs_eq p.pau (by have := pau_len h; omega))
  have g7 : (sl9.set 10 (some (.val (.lst ((runsL p.pau).map fun q => pr q.1 q.2)))))[7]? = some (some (.obj k9)) := by rw [List.getElem?_set_ne (by decide)]; exact c3
  have g10 : (sl9.set 10 (some (.val (.lst ((runsL p.pau).map fun q => pr q.1 q.2)))))[10]? = some (some (.val (.lst ((runsL p.pau).map fun q => pr q.1 q.2)))) := by rw [List.getElem?_set_self (by rw [c2]; decide)]
  have s7 : eBM "list" gAppend (eVar 7) (aCons (eArgs (g1 gLen) (aCons (eVar 10) aNil)) aNil) (sl9.set 10 (some (.val (.lst ((runsL p.pau).map fun q => pr q.1 q.2))))) st9 = some (.ok (.val .non), st9.set k9 (.lst ((p.b3 ++ [(runsL p.pau).length]).map nV))) := by
    rw [bm1 (y := nV (runsL p.pau).length) (st2 := st9) (var_obj g7 c4) (chk_list c4) (by rw [args1 (var_val g10)]; simp [gLen]), gApp_eq c4 (by rw [List.length_map]; exact sizes (by omega))]
    simp
  have hk9 : k9 < st9.length := (List.getElem?_eq_some_iff.mp c4).1
  obtain ⟨k11, sl11, st11, d1, d2, d3, d4, d5⟩ := cat_loop (g := tgName 11) (E := eArgs (g1 gList) (aCons (eVar 11) aNil)) (N := 12) (i7 := 7) (keep := [7]) prV (fun q => [q.1, q.2]) (fun s sl => sl[11]? = some (some (prV s))) (by decide) (by decide) (runsL p.pau) (p.b3 ++ [(runsL p.pau).length]) k9 (sl9.set 10 (some (.val (.lst ((runsL p.pau).map fun q => pr q.1 q.2))))) (st9.set k9 (.lst ((p.b3 ++ [(runsL p.pau).length]).map nV))) (by rw [List.length_set]; exact c2) g7 (by rw [List.getElem?_set_self hk9])
    (tg_name _ (by decide) (by decide) _) (fun s hs sl st hq => by rw [args1 (var_val hq)]; exact pr_list s st) (by unfold Pl.bytes at lb; simp only [List.length_append] at lb ⊢; omega)
  have r1 : (p.nms.map fun w => S.val (strL w)) = (p.nms.map strL).map S.val := by rw [List.map_map]; rfl
  rw [r1] at a1
  rw [show p.sts.map triV = (p.sts.map triD).map S.val by rw [List.map_map]; rfl] at c1
  rw [show (runsL p.pau).map prV = ((runsL p.pau).map fun q => pr q.1 q.2).map S.val by rw [List.map_map]; rfl] at d1
  have iof3 : ∀ {e : ME} {sl : Sl} {st : List O} {l : List D}, e sl st = some (.ok (.val (.tup l)), st) → iOf e sl st = some (.ok (l.map .val, always), st) := fun {e sl st l} hh => by
    unfold iOf
    simp only [M.bind, hh, gIter]
  have fin := (seq_nx s1).trans ((seq_nx (set_nx (i := 7) s2)).trans ((seq_nx (for_ok (iof3 (var_val (i := 3) (v := .tup (p.nms.map strL)) rfl)) a1)).trans ((seq_nx (set_nx (i := 7) s4)).trans ((seq_nx (for_ok (iof_lst (var_val (i := 5) (by rw [List.getElem?_set_ne (by decide)]; exact e5))) c1)).trans ((seq_nx (set_nx (i := 10) s6)).trans ((seq_nx (expr_nx s7)).trans (seq_nx (b := sRet (eVar 7)) (for_ok (iof_lst (var_val g10)) d1))))))))
  refine (congrArg exitN fin).trans ?_
  rw [ret_ok (var_obj (i := 7) d3 d4)]
  unfold exitN
  simp only [d4]
  rw [datas_nV]
  rfl
end G
namespace G
open PySem L2 Cl
def Pl.code (p : Pl) : List Nat := p.bytes ++ [p.bytes.sum % 256]
theorem ints_sum : ∀ l : List Nat, ∃ ns : List Int, intsD (l.map iD) = some ns ∧ ns.sum = ((l.sum : Nat) : Int)
  | [] => ⟨[], rfl, rfl⟩
  | a :: l => by
    obtain ⟨ns, h1, h2⟩ := ints_sum l
    exact ⟨(a : Int) :: ns, by rw [List.map_cons, intsD, h1]; rfl, by rw [List.sum_cons, h2, List.sum_cons]; omega⟩
theorem gSum_obj {k : Nat} {st : List O} {l : List Nat} (h : st[k]? = some (.lst (l.map nV))) : gSum (.obj k) st = some (.ok (nV l.sum), st) := by
  obtain ⟨ns, h1, h2⟩ := ints_sum l
  unfold gSum
  simp only [lstOf, h, Option.bind_some, datas_nV, h1, h2]
theorem gSum_lst (l : List Nat) (st : List O) : gSum (.val (.lst (l.map iD))) st = some (.ok (nV l.sum), st) := by
  obtain ⟨ns, h1, h2⟩ := ints_sum l
  unfold gSum
  simp only [lstOf, Option.bind_some, datas_val, h1, h2]
theorem acons1 {e : ME} {sl : Sl} {st st' : List O} {x : S} (h : e sl st = some (.ok x, st')) : aCons e aNil sl st = some (.ok [x], st') := by simp [h]
theorem astar {e : ME} {r : MA} {sl : Sl} {st st1 st2 : List O} {x : S} {l l2 : List S} (h : e sl st = some (.ok x, st1)) (hl : seqOf x st1 = some l) (h2 : r sl st1 = some (.ok l2, st2)) : aStar e r sl st = some (.ok (l ++ l2), st2) := by
  unfold aStar
  simp only [M.bind, h, hl, h2, M.pure]
theorem mod256 {e : ME} {sl : Sl} {st : List O} {n : Nat} (h : e sl st = some (.ok (nV n), st)) : eBin gMod e (eC (.int 256)) sl st = some (.ok (nV (n % 256)), st) := by
  rw [bin_ok h rfl]
  simp
theorem iof_tup {e : ME} {sl : Sl} {st : List O} {l : List D} (h : e sl st = some (.ok (.val (.tup l)), st)) : iOf e sl st = some (.ok (l.map .val, always), st) := by
  unfold iOf
  simp only [M.bind, h, gIter]
theorem encode_eq {p : Pl} (h : Pok p) : F_encode [strL p.text] = some (.ok (.lst (p.code.map iD))) := by
  have l1 := b1_len h
  have l3 := b3_len h
  have lb := bytes_len h
  have h8 := h.n2
  have h20 := h.s20
  have hrl := runs_len h
  unfold F_encode asN b_encode
  rw [List.map_cons, List.map_nil]
  have s1 : eArgs (gCallP 1 F_load []) (aCons (eVar 0) aNil) (mkSl 9 [.val (strL p.text)]) [] = some (.ok (.val p.parsed), []) := callP1 (var_val (v := strL p.text) rfl) (load_eq h)
  have v1 : ∀ (sl : Sl) (st : List O), sl[1]? = some (some (.val p.parsed)) → eVar 1 sl st = some (.ok (.val p.parsed), st) := fun sl st hs => var_val hs
  have s2 : eArgs gLstO (aCons (eC (.int 87)) (aCons (eFld ["Plan"] "length" (eVar 1)) (aCons (eFld ["Plan"] "most" (eVar 1)) (aCons (eArgs (g1 gLen) (aCons (eFld ["Plan"] "names" (eVar 1)) aNil)) aNil)))) ((mkSl 9 [.val (strL p.text)]).set 1 (some (.val p.parsed))) [] =
      some (.ok (.obj 0), [.lst ([87, p.len, p.most, p.nms.length].map nV)]) := by
    have a1 := fld_ok (v1 ((mkSl 9 [.val (strL p.text)]).set 1 (some (.val p.parsed))) [] rfl) (fl_length p [])
    have a2 := fld_ok (v1 ((mkSl 9 [.val (strL p.text)]).set 1 (some (.val p.parsed))) [] rfl) (fl_most p [])
    have a3 := fld_ok (v1 ((mkSl 9 [.val (strL p.text)]).set 1 (some (.val p.parsed))) [] rfl) (fl_names p [])
    have a4 : eArgs (g1 gLen) (aCons (eFld ["Plan"] "names" (eVar 1)) aNil) ((mkSl 9 [.val (strL p.text)]).set 1 (some (.val p.parsed))) [] = some (.ok (nV p.nms.length), []) := by
      rw [args1 a3]; simp [gLen]
    generalize (mkSl 9 [.val (strL p.text)]).set 1 (some (.val p.parsed)) = sl at a1 a2 a4
    simp only [eArgs, aCons, M.bind, eC, M.pure, a1, a2, aNil] at a4 ⊢
    simp only [a4]
    simp [gLstO]
  obtain ⟨sl3, a1, a2, a3⟩ := ext_loop (k := 0) (g := tgName 3) (E := eBin gAdd (eArgs Cl.gLst (aCons (eArgs (g1 gLen) (aCons (eVar 3) aNil)) aNil)) (eLc [4] (iOf (eVar 3)) (tgName 4) tTrue e1_encode)) (N := 9) (i7 := 2) (keep := [1, 2]) (fun w => S.val (strL w)) nameB (fun w sl => sl[3]? = some (some (.val (strL w))) ∧ sl.length = 9) (by decide) p.nms [87, p.len, p.most, p.nms.length] (((mkSl 9 [.val (strL p.text)]).set 1 (some (.val p.parsed))).set 2 (some (.obj 0))) rfl rfl
    (fun a ha sl st hl => by
      obtain ⟨sl1, q1, q2, q3, q4⟩ := tg_name (fun w => S.val (strL w)) (j := 3) (N := 9) (keep := [1, 2]) (by decide) (by decide) p.nms a ha sl st hl
      exact ⟨sl1, q1, q2, ⟨q3, q2⟩, q4⟩)
    (fun w hw sl st hq => by
      have hl := (h.nw w hw).2.1
      have hlc := letters_comp (sl := sl) (st := st) (i := 3) (j := 4) (e := e1_encode) (w := w) (fun sl c hc hs => by
        unfold e1_encode
        rw [lit_let, bm1 (x := .val (.str (Sc letL))) (st1 := st) rfl (by simp) (var_val hs)]
        exact sindex_eq hc st) hq.1 (h.nw w hw).2.2.1 hl (by rw [hq.2]; decide)
      have b1 : eArgs Cl.gLst (aCons (eArgs (g1 gLen) (aCons (eVar 3) aNil)) aNil) sl st = some (.ok (.val (.lst [iD w.length])), st) := by
        rw [args1 (x := nV w.length) (st' := st)]
        · simp [Cl.gLst]
        · rw [args1 (var_val hq.1)]
          exact gLen_str w st (by omega)
      rw [bin_ok b1 hlc, gAdd_lst]
      · rfl
      · simp; exact Nat.le_of_lt (sizes (by omega))) (by unfold Pl.b1 at l1; rw [List.length_append] at l1; omega)
  have hb1 : [87, p.len, p.most, p.nms.length] ++ (p.nms.map nameB).flatten = p.b1 := rfl
  rw [hb1] at a1
  have q1 : sl3[1]? = some (some (.val p.parsed)) := a3 1 (by decide)
  have q2 : sl3[2]? = some (some (.obj 0)) := a3 2 (by decide)
  have hk1 : ([.lst (p.b1.map nV)] : List O)[0]? = some (.lst (p.b1.map nV)) := rfl
  have s4 : eBM "list" gExtend (eVar 2) (aCons (eArgs Cl.gLst (aStar (eFld ["Plan"] "ranks" (eVar 1)) (aCons (eArgs (g1 gLen) (aCons (eFld ["Plan"] "starts" (eVar 1)) aNil)) aNil))) aNil) sl3 [.lst (p.b1.map nV)] = some (.ok (.val .non), [.lst (p.b2.map nV)]) := by
    have e1 := fld_ok (v1 sl3 [.lst (p.b1.map nV)] q1) (fl_ranks p _)
    have e2 : eArgs (g1 gLen) (aCons (eFld ["Plan"] "starts" (eVar 1)) aNil) sl3 [.lst (p.b1.map nV)] = some (.ok (nV p.sts.length), [.lst (p.b1.map nV)]) := by
      rw [args1 (fld_ok (v1 sl3 [.lst (p.b1.map nV)] q1) (fl_starts p _))]; simp [gLen]
    have e3 : eArgs Cl.gLst (aStar (eFld ["Plan"] "ranks" (eVar 1)) (aCons (eArgs (g1 gLen) (aCons (eFld ["Plan"] "starts" (eVar 1)) aNil)) aNil)) sl3 [.lst (p.b1.map nV)] = some (.ok (.val (.lst ((p.rks ++ [p.sts.length]).map iD))), [.lst (p.b1.map nV)]) := by
      have td : ∀ (l : List D) (st : List O), toDs (l.map S.val) st = some (.ok l, st) := by
        intro l st
        induction l with
        | nil => rfl
        | cons a l ih => simp [ih]
      have z : (p.rks ++ [p.sts.length]).length ≤ sizeLine := Nat.le_of_lt (sizes (by rw [List.length_append, rks_len h]; simp; omega))
      have e4 : aStar (eFld ["Plan"] "ranks" (eVar 1)) (aCons (eArgs (g1 gLen) (aCons (eFld ["Plan"] "starts" (eVar 1)) aNil)) aNil) sl3 [.lst (p.b1.map nV)] = some (.ok (((p.rks ++ [p.sts.length]).map iD).map S.val), [.lst (p.b1.map nV)]) := by
        rw [astar e1 (l := (p.rks.map iD).map S.val) rfl (acons1 e2)]
        simp
      generalize aStar (eFld ["Plan"] "ranks" (eVar 1)) (aCons (eArgs (g1 gLen) (aCons (eFld ["Plan"] "starts" (eVar 1)) aNil)) aNil) = A at e4 ⊢
      unfold eArgs
      simp only [M.bind, e4]
      unfold Cl.gLst
      simp only [M.bind, td]
      rw [if_pos (by rw [List.length_map]; exact z)]
    rw [bm1 (var_obj q2 hk1) (chk_list hk1) e3]
    unfold gExtend
    simp only [lstOf, hk1, nV_map]
    rw [if_pos (by rw [List.length_map, List.length_map, List.length_append, rks_len h]; simp; exact Nat.le_of_lt (sizes (by omega)))]
    simp [Pl.b2]
  obtain ⟨sl5, c1, c2, c3⟩ := ext_loop (k := 0) (g := tgName 5) (E := eArgs (g1 gList) (aCons (eVar 5) aNil)) (N := 9) (i7 := 2) (keep := [1, 2]) triV (fun s => [s.1, s.2.1, s.2.2]) (fun s sl => sl[5]? = some (some (triV s))) (by decide) p.sts p.b2 sl3 a2 q2
    (tg_name _ (by decide) (by decide) _) (fun s hs sl st hq => by rw [args1 (var_val hq)]; exact tri_list s st) (Nat.le_trans (Nat.le_of_eq (List.length_append).symm) (Nat.le_trans l3.2 (by decide)))
  have hb3 : p.b2 ++ (p.sts.map fun s => [s.1, s.2.1, s.2.2]).flatten = p.b3 := rfl
  rw [hb3] at c1
  have q51 : sl5[1]? = some (some (.val p.parsed)) := (c3 1 (by decide)).trans q1
  have q52 : sl5[2]? = some (some (.obj 0)) := (c3 2 (by decide)).trans q2
  have s6 : eArgs (gCallP 1 F_runs_of []) (aCons (eFld ["Plan"] "paused" (eVar 1)) aNil) sl5 [.lst (p.b3.map nV)] = some (.ok (.val (.lst ((runsL p.pau).map fun q => pr q.1 q.2))), [.lst (p.b3.map nV)]) := callP1 (fld_ok (v1 sl5 _ q51) (fl_paused p _)) (runs_of_plan h)
  have q62 : (sl5.set 6 (some (.val (.lst ((runsL p.pau).map fun q => pr q.1 q.2)))))[2]? = some (some (.obj 0)) := by rw [List.getElem?_set_ne (by decide)]; exact q52
  have q66 : (sl5.set 6 (some (.val (.lst ((runsL p.pau).map fun q => pr q.1 q.2)))))[6]? = some (some (.val (.lst ((runsL p.pau).map fun q => pr q.1 q.2)))) := by rw [List.getElem?_set_self (by rw [c2]; decide)]
  have hk3 : ([.lst (p.b3.map nV)] : List O)[0]? = some (.lst (p.b3.map nV)) := rfl
  have s7 : eBM "list" gAppend (eVar 2) (aCons (eArgs (g1 gLen) (aCons (eVar 6) aNil)) aNil) (sl5.set 6 (some (.val (.lst ((runsL p.pau).map fun q => pr q.1 q.2))))) [.lst (p.b3.map nV)] = some (.ok (.val .non), [.lst ((p.b3 ++ [(runsL p.pau).length]).map nV)]) := by
    rw [bm1 (y := nV (runsL p.pau).length) (st2 := [.lst (p.b3.map nV)]) (var_obj q62 hk3) (chk_list hk3) (by rw [args1 (var_val q66)]; simp [gLen]), gApp_eq hk3 (by rw [List.length_map]; exact sizes (by omega))]
    simp
  obtain ⟨sl8, d1, d2, d3⟩ := ext_loop (k := 0) (g := tgTup 2 (tgCons (tgName 7) (tgCons (tgName 8) tgNil))) (E := eArgs Cl.gLst (aCons (eVar 7) (aCons (eVar 8) aNil))) (N := 9) (i7 := 2) (keep := [2]) prV (fun q => [q.1, q.2]) (fun q sl => sl[7]? = some (some (nV q.1)) ∧ sl[8]? = some (some (nV q.2))) (by decide) (runsL p.pau) (p.b3 ++ [(runsL p.pau).length]) (sl5.set 6 (some (.val (.lst ((runsL p.pau).map fun q => pr q.1 q.2))))) (by rw [List.length_set]; exact c2) q62
    (fun q hq sl st hl => ⟨(sl.set 7 (some (nV q.1))).set 8 (some (nV q.2)), by simp [prV, pr], by rw [List.length_set, List.length_set]; exact hl, ⟨by rw [List.getElem?_set_ne (by decide), List.getElem?_set_self (by rw [hl]; decide)], by rw [List.getElem?_set_self (by rw [List.length_set, hl]; decide)]⟩, fun i hi => by
      rw [List.mem_singleton.mp hi, List.getElem?_set_ne (by decide), List.getElem?_set_ne (by decide)]⟩)
    (fun q hq sl st hs => by rw [args2 (var_val hs.1) (var_val hs.2)]; simp [Cl.gLst]) (by unfold Pl.bytes at lb; simp only [List.length_append] at lb ⊢; omega)
  have hb : p.b3 ++ [(runsL p.pau).length] ++ ((runsL p.pau).map fun q => [q.1, q.2]).flatten = p.bytes := rfl
  rw [hb] at d1
  have q82 : sl8[2]? = some (some (.obj 0)) := (d3 2 (by decide)).trans q62
  have hkb : ([.lst (p.bytes.map nV)] : List O)[0]? = some (.lst (p.bytes.map nV)) := rfl
  have s9 : eArgs gLstO (aStar (eVar 2) (aCons (eBin gMod (eArgs (g1 gSum) (aCons (eVar 2) aNil)) (eC (.int 256))) aNil)) sl8 [.lst (p.bytes.map nV)] = some (.ok (.obj 1), [.lst (p.bytes.map nV), .lst (p.code.map nV)]) := by
    have e1 : eBin gMod (eArgs (g1 gSum) (aCons (eVar 2) aNil)) (eC (.int 256)) sl8 [.lst (p.bytes.map nV)] = some (.ok (nV (p.bytes.sum % 256)), [.lst (p.bytes.map nV)]) := by
      refine mod256 ?_
      rw [args1 (var_obj q82 hkb)]
      exact gSum_obj hkb
    have e4 : aStar (eVar 2) (aCons (eBin gMod (eArgs (g1 gSum) (aCons (eVar 2) aNil)) (eC (.int 256))) aNil) sl8 [.lst (p.bytes.map nV)] = some (.ok (p.code.map nV), [.lst (p.bytes.map nV)]) := by
      rw [astar (var_obj q82 hkb) (l := p.bytes.map nV) rfl (acons1 e1)]
      simp [Pl.code]
    generalize aStar (eVar 2) (aCons (eBin gMod (eArgs (g1 gSum) (aCons (eVar 2) aNil)) (eC (.int 256))) aNil) = A at e4 ⊢
    unfold eArgs
    simp only [M.bind, e4]
    unfold gLstO
    rw [if_pos (by rw [List.length_map]; unfold Pl.code; rw [List.length_append]; exact Nat.le_of_lt (sizes (by simp; omega)))]
    rfl
  have r1 : (p.nms.map fun w => S.val (strL w)) = (p.nms.map strL).map S.val := by rw [List.map_map]; rfl
  rw [r1] at a1
  rw [show p.sts.map triV = (p.sts.map triD).map S.val by rw [List.map_map]; rfl] at c1
  rw [show (runsL p.pau).map prV = ((runsL p.pau).map fun q => pr q.1 q.2).map S.val by rw [List.map_map]; rfl] at d1
  have fin := (seq_nx (set_nx (i := 1) s1)).trans ((seq_nx (set_nx (i := 2) s2)).trans ((seq_nx (for_ok (iof_tup (fld_ok (v1 _ _ rfl) (fl_names p _))) a1)).trans ((seq_nx (expr_nx s4)).trans ((seq_nx (for_ok (iof_lst (fld_ok (v1 sl3 _ q1) (fl_starts p _))) c1)).trans ((seq_nx (set_nx (i := 6) s6)).trans ((seq_nx (expr_nx s7)).trans ((seq_nx (for_ok (iof_lst (var_val q66)) d1)).trans (ret_ok s9))))))))
  refine (congrArg exitN fin).trans ?_
  unfold exitN
  simp only [List.getElem?_cons_succ, List.getElem?_cons_zero]
  rw [datas_nV]
  rfl
end G
namespace G
open PySem L2 Cl
theorem kb1 : ∀ t ∈ ["NoneType", "bool", "int", "str", "tuple", "list"], ∀ T ∈ ["bool", "int", "str", "tuple", "list"], kitB t T = some (decide (t = T ∨ (t = "bool" ∧ T = "int"))) := by decide +kernel
theorem isi_eq {x : S} {st : List O} {t T : String} (h : tyS x st = some t) (ht : t ∈ ["NoneType", "bool", "int", "str", "tuple", "list"]) (hT : T ∈ ["bool", "int", "str", "tuple", "list"]) : gIsi [x, .val (.vv (.ty T))] st = some (.ok (.val (.bl (decide (t = T ∨ (t = "bool" ∧ T = "int"))))), st) := by
  unfold gIsi
  simp only [h, tyN, kb1 t ht T hT]
theorem all_true (l : List Bool) (h : ∀ b ∈ l, b = true) : l.all id = true := List.all_eq_true.mpr fun b hb => h b hb
theorem bools_rep {α : Type} (xs : List α) : boolsD (xs.map fun _ => D.bl true) = some (xs.map fun _ => true) := by
  induction xs with
  | nil => rfl
  | cons a l ih => rw [List.map_cons, boolsD, ih]; rfl
/-- a sequence's items -/
theorem equal_seq {F : OF} {x y : S} {st : List O} {l : List D} (hlen : l.length ≤ 100000) (rx : rsvS x st = x) (ry : rsvS y st = y) (hx : ∀ (i : Nat) (d : D), l[i]? = some d → gIx x (nV i) st = some (.ok (.val d), st)) (hy : ∀ (i : Nat) (d : D), l[i]? = some d → gIx y (nV i) st = some (.ok (.val d), st)) (hl : gLen y st = some (.ok (nV l.length), st))
    (hF : ∀ d ∈ l, F [.val d, .val d] st = some (.ok (.val (.bl true)), st)) :
    eArgs (g1 (gAnyAll fun l => l.all id)) (aCons (eLc [2] (iArgs gRange1 (aCons (eArgs (g1 gLen) (aCons (eVar 1) aNil)) aNil)) (tgName 2) tTrue (e1__law_equal F)) aNil) [some x, some y, none] st = some (.ok (.val (.bl true)), st) := by
  have v1 : ∀ sl : Sl, sl[1]? = some (some y) → eVar 1 sl st = some (.ok y, st) := fun sl h => by unfold eVar; rw [h]; simp only [rsv, ry]
  have v0 : ∀ sl : Sl, sl[0]? = some (some x) → eVar 0 sl st = some (.ok x, st) := fun sl h => by unfold eVar; rw [h]; simp only [rsv, rx]
  have hr : iArgs gRange1 (aCons (eArgs (g1 gLen) (aCons (eVar 1) aNil)) aNil) [some x, some y, none] st = some (.ok ((List.range l.length).map fun i : Nat => S.val (iD i), always), st) := by
    rw [iargs1 (x := nV l.length) (st' := st)]
    · exact range_val l.length (by omega) st
    · rw [args1 (v1 _ rfl)]; exact hl
  have hlc := eLc_all (vs := [2]) (g := tgName 2) (e := e1__law_equal F) (fun i : Nat => S.val (iD i)) (fun _ => D.bl true) (List.range l.length) hr trivial (by rw [List.length_range]; exact Nat.le_of_lt (sizes (by omega)))
    (fun i hi => by
      have hi' := List.mem_range.mp hi
      refine ⟨[some x, some y, some (S.val (iD i))], rfl, ?_⟩
      have e0 : eBin gIx (eVar 0) (eVar 2) [some x, some y, some (S.val (iD i))] st = some (.ok (.val l[i]), st) := by
        rw [bin_ok (v0 _ rfl) (var_val (i := 2) rfl)]; exact hx i _ (List.getElem?_eq_getElem hi')
      have e1 : eBin gIx (eVar 1) (eVar 2) [some x, some y, some (S.val (iD i))] st = some (.ok (.val l[i]), st) := by
        rw [bin_ok (v1 _ rfl) (var_val (i := 2) rfl)]; exact hy i _ (List.getElem?_eq_getElem hi')
      unfold e1__law_equal
      rw [args2 e0 e1]
      simp only [gCallO, List.map_nil, List.append_nil, List.length_cons, List.length_nil, if_true]
      exact hF _ (List.getElem_mem hi'))
  rw [args1 hlc]
  simp only [g1, gAnyAll, lstOf, Option.bind_some, datas_val, bools_rep]
  rw [all_true _ (by simp)]
theorem gEq_S {x y : S} {st : List O} {d : D} (hx : asD x st = some d) (hy : asD y st = some d) (ho : okP true 60 d = true) : gEq x y st = some (.ok (.val (.bl true)), st) := gEq_refl false hx hy ho
theorem guard_f {c : MT} {a b : MS} {sl : Sl} {st : List O} (h : c sl st = some (.ok false, st)) : sSeq (sIf c a sNext) b sl st = b sl st := by
  rw [seq_nx (sl' := sl) (st' := st)]
  rw [if_f h]; rfl
theorem guard_t {c : MT} {a b : MS} {sl sl' : Sl} {st st' : List O} {x : S} (h : c sl st = some (.ok true, st)) (ha : a sl st = some (.rt x, sl', st')) : sSeq (sIf c a sNext) b sl st = some (.rt x, sl', st') := by
  unfold sSeq
  rw [if_t h, ha]
theorem tof {e : ME} {sl : Sl} {st st' : List O} {b : Bool} (h : e sl st = some (.ok (.val (.bl b)), st')) : tOfE e sl st = some (.ok b, st') := by
  unfold tOfE
  simp only [M.bind, h, M.pure]
theorem tbin {g : S → S → M S} {a c : ME} {sl : Sl} {st st' : List O} {b : Bool} (h : eBin g a c sl st = some (.ok (.val (.bl b)), st')) : tBin g a c sl st = some (.ok b, st') := by
  unfold tBin
  simp only [M.bind, h, M.pure]
theorem eand_t {a b : ME} {sl : Sl} {st st' : List O} (h : a sl st = some (.ok (.val (.bl true)), st')) : eAnd a b sl st = b sl st' := by
  unfold eAnd
  simp only [M.bind, h, if_true]
theorem enot {a : ME} {sl : Sl} {st st' : List O} {b : Bool} (h : a sl st = some (.ok (.val (.bl b)), st')) : eNot a sl st = some (.ok (.val (.bl (!b))), st') := by
  unfold eNot
  simp only [M.bind, h, M.pure]
/-- how a value of this kind is seen -/
structure Seen (st : List O) (x : S) (d : D) (t : String) : Prop where
  r : rsvS x st = x
  a : asD x st = some d
  ty : tyS x st = some t
  n : isNonS x = some (decide (t = "NoneType"))
theorem ty_eq (b : Bool) (st : List O) : gEq (.val (.bl b)) (.val (.bl b)) st = some (.ok (.val (.bl true)), st) := gEq_refl false rfl rfl rfl
theorem ty_ne (b : Bool) (st : List O) : gNe (.val (.bl b)) (.val (.bl b)) st = some (.ok (.val (.bl false)), st) := gEq_refl true rfl rfl rfl
theorem equal_body {F : OF} {x y : S} {st : List O} {d : D} {t : String} (sx : Seen st x d t) (sy : Seen st y d t) (ht : t ∈ ["NoneType", "bool", "int", "str", "tuple", "list"]) (ho : okP true 60 d = true)
    (hq : (t = "tuple" ∨ t = "list") → ∃ l : List D, l.length ≤ 100000 ∧ (∀ (i : Nat) (d : D), l[i]? = some d → gIx x (nV i) st = some (.ok (.val d), st)) ∧ (∀ (i : Nat) (d : D), l[i]? = some d → gIx y (nV i) st = some (.ok (.val d), st)) ∧ gLen x st = some (.ok (nV l.length), st) ∧ gLen y st = some (.ok (nV l.length), st) ∧ ∀ d ∈ l, F [.val d, .val d] st = some (.ok (.val (.bl true)), st)) :
    ∃ sl', b__law_equal F [some x, some y, none] st = some (.rt (.val (.bl true)), sl', st) := by
  have v1 : eVar 1 [some x, some y, none] st = some (.ok y, st) := by show rsv y st = _; simp only [rsv, sy.r]
  have v0 : eVar 0 [some x, some y, none] st = some (.ok x, st) := by show rsv x st = _; simp only [rsv, sx.r]
  have i0 : ∀ T, T ∈ ["bool", "int", "str", "tuple", "list"] → eArgs gIsi (aCons (eVar 0) (aCons (eC (.vv (.ty T))) aNil)) [some x, some y, none] st = some (.ok (.val (.bl (decide (t = T ∨ (t = "bool" ∧ T = "int"))))), st) := fun T hT => by
    rw [args2 v0 rfl]; exact isi_eq sx.ty ht hT
  have i1 : ∀ T, T ∈ ["bool", "int", "str", "tuple", "list"] → eArgs gIsi (aCons (eVar 1) (aCons (eC (.vv (.ty T))) aNil)) [some x, some y, none] st = some (.ok (.val (.bl (decide (t = T ∨ (t = "bool" ∧ T = "int"))))), st) := fun T hT => by
    rw [args2 v1 rfl]; exact isi_eq sy.ty ht hT
  have n1 : gIsN false y (.val .non) st = some (.ok (.val (.bl (decide (t = "NoneType")))), st) := by simp [gIsN, sy.n]
  have n0 : gIsN false x (.val .non) st = some (.ok (.val (.bl (decide (t = "NoneType")))), st) := by simp [gIsN, sx.n]
  have eq1 := gEq_S sx.a sy.a ho
  have b1 := i1 "bool" (by decide)
  have b2 := i1 "int" (by decide)
  have b3 := i1 "str" (by decide)
  have b4 := i1 "tuple" (by decide)
  have b5 := i1 "list" (by decide)
  have a1 := i0 "bool" (by decide)
  have a2 := i0 "int" (by decide)
  have a3 := i0 "str" (by decide)
  have a4 := i0 "tuple" (by decide)
  have a5 := i0 "list" (by decide)
  have z1 : eBin (gIsN false) (eVar 1) (eC .non) [some x, some y, none] st = some (.ok (.val (.bl (decide (t = "NoneType")))), st) := by rw [bin_ok v1 rfl]; exact n1
  have z0 : eBin (gIsN false) (eVar 0) (eC .non) [some x, some y, none] st = some (.ok (.val (.bl (decide (t = "NoneType")))), st) := by rw [bin_ok v0 rfl]; exact n0
  have e01 : eBin gEq (eVar 0) (eVar 1) [some x, some y, none] st = some (.ok (.val (.bl true)), st) := by rw [bin_ok v0 v1]; exact eq1
  refine ⟨[some x, some y, none], ?_⟩
  unfold b__law_equal
  simp only [List.mem_cons, List.not_mem_nil, or_false] at ht
  rcases ht with rfl | rfl | rfl | rfl | rfl | rfl
  · exact guard_t (tbin z1) (ret_ok z0)
  · rw [guard_f (tbin z1)]
    exact guard_t (tof b1) (ret_ok (by rw [eand_t a1]; exact e01))
  · rw [guard_f (tbin z1), guard_f (tof b1)]
    exact guard_t (tof b2) (ret_ok (by rw [eand_t a2, eand_t (enot a1)]; exact e01))
  · rw [guard_f (tbin z1), guard_f (tof b1), guard_f (tof b2)]
    exact guard_t (tof b3) (ret_ok (by rw [eand_t a3]; exact e01))
  · obtain ⟨l, l1, l2, l3, l4, l5, l6⟩ := hq (.inl rfl)
    have c1 : tBin gNe (eArgs gIsi (aCons (eVar 1) (aCons (eC (.vv (.ty "tuple"))) aNil))) (eArgs gIsi (aCons (eVar 0) (aCons (eC (.vv (.ty "tuple"))) aNil))) [some x, some y, none] st = some (.ok false, st) := tbin (by rw [bin_ok b4 a4]; exact ty_ne _ _)
    have c2 : tBin gNe (eArgs gIsi (aCons (eVar 1) (aCons (eC (.vv (.ty "list"))) aNil))) (eArgs gIsi (aCons (eVar 0) (aCons (eC (.vv (.ty "list"))) aNil))) [some x, some y, none] st = some (.ok false, st) := tbin (by rw [bin_ok b5 a5]; exact ty_ne _ _)
    have c3 : tBin gNe (eArgs (g1 gLen) (aCons (eVar 0) aNil)) (eArgs (g1 gLen) (aCons (eVar 1) aNil)) [some x, some y, none] st = some (.ok false, st) := tbin (by
      rw [bin_ok (x := nV l.length) (y := nV l.length) (st1 := st) (st2 := st) (by rw [args1 v0]; exact l4) (by rw [args1 v1]; exact l5), gNe_int]; simp)
    rw [guard_f (tbin z1), guard_f (tof b1), guard_f (tof b2), guard_f (tof b3), guard_f c1, guard_f c2, guard_f c3]
    exact ret_ok (equal_seq l1 sx.r sy.r l2 l3 l5 l6)
  · obtain ⟨l, l1, l2, l3, l4, l5, l6⟩ := hq (.inr rfl)
    have c1 : tBin gNe (eArgs gIsi (aCons (eVar 1) (aCons (eC (.vv (.ty "tuple"))) aNil))) (eArgs gIsi (aCons (eVar 0) (aCons (eC (.vv (.ty "tuple"))) aNil))) [some x, some y, none] st = some (.ok false, st) := tbin (by rw [bin_ok b4 a4]; exact ty_ne _ _)
    have c2 : tBin gNe (eArgs gIsi (aCons (eVar 1) (aCons (eC (.vv (.ty "list"))) aNil))) (eArgs gIsi (aCons (eVar 0) (aCons (eC (.vv (.ty "list"))) aNil))) [some x, some y, none] st = some (.ok false, st) := tbin (by rw [bin_ok b5 a5]; exact ty_ne _ _)
    have c3 : tBin gNe (eArgs (g1 gLen) (aCons (eVar 0) aNil)) (eArgs (g1 gLen) (aCons (eVar 1) aNil)) [some x, some y, none] st = some (.ok false, st) := tbin (by
      rw [bin_ok (x := nV l.length) (y := nV l.length) (st1 := st) (st2 := st) (by rw [args1 v0]; exact l4) (by rw [args1 v1]; exact l5), gNe_int]; simp)
    rw [guard_f (tbin z1), guard_f (tof b1), guard_f (tof b2), guard_f (tof b3), guard_f c1, guard_f c2, guard_f c3]
    exact ret_ok (equal_seq l1 sx.r sy.r l2 l3 l5 l6)
mutual
/-- no list in it is longer than a bound -/
def shortD : D → Bool
  | .tup l => decide (l.length ≤ 100000) && shortDs l
  | .lst l => decide (l.length ≤ 100000) && shortDs l
  | _ => true
def shortDs : List D → Bool
  | [] => true
  | d :: r => shortD d && shortDs r
end
theorem shortDs_iff : ∀ {l : List D}, shortDs l = true ↔ ∀ d ∈ l, shortD d = true
  | [] => by simp [shortDs]
  | d :: r => by rw [shortDs, Bool.and_eq_true, shortDs_iff]; simp
theorem exit_C {n : Nat} {b : MS} {ss : List S} {st : List O} {sl' : Sl} {d : D} (hc : Closed st) (h : b (mkSl n ss) st = some (.rt (.val d), sl', st)) : asC n b ss st = some (.ok (.val d), st) := by
  unfold asC
  rw [h]
  exact exitC_rt0 hc rfl
/-- two values that are the same data -/
theorem equal_val {st : List O} (hc : Closed st) : ∀ (n : Nat) (d : D), n ≤ 59 → okP true n d = true → shortD d = true → F__law_equal (n + 1) [.val d, .val d] st = some (.ok (.val (.bl true)), st) := by
  intro n
  induction n with
  | zero =>
    intro d hn ho hs
    have key : ∀ t, t ∈ ["NoneType", "bool", "int", "str", "tuple", "list"] → t ≠ "tuple" → t ≠ "list" → Seen st (.val d) d t → F__law_equal 1 [.val d, .val d] st = some (.ok (.val (.bl true)), st) := fun t ht h1 h2 hS => by
      obtain ⟨sl', e⟩ := equal_body (F := F__law_equal 0) hS hS ht (okP_mono ho (by omega)) (fun h => (by rcases h with h | h; exact absurd h h1; exact absurd h h2))
      exact exit_C hc e
    cases d with
    | non => exact key "NoneType" (by decide) (by decide) (by decide) ⟨rfl, rfl, rfl, rfl⟩
    | bl b => exact key "bool" (by decide) (by decide) (by decide) ⟨rfl, rfl, rfl, rfl⟩
    | int b => exact key "int" (by decide) (by decide) (by decide) ⟨rfl, rfl, rfl, rfl⟩
    | str b => exact key "str" (by decide) (by decide) (by decide) ⟨rfl, rfl, rfl, rfl⟩
    | tup l => simp [okP] at ho
    | lst l => simp [okP] at ho
    | scr l => simp [okP] at ho
    | ins c l => simp [okP] at ho
    | dct l => simp [okP] at ho
    | vv l => simp [okP] at ho
  | succ n ih =>
    intro d hn ho hs
    have key : ∀ t, t ∈ ["NoneType", "bool", "int", "str", "tuple", "list"] → t ≠ "tuple" → t ≠ "list" → Seen st (.val d) d t → F__law_equal (n + 1 + 1) [.val d, .val d] st = some (.ok (.val (.bl true)), st) := fun t ht h1 h2 hS => by
      obtain ⟨sl', e⟩ := equal_body (F := F__law_equal (n + 1)) hS hS ht (okP_mono ho (by omega)) (fun h => (by rcases h with h | h; exact absurd h h1; exact absurd h h2))
      exact exit_C hc e
    cases d with
    | non => exact key "NoneType" (by decide) (by decide) (by decide) ⟨rfl, rfl, rfl, rfl⟩
    | bl b => exact key "bool" (by decide) (by decide) (by decide) ⟨rfl, rfl, rfl, rfl⟩
    | int b => exact key "int" (by decide) (by decide) (by decide) ⟨rfl, rfl, rfl, rfl⟩
    | str b => exact key "str" (by decide) (by decide) (by decide) ⟨rfl, rfl, rfl, rfl⟩
    | tup l =>
      have hS : Seen st (.val (.tup l)) (.tup l) "tuple" := ⟨rfl, rfl, rfl, rfl⟩
      have ho' := okPs_iff.mp (show okPs true n l = true by rw [okP] at ho; exact ho)
      rw [shortD, Bool.and_eq_true] at hs
      have hs' := shortDs_iff.mp hs.2
      obtain ⟨sl', e⟩ := equal_body (F := F__law_equal (n + 1)) hS hS (by decide) (okP_mono ho (by omega)) (fun _ => ⟨l, of_decide_eq_true hs.1, fun i d h => gIx_tup h, fun i d h => gIx_tup h, by simp [gLen], by simp [gLen], fun d hd => ih d (by omega) (ho' d hd) (hs' d hd)⟩)
      exact exit_C hc e
    | lst l =>
      have hS : Seen st (.val (.lst l)) (.lst l) "list" := ⟨rfl, rfl, rfl, rfl⟩
      have ho' := okPs_iff.mp (show okPs true n l = true by rw [okP] at ho; exact ho)
      rw [shortD, Bool.and_eq_true] at hs
      have hs' := shortDs_iff.mp hs.2
      obtain ⟨sl', e⟩ := equal_body (F := F__law_equal (n + 1)) hS hS (by decide) (okP_mono ho (by omega)) (fun _ => ⟨l, of_decide_eq_true hs.1, fun i d h => gIx_lst h, fun i d h => gIx_lst h, by simp [gLen], by simp [gLen], fun d hd => ih d (by omega) (ho' d hd) (hs' d hd)⟩)
      exact exit_C hc e
    | scr l => simp [okP] at ho
    | ins c l => simp [okP] at ho
    | dct l => simp [okP] at ho
    | vv l => simp [okP] at ho
/-- two lists of the store -/
theorem equal_obj {st : List O} (hc : Closed st) {n i j : Nat} {l : List D} (hn : n ≤ 58) (hi : st[i]? = some (.lst (l.map .val))) (hj : st[j]? = some (.lst (l.map .val))) (ho : ∀ d ∈ l, okP true n d = true ∧ shortD d = true) (hl : l.length ≤ 100000) : F__law_equal (n + 1 + 1) [.obj i, .obj j] st = some (.ok (.val (.bl true)), st) := by
  have sn : ∀ k, st[k]? = some (.lst (l.map .val)) → Seen st (.obj k) (.lst l) "list" := fun k hk => ⟨by simp only [rsvS, hk], by simp [asD, hk], by simp only [tyS, hk], rfl⟩
  have ix : ∀ k, st[k]? = some (.lst (l.map .val)) → ∀ (m : Nat) (d : D), l[m]? = some d → gIx (.obj k) (nV m) st = some (.ok (.val d), st) := fun k hk m d h => gIx_obj hk (x := .val d) (by rw [List.getElem?_map, h]; rfl) rfl
  have ln : ∀ k, st[k]? = some (.lst (l.map .val)) → gLen (.obj k) st = some (.ok (nV l.length), st) := fun k hk => by simp only [gLen, seqOf, lstOf, hk, List.length_map]
  obtain ⟨sl', e⟩ := equal_body (F := F__law_equal (n + 1)) (sn i hi) (sn j hj) (by decide) (okP_mono (okP_le true (n := n) fun d hd => (ho d hd).1) (by omega)) (fun _ => ⟨l, hl, ix i hi, ix j hj, ln i hi, ln j hj, fun d hd => equal_val hc n d (by omega) (ho d hd).1 (ho d hd).2⟩)
  exact exit_C hc e
end G
namespace G
open PySem L2 Cl
/-! ### the reader -/
theorem is_int_eq (b lo hi : Int) : F_is_int_in [.int b, .int lo, .int hi] = some (.ok (.bl (decide (lo ≤ b) && decide (b ≤ hi)))) := by
  have i1 := isi_eq (x := .val (.int b)) (st := []) (t := "int") (T := "int") rfl (by decide) (by decide)
  have i2 := isi_eq (x := .val (.int b)) (st := []) (t := "int") (T := "bool") rfl (by decide) (by decide)
  unfold F_is_int_in asP b_is_int_in
  have a1 : eArgs gIsi (aCons (eVar 0) (aCons (eC (.vv (.ty "int"))) aNil)) (mkSl 3 ([.int b, .int lo, .int hi].map .val)) [] = some (.ok (.val (.bl true)), []) := by rw [args2 (var_val (i := 0) (v := .int b) rfl) rfl]; exact i1
  have a2 : eArgs gIsi (aCons (eVar 0) (aCons (eC (.vv (.ty "bool"))) aNil)) (mkSl 3 ([.int b, .int lo, .int hi].map .val)) [] = some (.ok (.val (.bl false)), []) := by rw [args2 (var_val (i := 0) (v := .int b) rfl) rfl]; exact i2
  have a3 : eChain gLe gLe (eVar 1) (eVar 0) (eVar 2) (mkSl 3 ([.int b, .int lo, .int hi].map .val)) [] = some (.ok (.val (.bl (decide (lo ≤ b) && decide (b ≤ hi)))), []) := by
    by_cases h : lo ≤ b <;> simp [h]
  rw [ret_ok (x := .val (.bl (decide (lo ≤ b) && decide (b ≤ hi)))) (st' := [])]
  · simp [deepD]
  · rw [eand_t a1, eand_t (enot a2)]; exact a3
def rdO (j i : Nat) : O := .ins "Reader" [("code", .obj j), ("place", nV i)]
def RS (s : List O) (j i : Nat) (ex : List O) : List O := s ++ rdO j i :: ex
/-- data only -/
def exV (ex : List O) : Prop := ∀ o ∈ ex, ∀ m, belowO m o = true
section
variable {s : List O} {j i n : Nat} {ex : List O} {code : List Nat} {sl : Sl}
theorem RS_n (hn : s.length = n) : (RS s j i ex)[n]? = some (rdO j i) := get_r0 hn
theorem RS_j (hj : s[j]? = some (.lst (code.map nV))) : (RS s j i ex)[j]? = some (.lst (code.map nV)) := by
  have : j < s.length := (List.getElem?_eq_some_iff.mp hj).1
  unfold RS
  rw [get_l this]; exact hj
theorem RS_set (hn : s.length = n) (i' : Nat) : (RS s j i ex).set n (rdO j i') = RS s j i' ex := set_r0 hn
theorem RS_len : (RS s j i ex).length = s.length + (ex.length + 1) := by unfold RS; rw [List.length_append, List.length_cons]
theorem RS_app (o : List O) : RS s j i ex ++ o = RS s j i (ex ++ o) := by unfold RS; rw [List.append_assoc, List.cons_append]
theorem RS_ex (hn : s.length = n) (k : Nat) : (RS s j i ex)[n + (k + 1)]? = ex[k]? := by
  unfold RS
  rw [get_r (k + 1) hn]; rfl
theorem RS_setx (hn : s.length = n) (k : Nat) (o : O) : (RS s j i ex).set (n + (k + 1)) o = RS s j i (ex.set k o) := by
  unfold RS
  rw [set_r (k + 1) hn]; rfl
theorem RS_closed (hc : Closed s) (hj : j < s.length) (he : exV ex) : Closed (RS s j i ex) := by
  unfold Closed RS at *
  rw [List.all_append, List.all_cons, Bool.and_eq_true, Bool.and_eq_true]
  refine ⟨?_, ?_, List.all_eq_true.mpr fun o ho => he o ho _⟩
  · rw [List.all_eq_true] at hc ⊢
    intro o ho
    exact belowO_mono (hc o ho) (by simp)
  · simp [rdO, belowO]
    omega
theorem exV_nil : exV [] := fun o ho => by cases ho
theorem exV_app {l : List D} (he : exV ex) : exV (ex ++ [.lst (l.map .val)]) := fun o ho m => by
  rcases List.mem_append.mp ho with h | h
  · exact he o h m
  · rw [List.mem_singleton.mp h]; simp
/-- fields -/
theorem rd_obj {e : ME} (h : e sl (RS s j i ex) = some (.ok (.obj n), RS s j i ex)) (hn : s.length = n) (hj : s[j]? = some (.lst (code.map nV))) : eFld ["Reader"] "code" e sl (RS s j i ex) = some (.ok (.obj j), RS s j i ex) := by
  have g1 := RS_n (j := j) (i := i) (ex := ex) hn
  have g2 := RS_j (i := i) (ex := ex) hj
  unfold eFld
  simp only [M.bind, h, gFld, insOf, g1, rdO]
  simp [g2]
theorem rd_place {e : ME} (h : e sl (RS s j i ex) = some (.ok (.obj n), RS s j i ex)) (hn : s.length = n) : eFld ["Reader"] "place" e sl (RS s j i ex) = some (.ok (nV i), RS s j i ex) := by
  have g1 := RS_n (j := j) (i := i) (ex := ex) hn
  unfold eFld
  simp only [M.bind, h, gFld, insOf, g1, rdO]
  simp
theorem rd_var {a : Nat} (h : sl[a]? = some (some (.obj n))) (hn : s.length = n) : eVar a sl (RS s j i ex) = some (.ok (.obj n), RS s j i ex) := by
  unfold eVar; rw [h]
  simp only [rsv, rsvS, RS_n hn, rdO]
theorem tor_f {a b : MT} {st st' : List O} (h : a sl st = some (.ok false, st')) : tOrM a b sl st = b sl st' := by
  unfold tOrM
  simp only [M.bind, h]
  rfl
theorem tnot {a : MT} {st st' : List O} {k : Bool} (h : a sl st = some (.ok k, st')) : tNotM a sl st = some (.ok (!k), st') := by
  unfold tNotM
  simp only [M.bind, h, M.pure]
theorem callP3 {f : PF} {e1 e2 e3 : ME} {st st1 st2 st3 : List O} {a b c r : D} (h1 : e1 sl st = some (.ok (.val a), st1)) (h2 : e2 sl st1 = some (.ok (.val b), st2)) (h3 : e3 sl st2 = some (.ok (.val c), st3)) (hf : f [a, b, c] = some (.ok r)) : eArgs (gCallP 3 f []) (aCons e1 (aCons e2 (aCons e3 aNil))) sl st = some (.ok (.val r), st3) := by
  rw [args3 h1 h2 h3]; simp [hf]
/-- the next byte -/
theorem read_byte_eq (hc : Closed s) (hn : s.length = n) (hj : s[j]? = some (.lst (code.map nV))) (he : exV ex) {b : Nat} (hb : code[i]? = some b) {lo hi : Int} (h1 : lo ≤ (b : Int)) (h2 : (b : Int) ≤ hi) :
    F_Reader_read_byte [.obj n, iV lo, iV hi] (RS s j i ex) = some (.ok (nV b), RS s j (i + 1) ex) := by
  have hjl : j < s.length := (List.getElem?_eq_some_iff.mp hj).1
  have hil : i < code.length := (List.getElem?_eq_some_iff.mp hb).1
  have m : mkSl 3 [.obj n, iV lo, iV hi] = [some (.obj n), some (iV lo), some (iV hi)] := rfl
  have v0 : ∀ i', eVar 0 [some (.obj n), some (iV lo), some (iV hi)] (RS s j i' ex) = some (.ok (.obj n), RS s j i' ex) := fun i' => rd_var rfl hn
  have p0 := rd_place (v0 i) hn
  have c0 := rd_obj (v0 i) hn hj
  have ix : ∀ (i' k : Nat) (d : Nat), code[k]? = some d → gIx (.obj j) (nV k) (RS s j i' ex) = some (.ok (nV d), RS s j i' ex) := fun i' k d h => gIx_obj (RS_j (i := i') (ex := ex) hj) (x := nV d) (by rw [List.getElem?_map, h]; rfl) rfl
  have t1 : tBin gEq (eFld ["Reader"] "place" (eVar 0)) (eArgs (g1 gLen) (aCons (eFld ["Reader"] "code" (eVar 0)) aNil)) [some (.obj n), some (iV lo), some (iV hi)] (RS s j i ex) = some (.ok false, RS s j i ex) := tbin (by
    rw [bin_ok p0 (y := nV code.length) (st2 := RS s j i ex), gEq_int]
    · have : ¬ (i : Int) = (code.length : Int) := by omega
      simp [this]
    · rw [args1 c0]
      simp only [g1, gLen, seqOf, lstOf, RS_j (i := i) (ex := ex) hj, List.length_map])
  have t2 : tNotM (tOfE (eArgs (gCallP 3 F_is_int_in []) (aCons (eBin gIx (eFld ["Reader"] "code" (eVar 0)) (eFld ["Reader"] "place" (eVar 0))) (aCons (eVar 1) (aCons (eVar 2) aNil))))) [some (.obj n), some (iV lo), some (iV hi)] (RS s j i ex) = some (.ok false, RS s j i ex) := by
    rw [tnot (k := true)]
    · rfl
    · refine tof ?_
      rw [callP3 (a := .int b) (b := .int lo) (c := .int hi) (by rw [bin_ok c0 p0]; exact ix i i b hb) (var_val (i := 1) rfl) (var_val (i := 2) rfl) (is_int_eq b lo hi)]
      simp [h1, h2]
  have s2 : sFldAug ["Reader"] "place" gAddI (eVar 0) (eC (.int 1)) [some (.obj n), some (iV lo), some (iV hi)] (RS s j i ex) = some (.nx, [some (.obj n), some (iV lo), some (iV hi)], RS s j (i + 1) ex) := by
    have g1 := RS_n (j := j) (i := i) (ex := ex) hn
    have g2 := RS_set (j := j) (i := i) (ex := ex) hn (i + 1)
    unfold Cl.sFldAug sBind
    simp only [v0 i, g1, rdO]
    unfold rdO at g1 g2
    simp [g1]
    rw [show ((i : Int) + 1) = ((i + 1 : Nat) : Int) from rfl]
    exact g2
  have s3 : eBin gIx (eFld ["Reader"] "code" (eVar 0)) (eBin gSub (eFld ["Reader"] "place" (eVar 0)) (eC (.int 1))) [some (.obj n), some (iV lo), some (iV hi)] (RS s j (i + 1) ex) = some (.ok (nV b), RS s j (i + 1) ex) := by
    rw [bin_ok (rd_obj (v0 (i + 1)) hn hj) (y := nV i) (st2 := RS s j (i + 1) ex)]
    · exact ix (i + 1) i b hb
    · rw [bin_ok (rd_place (v0 (i + 1)) hn) rfl]
      simp
  unfold F_Reader_read_byte asC
  rw [m]
  have body : b_Reader_read_byte [some (.obj n), some (iV lo), some (iV hi)] (RS s j i ex) = some (.rt (nV b), [some (.obj n), some (iV lo), some (iV hi)], RS s j (i + 1) ex) := by
    unfold b_Reader_read_byte
    rw [guard_f (by rw [tor_f t1]; exact t2), seq_nx s2, ret_ok s3]
  rw [body]
  exact exitC_rt0 (RS_closed hc hjl he) (by rw [RS_len, RS_len])
/-- a call of it -/
theorem eByte {a : Nat} {e1 e2 : ME} {lo hi : Int} {b : Nat} (hc : Closed s) (hn : s.length = n) (hj : s[j]? = some (.lst (code.map nV))) (he : exV ex) (ha : sl[a]? = some (some (.obj n))) (h1 : e1 sl (RS s j i ex) = some (.ok (iV lo), RS s j i ex)) (h2 : e2 sl (RS s j i ex) = some (.ok (iV hi), RS s j i ex)) (hb : code[i]? = some b) (l1 : lo ≤ (b : Int)) (l2 : (b : Int) ≤ hi) :
    eMeth ["Reader"] "read_byte" (gCallO 3 F_Reader_read_byte []) (eVar a) (aCons e1 (aCons e2 aNil)) sl (RS s j i ex) = some (.ok (nV b), RS s j (i + 1) ex) := by
  have v0 := rd_var (j := j) (i := i) (ex := ex) ha hn
  have ck : chkM ["Reader"] "read_byte" (.obj n) (RS s j i ex) = some (.ok (), RS s j i ex) := by
    simp only [chkM, insOf, RS_n hn, rdO]
    simp
  have hr := read_byte_eq hc hn hj he hb l1 l2
  have ar : aCons e1 (aCons e2 aNil) sl (RS s j i ex) = some (.ok [iV lo, iV hi], RS s j i ex) := by simp [h1, h2]
  unfold eMeth
  simp only [M.bind, v0, ck, ar]
  simp only [gCallO, List.map_nil, List.append_nil, List.length_cons, List.length_nil, if_true]
  exact hr
end
end G
namespace G
open PySem L2 Cl
section
variable {s : List O} {j i n : Nat} {ex : List O} {code : List Nat} {sl : Sl}
theorem drop_nat {l : List Nat} {i : Nat} {x : Nat} {m : List Nat} (h : l.drop i = x :: m) : l[i]? = some x ∧ l.drop (i + 1) = m := by
  constructor
  · have := congrArg (fun z => z[0]?) h
    simpa using this
  · have : l.drop (i + 1) = (l.drop i).drop 1 := by rw [List.drop_drop]
    rw [this, h]; rfl
theorem let_at : ∀ k, k < 26 → letL[k]? = some (97 + k) := by decide
theorem lc_one {C : List O → Prop} {g : MG} {e : ME} {sl sl1 : Sl} {d : S} {ds : List S} {acc : List D} {st st1 st2 : List O} {y : D} (hC : C st) (hg : g d sl st = some (sl1, st1)) (he : e sl1 st1 = some (.ok (.val y), st2)) (hl : acc.length < sizeLine) : lcL C g tTrue e sl (d :: ds) acc st = lcL C g tTrue e sl ds (acc ++ [y]) st2 := by
  rw [lcL, if_pos hC, hg]
  simp only [tTrue, M.pure, M.bind, he, toD]
  rw [if_pos hl]
theorem name_letters (hc : Closed s) (hn : s.length = n) (hj : s[j]? = some (.lst (code.map nV))) (he : exV ex) (h0 : sl[0]? = some (some (.obj n))) : ∀ (w : List Nat) (i : Nat) (acc : List D) (ks : List Nat) (rest : List Nat), ks.length = w.length → code.drop i = w.map (· - 97) ++ rest → (∀ c ∈ w, isLet c = true) → acc.length + w.length ≤ 1000 →
    lcL always (tgName 5) tTrue e1_Reader_read_name sl (ks.map fun k => S.val (iD k)) acc (RS s j i ex) = some (acc ++ w.map fun c => strL [c], RS s j (i + w.length) ex)
  | [], i, acc, ks, rest, hk, _, _, _ => by
    have := List.length_eq_zero_iff.mp hk
    subst this
    rw [List.map_nil, lcL, if_pos (show always _ from trivial)]
    simp
  | c :: w, i, acc, k :: ks, rest, hk, hd, hw, hl => by
    simp only [List.map_cons, List.cons_append, List.length_cons] at hd hk hl
    obtain ⟨d1, d2⟩ := drop_nat hd
    have hcl := hw c List.mem_cons_self
    simp only [isLet, Bool.and_eq_true, decide_eq_true_eq] at hcl
    have h0' : (sl.set 5 (some (S.val (iD k))))[0]? = some (some (.obj n)) := by rw [List.getElem?_set_ne (by decide)]; exact h0
    have e1 : eBin gSub (eArgs (g1 gLen) (aCons (eC (.str "abcdefghijklmnopqrstuvwxyz")) aNil)) (eC (.int 1)) (sl.set 5 (some (S.val (iD k)))) (RS s j i ex) = some (.ok (iV 25), RS s j i ex) := by
      rw [bin_ok (x := iV 26) (st1 := RS s j i ex) (by have z26 : 26 ≤ sizeLine := Nat.le_of_lt (sizes (by omega))
                                                       rw [args1 rfl, lit_let]; simp [gLen, letL, z26]) rfl]
      simp
    have hb := eByte (e1 := eC (.int 0)) (lo := 0) (hi := 25) hc hn hj he h0' rfl e1 d1 (by omega) (by omega)
    have el : e1_Reader_read_name (sl.set 5 (some (S.val (iD k)))) (RS s j i ex) = some (.ok (.val (strL [c])), RS s j (i + 1) ex) := by
      unfold e1_Reader_read_name
      rw [lit_let] at hb ⊢
      rw [bin_ok (x := .val (.str (Sc letL))) (st1 := RS s j i ex) rfl hb]
      have ha := Cl.atI_nat (let_at (c - 97) (by omega))
      rw [show 97 + (c - 97) = c by omega] at ha
      have z : letL.length ≤ sizeLine := Nat.le_of_lt (sizes (by decide))
      unfold gIx
      simp only [Sc_len, z, if_true, Sc_cps, ha]
      rfl
    rw [List.map_cons, lc_one trivial rfl el (sizes (by omega)), name_letters hc hn hj he h0 w (i + 1) (acc ++ [strL [c]]) ks rest (by omega) d2 (fun c hc => hw c (List.mem_cons_of_mem _ hc)) (by rw [List.length_append, List.length_singleton]; omega)]
    simp [Nat.add_assoc, Nat.add_comm 1]
theorem joinL_one : ∀ w : List Nat, TL.joinL [] (w.map fun c => [c]) = w
  | [] => rfl
  | [c] => rfl
  | c :: d :: w => by
    have := joinL_one (d :: w)
    rw [List.map_cons, joinL_cons _ _ (by simp), this]
    rfl
theorem in_strs (x : List Nat) (nms : List (List Nat)) {m : Nat} {st : List O} (h : st[m]? = some (.lst ((nms.map strL).map .val))) : gInB false (.val (strL x)) (.obj m) st = some (.ok (.val (.bl (decide (x ∈ nms)))), st) := by
  have e := any_strs (Sc x) (nms.map Sc)
  have f := flat_strs (nms.map Sc)
  have p : toPs (nms.map strL) = some ((nms.map Sc).map PyData.str) := by
    have := toPs_strs (nms.map Sc)
    rw [List.map_map] at this
    exact this
  have hm : decide (Sc x ∈ nms.map Sc) = decide (x ∈ nms) := by
    rw [decide_eq_decide]
    constructor
    · intro hh
      obtain ⟨y, hy, e⟩ := List.mem_map.mp hh
      rw [← Sc_inj e]; exact hy
    · exact fun hh => List.mem_map.mpr ⟨x, hh, rfl⟩
  unfold gInB
  simp only [strL, toPS, toP, seqOf, lstOf, h, Option.bind_some, datas_val]
  rw [p]
  simp only [flatP, f, e, hm, and_self, true_or, if_true]
  rfl
end
end G
namespace G
open PySem L2 Cl
section
variable {s : List O} {j i n : Nat} {ex : List O} {code : List Nat} {sl : Sl}
theorem lc_ok {vs : List Nat} {fi : MI} {g : MG} {t : MT} {e : ME} {sl : Sl} {st st' : List O} {its : Its'} {l : List D} {st2 : List O} (h : fi sl st = some (.ok its, st')) (h2 : lcL its.2 g t e (wipeS sl vs) its.1 [] st' = some (l, st2)) : eLc vs fi g t e sl st = some (.ok (.val (.lst l)), st2) := by
  unfold eLc
  simp only [M.bind, h]
  rw [h2]
  rfl
theorem name_lc (hc : Closed s) (hn : s.length = n) (hj : s[j]? = some (.lst (code.map nV))) (he : exV ex) {m : Nat} {w rest : List Nat} (w2 : w.length ≤ 8) (w3 : ∀ c ∈ w, isLet c = true) (d2 : code.drop (i + 1) = w.map (· - 97) ++ rest) :
    eLc [5] (iArgs gRange1 (aCons (eVar 3) aNil)) (tgName 5) tTrue e1_Reader_read_name [some (.obj n), some (.obj m), some (nV i), some (nV w.length), none, none] (RS s j (i + 1) ex) = some (.ok (.val (.lst ((w.map fun c => [c]).map strL))), RS s j (i + 1 + w.length) ex) := by
  have lt := name_letters (sl := [some (.obj n), some (.obj m), some (nV i), some (nV w.length), none, none]) hc hn hj he rfl w (i + 1) [] (List.range w.length) rest (by simp) d2 w3 (by simp; omega)
  have hr : iArgs gRange1 (aCons (eVar 3) aNil) [some (.obj n), some (.obj m), some (nV i), some (nV w.length), none, none] (RS s j (i + 1) ex) = some (.ok ((List.range w.length).map fun i : Nat => S.val (iD i), always), RS s j (i + 1) ex) := by
    rw [iargs1 (var_val (i := 3) (v := .int w.length) rfl)]
    exact range_val w.length (by omega) _
  rw [List.map_map]
  rw [List.nil_append] at lt
  exact lc_ok hr lt
theorem name_jn (hc : Closed s) (hn : s.length = n) (hj : s[j]? = some (.lst (code.map nV))) (he : exV ex) {m : Nat} {w rest : List Nat} (w2 : w.length ≤ 8) (w3 : ∀ c ∈ w, isLet c = true) (d2 : code.drop (i + 1) = w.map (· - 97) ++ rest) :
    eBM "str" gJoin (eC (.str "")) (aCons (eLc [5] (iArgs gRange1 (aCons (eVar 3) aNil)) (tgName 5) tTrue e1_Reader_read_name) aNil) [some (.obj n), some (.obj m), some (nV i), some (nV w.length), none, none] (RS s j (i + 1) ex) = some (.ok (.val (strL w)), RS s j (i + 1 + w.length) ex) := by
  rw [bm1 (x := .val (.str "")) (st1 := RS s j (i + 1) ex) rfl (by simp) (name_lc hc hn hj he w2 w3 d2), show Str.ofString "" = Sc [] by rw [Sc_of]; rfl, join_eq]
  · rw [joinL_one]
  · have : ((w.map fun c => [c]).map List.length).sum ≤ (w.map fun c => [c]).length * 1 := sum_le fun x hx => by
      obtain ⟨c, _, rfl⟩ := List.mem_map.mp hx
      exact Nat.le_refl _
    simp only [List.length_map, List.length_nil] at this ⊢
    omega
theorem name_gd {st : List O} {m : Nat} {nms : List (List Nat)} {w : List Nat} {x0 x2 x3 x5 : Option S} (hm : st[m]? = some (.lst ((nms.map strL).map .val))) (w4 : Sc w ∉ keyW) (hx : w ∉ nms) :
    tOrM (tBin (gInB false) (eVar 4) (eC (.tup ((["round", "open", "valves", "start", "for", "pause", "rank"] : List Str).map D.str)))) (tBin (gInB false) (eVar 4) (eVar 1)) [x0, some (.obj m), x2, x3, some (.val (strL w)), x5] st = some (.ok false, st) := by
  have a1 : tBin (gInB false) (eVar 4) (eC (.tup ((["round", "open", "valves", "start", "for", "pause", "rank"] : List Str).map D.str))) [x0, some (.obj m), x2, x3, some (.val (strL w)), x5] st = some (.ok false, st) := tbin (by
    rw [bin_ok (var_val (i := 4) (v := strL w) rfl) rfl]
    have := in_key (Sc w) st
    rw [decide_eq_false w4] at this
    exact this)
  rw [tor_f a1]
  refine tbin ?_
  rw [bin_ok (var_val (i := 4) (v := strL w) rfl) (var_obj (i := 1) rfl hm), in_strs w nms hm, decide_eq_false hx]
theorem name_eq (hc : Closed s) (hn : s.length = n) (hj : s[j]? = some (.lst (code.map nV))) (he : exV ex) {m : Nat} {nms : List (List Nat)} (hm : ∀ i, (RS s j i ex)[m]? = some (.lst ((nms.map strL).map .val))) {w rest : List Nat} (hw : NmW w) (hx : w ∉ nms) (hd : code.drop i = nameB w ++ rest) :
    F_Reader_read_name [.obj n, .obj m] (RS s j i ex) = some (.ok (.val (strL w)), RS s j (i + (w.length + 1)) ex) := by
  have hjl : j < s.length := (List.getElem?_eq_some_iff.mp hj).1
  obtain ⟨w1, w2, w3, w4⟩ := hw
  simp only [nameB, List.cons_append] at hd
  obtain ⟨d1, d2⟩ := drop_nat hd
  have sl0 : mkSl 6 [.obj n, .obj m] = [some (.obj n), some (.obj m), none, none, none, none] := rfl
  have p0 := rd_place (rd_var (j := j) (i := i) (ex := ex) (a := 0) (sl := [some (.obj n), some (.obj m), none, none, none, none]) rfl hn) hn
  have b1 := eByte (a := 0) (e1 := eC (.int 1)) (e2 := eC (.int 8)) (lo := 1) (hi := 8) (sl := [some (.obj n), some (.obj m), some (nV i), none, none, none]) hc hn hj he rfl rfl rfl d1 (by omega) (by omega)
  have jn := name_jn (m := m) hc hn hj he w2 w3 d2
  have gd := name_gd (x0 := some (.obj n)) (x2 := some (nV i)) (x3 := some (nV w.length)) (x5 := none) (hm (i + 1 + w.length)) w4 hx
  unfold F_Reader_read_name asC
  rw [sl0]
  have body : b_Reader_read_name [some (.obj n), some (.obj m), none, none, none, none] (RS s j i ex) = some (.rt (.val (strL w)), [some (.obj n), some (.obj m), some (nV i), some (nV w.length), some (.val (strL w)), none], RS s j (i + (w.length + 1)) ex) := by
    unfold b_Reader_read_name
    refine (seq_nx (set_nx p0)).trans ((seq_nx (set_nx b1)).trans ((seq_nx (set_nx jn)).trans ((guard_f gd).trans ?_)))
    rw [ret_ok (var_val (i := 4) (v := strL w) rfl), show i + 1 + w.length = i + (w.length + 1) by omega]
  rw [body]
  exact exitC_rt0 (RS_closed hc hjl he) (by rw [RS_len, RS_len])
/-! ranks -/
theorem in_intsO' (x : Nat) (js : List Nat) {st : List O} {m : Nat} (h : st[m]? = some (.lst (js.map nV))) : gInB false (nV x) (.obj m) st = some (.ok (.val (.bl (decide (x ∈ js)))), st) := in_intsO x js st m h
theorem ranks_loop (hc : Closed s) (hn : s.length = n) (hj : s[j]? = some (.lst (code.map nV))) (he : exV ex) {cnt : Nat} (hcnt : cnt ≤ 8) : ∀ (rs : List Nat) (i : Nat) (done : List Nat) (ks : List Nat) (rest : List Nat) (x3 x4 : Option S), ks.length = rs.length → code.drop i = rs ++ rest → (∀ r ∈ rs, r < cnt) → (done ++ rs).Nodup → done.length + rs.length ≤ 100 →
    ∃ x3' x4', forL always (tgName 3) l1_Reader_read_ranks (ks.map fun k => S.val (iD k)) [some (.obj n), some (nV cnt), some (.obj (n + (ex.length + 1))), x3, x4] (RS s j i (ex ++ [.lst (done.map nV)])) =
      some (.nx, [some (.obj n), some (nV cnt), some (.obj (n + (ex.length + 1))), x3', x4'], RS s j (i + rs.length) (ex ++ [.lst ((done ++ rs).map nV)]))
  | [], i, done, ks, rest, x3, x4, hk, _, _, _, _ => by
    have := List.length_eq_zero_iff.mp hk
    subst this
    exact ⟨x3, x4, by rw [List.map_nil, for_nil trivial]; simp⟩
  | r :: rs, i, done, k :: ks, rest, x3, x4, hk, hd, hr, nd, hl => by
    simp only [List.cons_append, List.length_cons] at hd hk hl
    obtain ⟨d1, d2⟩ := drop_nat hd
    have hrc := hr r List.mem_cons_self
    have hex : exV (ex ++ [.lst (done.map nV)]) := by
      have := exV_app (l := done.map iD) he
      rwa [nV_map] at this
    have g : ∀ (i' : Nat) (o : O), (RS s j i' (ex ++ [o]))[n + (ex.length + 1)]? = some o := fun i' o => by rw [RS_ex hn]; simp
    have hnd : r ∉ done := fun h => (List.nodup_append.mp nd).2.2 r h r List.mem_cons_self rfl
    obtain ⟨y3, y4, ih⟩ := ranks_loop hc hn hj he hcnt rs (i + 1) (done ++ [r]) ks rest (some (nV k)) (some (nV r)) (by omega) d2 (fun r hr' => hr r (List.mem_cons_of_mem _ hr')) (by simpa using nd) (by rw [List.length_append, List.length_singleton]; omega)
    refine ⟨y3, y4, ?_⟩
    have e2 : eBin gSub (eVar 1) (eC (.int 1)) [some (.obj n), some (nV cnt), some (.obj (n + (ex.length + 1))), some (nV k), x4] (RS s j i (ex ++ [.lst (done.map nV)])) = some (.ok (iV ((cnt : Int) - 1)), RS s j i (ex ++ [.lst (done.map nV)])) := by
      rw [bin_ok (var_val (i := 1) (v := .int cnt) rfl) rfl]; simp
    have b1 := eByte (a := 0) (e1 := eC (.int 0)) (e2 := eBin gSub (eVar 1) (eC (.int 1))) (lo := 0) (hi := (cnt : Int) - 1) (sl := [some (.obj n), some (nV cnt), some (.obj (n + (ex.length + 1))), some (nV k), x4]) hc hn hj hex rfl rfl e2 d1 (by omega) (by omega)
    have t1 : tBin (gInB false) (eVar 4) (eVar 2) [some (.obj n), some (nV cnt), some (.obj (n + (ex.length + 1))), some (nV k), some (nV r)] (RS s j (i + 1) (ex ++ [.lst (done.map nV)])) = some (.ok false, RS s j (i + 1) (ex ++ [.lst (done.map nV)])) := tbin (by
      rw [bin_ok (var_val (i := 4) (v := .int r) rfl) (var_obj (i := 2) rfl (g _ _))]
      exact (in_intsO' r done (g _ _)).trans (by rw [decide_eq_false hnd]))
    have ap : eBM "list" gAppend (eVar 2) (aCons (eVar 4) aNil) [some (.obj n), some (nV cnt), some (.obj (n + (ex.length + 1))), some (nV k), some (nV r)] (RS s j (i + 1) (ex ++ [.lst (done.map nV)])) = some (.ok (.val .non), RS s j (i + 1) (ex ++ [.lst ((done ++ [r]).map nV)])) := by
      rw [bm1 (var_obj (i := 2) rfl (g _ _)) (chk_list (g _ _)) (var_val (i := 4) (v := .int r) rfl), gApp_eq (g _ _) (by rw [List.length_map]; exact sizes (by omega)), RS_setx hn]
      simp
    have body : l1_Reader_read_ranks [some (.obj n), some (nV cnt), some (.obj (n + (ex.length + 1))), some (nV k), x4] (RS s j i (ex ++ [.lst (done.map nV)])) = some (.nx, [some (.obj n), some (nV cnt), some (.obj (n + (ex.length + 1))), some (nV k), some (nV r)], RS s j (i + 1) (ex ++ [.lst ((done ++ [r]).map nV)])) := by
      unfold l1_Reader_read_ranks
      exact (seq_nx (set_nx b1)).trans ((guard_f t1).trans (expr_nx ap))
    rw [List.map_cons, for_cons trivial rfl body, ih]
    simp [Nat.add_assoc, Nat.add_comm 1]
theorem ranks_eq (hc : Closed s) (hn : s.length = n) (hj : s[j]? = some (.lst (code.map nV))) (he : exV ex) {rks rest : List Nat} (hcnt : rks.length ≤ 8) (hr : rks.Perm (List.range rks.length)) (hd : code.drop i = rks ++ rest) :
    F_Reader_read_ranks [.obj n, nV rks.length] (RS s j i ex) = some (.ok (.val (.lst (rks.map iD))), RS s j (i + rks.length) ex) := by
  have hjl : j < s.length := (List.getElem?_eq_some_iff.mp hj).1
  obtain ⟨x3, x4, e⟩ := ranks_loop hc hn hj he hcnt rks i [] (List.range rks.length) rest none none (by simp) hd (fun r h => List.mem_range.mp (hr.mem_iff.mp h)) (by simpa using hr.nodup_iff.mpr List.nodup_range) (by simp; omega)
  have hr1 : iArgs gRange1 (aCons (eVar 1) aNil) [some (.obj n), some (nV rks.length), some (.obj (n + (ex.length + 1))), none, none] (RS s j i (ex ++ [.lst []])) = some (.ok ((List.range rks.length).map fun i : Nat => S.val (iD i), always), RS s j i (ex ++ [.lst []])) := by
    rw [iargs1 (var_val (i := 1) (v := .int rks.length) rfl)]
    exact range_val rks.length (by omega) _
  have s1 : eArgs gLstO aNil [some (.obj n), some (nV rks.length), none, none, none] (RS s j i ex) = some (.ok (.obj (n + (ex.length + 1))), RS s j i (ex ++ [.lst []])) := by
    simp [gLstO, RS_app, RS_len, hn]
  have g : (RS s j (i + rks.length) (ex ++ [.lst (rks.map nV)]))[n + (ex.length + 1)]? = some (.lst (rks.map nV)) := by rw [RS_ex hn]; simp
  have fz : eFrz (eVar 2) [some (.obj n), some (nV rks.length), some (.obj (n + (ex.length + 1))), x3, x4] (RS s j (i + rks.length) (ex ++ [.lst (rks.map nV)])) = some (.ok (.val (.lst (rks.map iD))), RS s j (i + rks.length) (ex ++ [.frz (.lst (rks.map iD))])) := by
    unfold eFrz
    simp only [M.bind, var_obj (i := 2) (sl := [some (.obj n), some (nV rks.length), some (.obj (n + (ex.length + 1))), x3, x4]) rfl g, toD, g, datas_nV, Option.map_some, M.pure]
    rw [RS_setx hn]
    simp
  rw [List.nil_append] at e
  unfold F_Reader_read_ranks asC
  rw [show mkSl 5 [.obj n, nV rks.length] = [some (.obj n), some (nV rks.length), none, none, none] from rfl]
  have body : b_Reader_read_ranks [some (.obj n), some (nV rks.length), none, none, none] (RS s j i ex) = some (.rt (.val (.lst (rks.map iD))), [some (.obj n), some (nV rks.length), some (.obj (n + (ex.length + 1))), x3, x4], RS s j (i + rks.length) (ex ++ [.frz (.lst (rks.map iD))])) := by
    unfold b_Reader_read_ranks
    exact (seq_nx (set_nx s1)).trans ((seq_nx (for_ok hr1 e)).trans (ret_ok fz))
  rw [body, ← RS_app]
  exact exitC_rt (RS_closed hc hjl he) (by rw [RS_len, RS_len])
end
end G
namespace G
open PySem L2 Cl
section
variable {s : List O} {j i n : Nat} {ex : List O} {code : List Nat} {sl : Sl}
theorem okP_tris (b : Bool) (n : Nat) (l : List T3) : okP b (n + 1 + 1) (.lst (l.map triD)) = true := by
  rw [okP, okPs_iff]
  intro d hd
  obtain ⟨q, _, rfl⟩ := List.mem_map.mp hd
  simp [triD, tri, okP, okPs]
theorem ne_tris {m : Nat} {st : List O} {l : List T3} (h : st[m]? = some (.lst (l.map triV))) : gNe (.obj m) (.val (.lst [])) st = some (.ok (.val (.bl (!l.isEmpty))), st) := by
  have dd : datas (l.map triV) = some (l.map triD) := datas_comp triD l
  have := gEqB_eq (x := .obj m) (y := .val (.lst [])) (st := st) (a := .lst (l.map triD)) (b := .lst []) true (by simp only [asD, lstOf, h, dd]; rfl) rfl (okP_tris _ _ _) (by simp [okP, okPs])
  refine this.trans ?_
  cases l with
  | nil => simp
  | cons a l => rw [eqD_ne (by simp)]; rfl
theorem last_obj {m : Nat} {st : List O} {L : List T3} {q : T3} (h : st[m]? = some (.lst ((L ++ [q]).map triV))) {a : Nat} {sl : Sl} (ha : sl[a]? = some (some (.obj m))) : eBin gIx (eVar a) (eNeg (eC (.int 1))) sl st = some (.ok (triV q), st) := by
  have e : eNeg (eC (.int 1)) sl st = some (.ok (iV (-1)), st) := by simp
  rw [bin_ok (var_obj ha h) e]
  have hl : atI ((L ++ [q]).map triV) (-1) = some (triV q) := by
    rw [List.map_append]; exact Cl.atI_last
  unfold gIx
  simp only [seqOf, lstOf, h, hl, rsvS]
def lowT (l : List T3) : Nat := match l.getLast? with
  | some q => q.1
  | none => 0
def lowV (l : List T3) (t : Nat) : Nat := match l.getLast? with
  | some q => if t = q.1 then q.2.1 else 0
  | none => 0
theorem lst0 (sl : Sl) (st : List O) : eArgs Cl.gLst aNil sl st = some (.ok (.val (.lst [])), st) := by simp [Cl.gLst]
theorem low_t {m : Nat} {st : List O} {l : List T3} (h : st[m]? = some (.lst (l.map triV))) {sl : Sl} (ha : sl[3]? = some (some (.obj m))) :
    eIf (tBin gNe (eVar 3) (eArgs Cl.gLst aNil)) (eBin gIx (eBin gIx (eVar 3) (eNeg (eC (.int 1)))) (eC (.int 0))) (eC (.int 0)) sl st = some (.ok (nV (lowT l)), st) := by
  have t := tbin (a := eVar 3) (c := eArgs Cl.gLst aNil) (by rw [bin_ok (var_obj ha h) (lst0 sl st)]; exact ne_tris h)
  rcases List.eq_nil_or_concat l with rfl | ⟨L, q, rfl⟩
  · rw [eIf_f t]; rfl
  · rw [List.concat_eq_append] at *
    have t' : tBin gNe (eVar 3) (eArgs Cl.gLst aNil) sl st = some (.ok true, st) := by rw [t]; simp
    rw [eIf_t t', bin_ok (last_obj h ha) rfl]
    have e : lowT (L ++ [q]) = q.1 := by unfold lowT; rw [List.getLast?_concat]
    rw [e]
    exact gIx_tup (i := 0) rfl
theorem tand_t {a b : MT} {st st' : List O} (h : a sl st = some (.ok true, st')) : tAndM a b sl st = b sl st' := by
  unfold tAndM
  simp only [M.bind, h]
  rfl
theorem tand_f {a b : MT} {st st' : List O} (h : a sl st = some (.ok false, st')) : tAndM a b sl st = some (.ok false, st') := by
  unfold tAndM
  simp only [M.bind, h]
  rfl
theorem low_v {m t : Nat} {st : List O} {l : List T3} (h : st[m]? = some (.lst (l.map triV))) {sl : Sl} (ha : sl[3]? = some (some (.obj m))) (h5 : sl[5]? = some (some (nV t))) :
    eIf (tAndM (tBin gNe (eVar 3) (eArgs Cl.gLst aNil)) (tBin gEq (eVar 5) (eBin gIx (eBin gIx (eVar 3) (eNeg (eC (.int 1)))) (eC (.int 0))))) (eBin gIx (eBin gIx (eVar 3) (eNeg (eC (.int 1)))) (eC (.int 1))) (eC (.int 0)) sl st = some (.ok (nV (lowV l t)), st) := by
  have t1 := tbin (a := eVar 3) (c := eArgs Cl.gLst aNil) (by rw [bin_ok (var_obj ha h) (lst0 sl st)]; exact ne_tris h)
  rcases List.eq_nil_or_concat l with rfl | ⟨L, q, rfl⟩
  · rw [eIf_f (tand_f t1)]; rfl
  · rw [List.concat_eq_append] at *
    have t' : tBin gNe (eVar 3) (eArgs Cl.gLst aNil) sl st = some (.ok true, st) := by rw [t1]; simp
    have g0 : eBin gIx (eBin gIx (eVar 3) (eNeg (eC (.int 1)))) (eC (.int 0)) sl st = some (.ok (nV q.1), st) := by
      rw [bin_ok (last_obj h ha) rfl]; exact gIx_tup (i := 0) rfl
    have g1 : eBin gIx (eBin gIx (eVar 3) (eNeg (eC (.int 1)))) (eC (.int 1)) sl st = some (.ok (nV q.2.1), st) := by
      rw [bin_ok (last_obj h ha) rfl]; exact gIx_tup (i := 1) rfl
    have t2 : tBin gEq (eVar 5) (eBin gIx (eBin gIx (eVar 3) (eNeg (eC (.int 1)))) (eC (.int 0))) sl st = some (.ok (decide (t = q.1)), st) := tbin (by
      rw [bin_ok (var_val h5) g0, gEq_int]; simp; omega)
    have e : lowV (L ++ [q]) t = if t = q.1 then q.2.1 else 0 := by unfold lowV; rw [List.getLast?_concat]
    rw [e]
    by_cases hq : t = q.1
    · have t3 : tAndM (tBin gNe (eVar 3) (eArgs Cl.gLst aNil)) (tBin gEq (eVar 5) (eBin gIx (eBin gIx (eVar 3) (eNeg (eC (.int 1)))) (eC (.int 0)))) sl st = some (.ok true, st) := by rw [tand_t t', t2, decide_eq_true hq]
      rw [eIf_t t3, if_pos hq]; exact g1
    · have t3 : tAndM (tBin gNe (eVar 3) (eArgs Cl.gLst aNil)) (tBin gEq (eVar 5) (eBin gIx (eBin gIx (eVar 3) (eNeg (eC (.int 1)))) (eC (.int 0)))) sl st = some (.ok false, st) := by rw [tand_t t', t2, decide_eq_false hq]
      rw [eIf_f t3, if_neg hq]; rfl
abbrev ord2 (a b : T3) : Prop := a.1 < b.1 ∨ (a.1 = b.1 ∧ a.2.1 ≤ b.2.1)
theorem low_ok {done : List T3} {q : T3} (h : (done ++ [q]).Pairwise ord2) : lowT done ≤ q.1 ∧ lowV done q.1 ≤ q.2.1 := by
  rcases List.eq_nil_or_concat done with rfl | ⟨L, a, rfl⟩
  · exact ⟨Nat.zero_le _, Nat.zero_le _⟩
  · rw [List.concat_eq_append] at *
    have := (List.pairwise_append.mp h).2.2 a (by simp) q (by simp)
    unfold lowT lowV
    rw [List.getLast?_concat]
    simp only
    constructor
    · rcases this with h | h
      · omega
      · omega
    · split
      · rcases this with h | h
        · omega
        · exact h.2
      · omega
theorem starts_loop (hc : Closed s) (hn : s.length = n) (hj : s[j]? = some (.lst (code.map nV))) (he : exV ex) {len cnt : Nat} : ∀ (ss : List T3) (i : Nat) (done : List T3) (ks : List Nat) (rest : List Nat) (x4 x5 x6 x7 : Option S), ks.length = ss.length → code.drop i = (ss.map fun s => [s.1, s.2.1, s.2.2]).flatten ++ rest → (∀ t ∈ ss, t.1 < len ∧ t.2.1 < cnt ∧ 1 ≤ t.2.2 ∧ t.2.2 ≤ 30) → (done ++ ss).Pairwise ord2 → done.length + ss.length ≤ 100 →
    ∃ x4' x5' x6' x7', forL always (tgName 4) l1_Reader_read_starts (ks.map fun k => S.val (iD k)) [some (.obj n), some (nV len), some (nV cnt), some (.obj (n + (ex.length + 1))), x4, x5, x6, x7] (RS s j i (ex ++ [.lst (done.map triV)])) =
      some (.nx, [some (.obj n), some (nV len), some (nV cnt), some (.obj (n + (ex.length + 1))), x4', x5', x6', x7'], RS s j (i + 3 * ss.length) (ex ++ [.lst ((done ++ ss).map triV)]))
  | [], i, done, ks, rest, x4, x5, x6, x7, hk, _, _, _, _ => by
    have := List.length_eq_zero_iff.mp hk
    subst this
    exact ⟨x4, x5, x6, x7, by rw [List.map_nil, for_nil trivial]; simp⟩
  | q :: ss, i, done, k :: ks, rest, x4, x5, x6, x7, hk, hd, hr, nd, hl => by
    simp only [List.map_cons, List.flatten_cons, List.cons_append, List.nil_append, List.length_cons] at hd hk hl
    obtain ⟨d1, d2⟩ := drop_nat hd
    obtain ⟨d3, d4⟩ := drop_nat d2
    obtain ⟨d5, d6⟩ := drop_nat d4
    obtain ⟨q1, q2, q3, q4⟩ := hr q List.mem_cons_self
    have hex : exV (ex ++ [.lst (done.map triV)]) := by
      have := exV_app (l := done.map triD) he
      rwa [List.map_map] at this
    have g : ∀ (i' : Nat) (o : O), (RS s j i' (ex ++ [o]))[n + (ex.length + 1)]? = some o := fun i' o => by rw [RS_ex hn]; simp
    have lo := low_ok (done := done) (q := q) (by
      have : done ++ q :: ss = (done ++ [q]) ++ ss := by simp
      rw [this] at nd
      exact (List.pairwise_append.mp nd).1)
    obtain ⟨y4, y5, y6, y7, ih⟩ := starts_loop hc hn hj he (len := len) (cnt := cnt) ss (i + 1 + 1 + 1) (done ++ [q]) ks rest (some (nV k)) (some (nV q.1)) (some (nV (lowV done q.1))) (some (nV q.2.1)) (by omega) d6 (fun r hr' => hr r (List.mem_cons_of_mem _ hr')) (by simpa using nd) (by rw [List.length_append, List.length_singleton]; omega)
    refine ⟨y4, y5, y6, y7, ?_⟩
    have e2 : ∀ (sl : Sl) (i' : Nat), sl[1]? = some (some (nV len)) → eBin gSub (eVar 1) (eC (.int 1)) sl (RS s j i' (ex ++ [.lst (done.map triV)])) = some (.ok (iV ((len : Int) - 1)), RS s j i' (ex ++ [.lst (done.map triV)])) := fun sl i' h => by
      rw [bin_ok (var_val h) rfl]; simp
    have e3 : ∀ (sl : Sl) (i' : Nat), sl[2]? = some (some (nV cnt)) → eBin gSub (eVar 2) (eC (.int 1)) sl (RS s j i' (ex ++ [.lst (done.map triV)])) = some (.ok (iV ((cnt : Int) - 1)), RS s j i' (ex ++ [.lst (done.map triV)])) := fun sl i' h => by
      rw [bin_ok (var_val h) rfl]; simp
    have b1 := eByte (a := 0) (e2 := eBin gSub (eVar 1) (eC (.int 1))) (hi := (len : Int) - 1) (sl := [some (.obj n), some (nV len), some (nV cnt), some (.obj (n + (ex.length + 1))), some (nV k), x5, x6, x7]) hc hn hj hex rfl (low_t (l := done) (g i (.lst (done.map triV))) rfl) (e2 _ i rfl) d1 (by omega) (by omega)
    have b2 := low_v (l := done) (g (i + 1) (.lst (done.map triV))) (sl := [some (.obj n), some (nV len), some (nV cnt), some (.obj (n + (ex.length + 1))), some (nV k), some (nV q.1), x6, x7]) rfl rfl
    have b3 := eByte (a := 0) (e1 := eVar 6) (e2 := eBin gSub (eVar 2) (eC (.int 1))) (lo := (lowV done q.1 : Int)) (hi := (cnt : Int) - 1) (sl := [some (.obj n), some (nV len), some (nV cnt), some (.obj (n + (ex.length + 1))), some (nV k), some (nV q.1), some (nV (lowV done q.1)), x7]) hc hn hj hex rfl (var_val (i := 6) rfl) (e3 _ (i + 1) rfl) d3 (by omega) (by omega)
    have b4 := eByte (a := 0) (e1 := eC (.int 1)) (e2 := eC (.int 30)) (lo := 1) (hi := 30) (sl := [some (.obj n), some (nV len), some (nV cnt), some (.obj (n + (ex.length + 1))), some (nV k), some (nV q.1), some (nV (lowV done q.1)), some (nV q.2.1)]) hc hn hj hex rfl rfl rfl d5 (by omega) (by omega)
    have tp : eArgs Cl.gTup (aCons (eVar 5) (aCons (eVar 7) (aCons (eMeth ["Reader"] "read_byte" (gCallO 3 F_Reader_read_byte []) (eVar 0) (aCons (eC (.int 1)) (aCons (eC (.int 30)) aNil))) aNil))) [some (.obj n), some (nV len), some (nV cnt), some (.obj (n + (ex.length + 1))), some (nV k), some (nV q.1), some (nV (lowV done q.1)), some (nV q.2.1)] (RS s j (i + 1 + 1) (ex ++ [.lst (done.map triV)])) = some (.ok (triV q), RS s j (i + 1 + 1 + 1) (ex ++ [.lst (done.map triV)])) := by
      rw [args3 (var_val (i := 5) (v := .int q.1) rfl) (var_val (i := 7) (v := .int q.2.1) rfl) b4]
      simp [Cl.gTup, triV, triD, tri]
    have ap : eBM "list" gAppend (eVar 3) (aCons (eArgs Cl.gTup (aCons (eVar 5) (aCons (eVar 7) (aCons (eMeth ["Reader"] "read_byte" (gCallO 3 F_Reader_read_byte []) (eVar 0) (aCons (eC (.int 1)) (aCons (eC (.int 30)) aNil))) aNil)))) aNil) [some (.obj n), some (nV len), some (nV cnt), some (.obj (n + (ex.length + 1))), some (nV k), some (nV q.1), some (nV (lowV done q.1)), some (nV q.2.1)] (RS s j (i + 1 + 1) (ex ++ [.lst (done.map triV)])) = some (.ok (.val .non), RS s j (i + 1 + 1 + 1) (ex ++ [.lst ((done ++ [q]).map triV)])) := by
      rw [bm1 (var_obj (i := 3) rfl (g _ _)) (chk_list (g _ _)) tp, gApp_eq (g _ _) (by rw [List.length_map]; exact sizes (by omega)), RS_setx hn]
      simp
    have body : l1_Reader_read_starts [some (.obj n), some (nV len), some (nV cnt), some (.obj (n + (ex.length + 1))), some (nV k), x5, x6, x7] (RS s j i (ex ++ [.lst (done.map triV)])) = some (.nx, [some (.obj n), some (nV len), some (nV cnt), some (.obj (n + (ex.length + 1))), some (nV k), some (nV q.1), some (nV (lowV done q.1)), some (nV q.2.1)], RS s j (i + 1 + 1 + 1) (ex ++ [.lst ((done ++ [q]).map triV)])) := by
      unfold l1_Reader_read_starts
      exact (seq_nx (set_nx b1)).trans ((seq_nx (set_nx b2)).trans ((seq_nx (set_nx b3)).trans (expr_nx ap)))
    rw [List.map_cons, for_cons trivial rfl body, ih]
    rw [show i + 1 + 1 + 1 + 3 * ss.length = i + 3 * (q :: ss).length by simp; omega]
    simp
theorem starts_eq (hc : Closed s) (hn : s.length = n) (hj : s[j]? = some (.lst (code.map nV))) (he : exV ex) {len cnt : Nat} {ss : List T3} {rest : List Nat} (h20 : ss.length ≤ 20) (hs : ∀ t ∈ ss, t.1 < len ∧ t.2.1 < cnt ∧ 1 ≤ t.2.2 ∧ t.2.2 ≤ 30) (hp : ss.Pairwise ord2) (hd : code.drop i = ss.length :: ((ss.map fun s => [s.1, s.2.1, s.2.2]).flatten ++ rest)) :
    F_Reader_read_starts [.obj n, nV len, nV cnt] (RS s j i ex) = some (.ok (.val (.lst (ss.map triD))), RS s j (i + 1 + 3 * ss.length) ex) := by
  have hjl : j < s.length := (List.getElem?_eq_some_iff.mp hj).1
  obtain ⟨d1, d2⟩ := drop_nat hd
  obtain ⟨x4, x5, x6, x7, e⟩ := starts_loop hc hn hj he (len := len) (cnt := cnt) ss (i + 1) [] (List.range ss.length) rest none none none none (by simp) d2 hs (by simpa using hp) (by simp; omega)
  have hex : exV (ex ++ [.lst []]) := exV_app (l := []) he
  have b1 := eByte (a := 0) (e1 := eC (.int 0)) (e2 := eC (.int 20)) (lo := 0) (hi := 20) (sl := [some (.obj n), some (nV len), some (nV cnt), some (.obj (n + (ex.length + 1))), none, none, none, none]) hc hn hj hex rfl rfl rfl d1 (by omega) (by omega)
  have hr1 : iArgs gRange1 (aCons (eMeth ["Reader"] "read_byte" (gCallO 3 F_Reader_read_byte []) (eVar 0) (aCons (eC (.int 0)) (aCons (eC (.int 20)) aNil))) aNil) [some (.obj n), some (nV len), some (nV cnt), some (.obj (n + (ex.length + 1))), none, none, none, none] (RS s j i (ex ++ [.lst []])) = some (.ok ((List.range ss.length).map fun i : Nat => S.val (iD i), always), RS s j (i + 1) (ex ++ [.lst []])) := by
    rw [iargs1 b1]
    exact range_val ss.length (by omega) _
  have s1 : eArgs gLstO aNil [some (.obj n), some (nV len), some (nV cnt), none, none, none, none, none] (RS s j i ex) = some (.ok (.obj (n + (ex.length + 1))), RS s j i (ex ++ [.lst []])) := by
    simp [gLstO, RS_app, RS_len, hn]
  have g : (RS s j (i + 1 + 3 * ss.length) (ex ++ [.lst (ss.map triV)]))[n + (ex.length + 1)]? = some (.lst (ss.map triV)) := by rw [RS_ex hn]; simp
  have dd : datas (ss.map triV) = some (ss.map triD) := datas_comp triD ss
  have fz : eFrz (eVar 3) [some (.obj n), some (nV len), some (nV cnt), some (.obj (n + (ex.length + 1))), x4, x5, x6, x7] (RS s j (i + 1 + 3 * ss.length) (ex ++ [.lst (ss.map triV)])) = some (.ok (.val (.lst (ss.map triD))), RS s j (i + 1 + 3 * ss.length) (ex ++ [.frz (.lst (ss.map triD))])) := by
    unfold eFrz
    simp only [M.bind, var_obj (i := 3) (sl := [some (.obj n), some (nV len), some (nV cnt), some (.obj (n + (ex.length + 1))), x4, x5, x6, x7]) rfl g, toD, g, dd, Option.map_some, M.pure]
    rw [RS_setx hn]
    simp
  rw [List.nil_append] at e
  unfold F_Reader_read_starts asC
  rw [show mkSl 8 [.obj n, nV len, nV cnt] = [some (.obj n), some (nV len), some (nV cnt), none, none, none, none, none] from rfl]
  have body : b_Reader_read_starts [some (.obj n), some (nV len), some (nV cnt), none, none, none, none, none] (RS s j i ex) = some (.rt (.val (.lst (ss.map triD))), [some (.obj n), some (nV len), some (nV cnt), some (.obj (n + (ex.length + 1))), x4, x5, x6, x7], RS s j (i + 1 + 3 * ss.length) (ex ++ [.frz (.lst (ss.map triD))])) := by
    unfold b_Reader_read_starts
    exact (seq_nx (set_nx s1)).trans ((seq_nx (for_ok hr1 e)).trans (ret_ok fz))
  rw [body, ← RS_app]
  exact exitC_rt (RS_closed hc hjl he) (by rw [RS_len, RS_len])
end
end G
namespace G
open PySem L2 Cl
section
variable {s : List O} {j i n : Nat} {ex : List O} {code : List Nat} {sl : Sl}
abbrev N2 := Nat × Nat
def gap2 (a b : N2) : Prop := a.2 + 2 ≤ b.1
def nextF (l : List N2) : Nat := match l.getLast? with
  | some q => q.2 + 2
  | none => 0
abbrev boolsOf (len : Nat) (f : Nat → Bool) : D := .lst ((List.range len).map fun i => .bl (f i))
theorem enum_range (len : Nat) (f : Nat → Bool) : enumD 0 ((List.range len).map fun i => .bl (f i)) = (List.range len).map fun i : Nat => D.tup [.int i, .bl (f i)] := by
  have := enum_map f len 0
  rwa [← List.range_eq_range'] at this
theorem paused_comp {len a b : Nat} {f : Nat → Bool} {st : List O} {x0 x1 x3 x4 : Option S} (hl : len ≤ 60) :
    eLc [7, 8] (iArgs gEnum (aCons (eVar 2) aNil)) (tgTup 2 (tgCons (tgName 7) (tgCons (tgName 8) tgNil))) tTrue e1_Reader_read_paused [x0, x1, some (.val (boolsOf len f)), x3, x4, some (nV a), some (nV b), none, none] st =
      some (.ok (.val (boolsOf len fun i => f i || (decide (a ≤ i) && decide (i ≤ b)))), st) := by
  have hi : iArgs gEnum (aCons (eVar 2) aNil) [x0, x1, some (.val (boolsOf len f)), x3, x4, some (nV a), some (nV b), none, none] st = some (.ok ((List.range len).map fun i : Nat => S.val (.tup [.int i, .bl (f i)]), fun st' => lstOf (.val (boolsOf len f)) st' = some (((List.range len).map fun i => D.bl (f i)).map .val)), st) := by
    rw [iargs1 (var_val (i := 2) (v := boolsOf len f) rfl)]
    unfold gEnum
    simp only [lstOf, datas_val, Option.map_some]
    rw [enum_range, List.map_map]
    rfl
  refine eLc_all (fun i : Nat => S.val (.tup [.int i, .bl (f i)])) (fun i => .bl (f i || (decide (a ≤ i) && decide (i ≤ b)))) (List.range len) hi rfl (by rw [List.length_range]; exact Nat.le_of_lt (sizes (by omega))) (fun k hk => ⟨[x0, x1, some (.val (boolsOf len f)), x3, x4, some (nV a), some (nV b), some (nV k), some (.val (.bl (f k)))], by simp, ?_⟩)
  unfold e1_Reader_read_paused
  cases hf : f k with
  | true => simp
  | false =>
    have e1 : ((a : Int) ≤ (k : Int)) ↔ a ≤ k := by omega
    have e2 : ((k : Int) ≤ (b : Int)) ↔ k ≤ b := by omega
    by_cases h1 : a ≤ k
    · by_cases h2 : k ≤ b <;> simp [h1, h2]
    · simp [h1]
theorem paused_app (done : List N2) (q : N2) : (fun i => pausedAt done i || (decide (q.1 ≤ i) && decide (i ≤ q.2))) = pausedAt (done ++ [q]) := by
  funext i
  simp [pausedAt, List.any_append]
theorem next_app (done : List N2) (q : N2) : nextF (done ++ [q]) = q.2 + 2 := by unfold nextF; rw [List.getLast?_concat]
theorem next_ok {done : List N2} {q : N2} (h : (done ++ [q]).Pairwise gap2) : nextF done ≤ q.1 := by
  rcases List.eq_nil_or_concat done with rfl | ⟨L, a, rfl⟩
  · exact Nat.zero_le _
  · rw [List.concat_eq_append] at *
    have := (List.pairwise_append.mp h).2.2 a (by simp) q (by simp)
    rw [next_app]; exact this
theorem paused_loop (hc : Closed s) (hn : s.length = n) (hj : s[j]? = some (.lst (code.map nV))) (he : exV ex) {len : Nat} (hl60 : len ≤ 60) : ∀ (qs : List N2) (i : Nat) (done : List N2) (ks : List Nat) (rest : List Nat) (x4 x5 x6 : Option S), ks.length = qs.length → code.drop i = (qs.map fun q => [q.1, q.2]).flatten ++ rest → (∀ q ∈ qs, q.1 ≤ q.2 ∧ q.2 < len) → (done ++ qs).Pairwise gap2 →
    ∃ x4' x5' x6', forL always (tgName 4) l1_Reader_read_paused (ks.map fun k => S.val (iD k)) [some (.obj n), some (nV len), some (.val (boolsOf len (pausedAt done))), some (nV (nextF done)), x4, x5, x6, none, none] (RS s j i ex) =
      some (.nx, [some (.obj n), some (nV len), some (.val (boolsOf len (pausedAt (done ++ qs)))), some (nV (nextF (done ++ qs))), x4', x5', x6', none, none], RS s j (i + 2 * qs.length) ex)
  | [], i, done, ks, rest, x4, x5, x6, hk, _, _, _ => by
    have := List.length_eq_zero_iff.mp hk
    subst this
    exact ⟨x4, x5, x6, by rw [List.map_nil, for_nil trivial]; simp⟩
  | q :: qs, i, done, k :: ks, rest, x4, x5, x6, hk, hd, hr, nd => by
    simp only [List.map_cons, List.flatten_cons, List.cons_append, List.nil_append, List.length_cons] at hd hk
    obtain ⟨d1, d2⟩ := drop_nat hd
    obtain ⟨d3, d4⟩ := drop_nat d2
    obtain ⟨q1, q2⟩ := hr q List.mem_cons_self
    have lo := next_ok (done := done) (q := q) (by
      have : done ++ q :: qs = (done ++ [q]) ++ qs := by simp
      rw [this] at nd
      exact (List.pairwise_append.mp nd).1)
    obtain ⟨y4, y5, y6, ih⟩ := paused_loop hc hn hj he hl60 qs (i + 1 + 1) (done ++ [q]) ks rest (some (nV k)) (some (nV q.1)) (some (nV q.2)) (by omega) d4 (fun r hr' => hr r (List.mem_cons_of_mem _ hr')) (by simpa using nd)
    refine ⟨y4, y5, y6, ?_⟩
    have e2 : ∀ (sl : Sl) (i' : Nat), sl[1]? = some (some (nV len)) → eBin gSub (eVar 1) (eC (.int 1)) sl (RS s j i' ex) = some (.ok (iV ((len : Int) - 1)), RS s j i' ex) := fun sl i' h => by
      rw [bin_ok (var_val h) rfl]; simp
    have b1 := eByte (a := 0) (e1 := eVar 3) (e2 := eBin gSub (eVar 1) (eC (.int 1))) (lo := (nextF done : Int)) (hi := (len : Int) - 1) (sl := [some (.obj n), some (nV len), some (.val (boolsOf len (pausedAt done))), some (nV (nextF done)), some (nV k), x5, x6, none, none]) hc hn hj he rfl (var_val (i := 3) rfl) (e2 _ i rfl) d1 (by omega) (by omega)
    have b2 := eByte (a := 0) (e1 := eVar 5) (e2 := eBin gSub (eVar 1) (eC (.int 1))) (lo := (q.1 : Int)) (hi := (len : Int) - 1) (sl := [some (.obj n), some (nV len), some (.val (boolsOf len (pausedAt done))), some (nV (nextF done)), some (nV k), some (nV q.1), x6, none, none]) hc hn hj he rfl (var_val (i := 5) rfl) (e2 _ (i + 1) rfl) d3 (by omega) (by omega)
    have b3 := paused_comp (len := len) (a := q.1) (b := q.2) (f := pausedAt done) (st := RS s j (i + 1 + 1) ex) (x0 := some (.obj n)) (x1 := some (nV len)) (x3 := some (nV (nextF done))) (x4 := some (nV k)) hl60
    rw [paused_app] at b3
    have b4 : eBin gAdd (eVar 6) (eC (.int 2)) [some (.obj n), some (nV len), some (.val (boolsOf len (pausedAt (done ++ [q])))), some (nV (nextF done)), some (nV k), some (nV q.1), some (nV q.2), none, none] (RS s j (i + 1 + 1) ex) = some (.ok (nV (nextF (done ++ [q]))), RS s j (i + 1 + 1) ex) := by
      rw [bin_ok (var_val (i := 6) (v := .int q.2) rfl) rfl, next_app]
      exact gAdd_int _ _ _
    have body : l1_Reader_read_paused [some (.obj n), some (nV len), some (.val (boolsOf len (pausedAt done))), some (nV (nextF done)), some (nV k), x5, x6, none, none] (RS s j i ex) = some (.nx, [some (.obj n), some (nV len), some (.val (boolsOf len (pausedAt (done ++ [q])))), some (nV (nextF (done ++ [q]))), some (nV k), some (nV q.1), some (nV q.2), none, none], RS s j (i + 1 + 1) ex) := by
      unfold l1_Reader_read_paused
      exact (seq_nx (set_nx b1)).trans ((seq_nx (set_nx b2)).trans ((seq_nx (set_nx b3)).trans (set_nx b4)))
    rw [List.map_cons, for_cons trivial rfl body, ih]
    rw [show i + 1 + 1 + 2 * qs.length = i + 2 * (q :: qs).length by simp; omega]
    simp
theorem rep_eq (ds : List D) (k : Nat) (h : k ≤ 1000) (hl : ds.length ≤ 1000) (st : List O) : gRep (.val (.lst ds)) (nV k) st = some (.ok (.val (.lst (List.replicate k ds).flatten)), st) := by
  have e : ds.length * k ≤ sizeLine := Nat.le_of_lt (sizes (Nat.le_trans (Nat.mul_le_mul hl h) (by decide)))
  have b1 : (-9223372036854775808 : Int) ≤ (k : Int) := by omega
  have b2 : (k : Int) < 9223372036854775808 := by omega
  simp [gRep, e, b1, b2]
theorem rep_false (len : Nat) (hl : len ≤ 60) (st : List O) : gRep (.val (.lst [.bl false])) (nV len) st = some (.ok (.val (boolsOf len (pausedAt []))), st) := by
  have h1 : ∀ m, (List.replicate m [D.bl false]).flatten = List.replicate m (D.bl false) := by
    intro m
    induction m with
    | zero => rfl
    | succ m ih => rw [List.replicate_succ, List.flatten_cons, ih, List.replicate_succ]; rfl
  have h2 : (fun i : Nat => D.bl (pausedAt [] i)) = fun _ => D.bl false := by funext i; simp [pausedAt]
  rw [rep_eq _ len (by omega) (by simp), h1]
  unfold boolsOf
  rw [h2, List.map_const', List.length_range]
end
/-- between two runs there is a tick -/
theorem runs_gap : ∀ (ps : List Nat) (fs : List N2), ps.Pairwise (· < ·) → fs.Pairwise gap2 → (∀ q ∈ fs, ∀ t ∈ ps, q.2 < t) → (∀ q ∈ fs, q.1 ≤ q.2) → (ps.foldl runStep fs).Pairwise gap2
  | [], fs, _, h, _, _ => h
  | t :: ps, fs, hp, hf, hlt, hle => by
    rw [List.foldl_cons]
    have ht := List.pairwise_cons.mp hp
    rcases List.eq_nil_or_concat fs with rfl | ⟨L, ab, rfl⟩
    · rw [runStep_nil]
      exact runs_gap ps _ ht.2 (List.pairwise_singleton _ _) (fun q hq => by rw [List.mem_singleton.mp hq]; exact ht.1) (fun q hq => by rw [List.mem_singleton.mp hq]; exact Nat.le_refl _)
    · obtain ⟨a, b⟩ := ab
      rw [List.concat_eq_append] at *
      have hbt := hlt (a, b) (by simp) t List.mem_cons_self
      have hab := hle (a, b) (by simp)
      simp only at hbt hab
      rw [runStep_app]
      obtain ⟨p1, p2, p3⟩ := List.pairwise_append.mp hf
      split
      · rename_i hb
        refine runs_gap ps _ ht.2 ?_ ?_ ?_
        · refine List.pairwise_append.mpr ⟨p1, List.pairwise_singleton _ _, fun x hx y hy => ?_⟩
          rw [List.mem_singleton.mp hy]
          have := p3 x hx (a, b) (by simp)
          exact this
        · intro q hq
          rcases List.mem_append.mp hq with h | h
          · exact fun t' ht' => hlt q (List.mem_append_left _ h) t' (List.mem_cons_of_mem _ ht')
          · rw [List.mem_singleton.mp h]; exact ht.1
        · intro q hq
          rcases List.mem_append.mp hq with h | h
          · exact hle q (List.mem_append_left _ h)
          · rw [List.mem_singleton.mp h]; simp only; omega
      · rename_i hb
        rw [show L ++ [(a, b), (t, t)] = (L ++ [(a, b)]) ++ [(t, t)] by simp]
        refine runs_gap ps _ ht.2 ?_ ?_ ?_
        · refine List.pairwise_append.mpr ⟨hf, List.pairwise_singleton _ _, fun x hx y hy => ?_⟩
          rw [List.mem_singleton.mp hy]
          rcases List.mem_append.mp hx with h | h
          · have := p3 x h (a, b) (by simp)
            unfold gap2 at this ⊢
            simp only at this ⊢
            omega
          · rw [List.mem_singleton.mp h]
            unfold gap2
            simp only
            omega
        · intro q hq
          rcases List.mem_append.mp hq with h | h
          · exact fun t' ht' => hlt q h t' (List.mem_cons_of_mem _ ht')
          · rw [List.mem_singleton.mp h]; exact ht.1
        · intro q hq
          rcases List.mem_append.mp hq with h | h
          · exact hle q h
          · rw [List.mem_singleton.mp h]; exact Nat.le_refl _
theorem plan_gap {p : Pl} (h : Pok p) : (runsL p.pau).Pairwise gap2 := runs_gap p.pau [] h.pa List.Pairwise.nil (by simp) (by simp)
theorem plan_runs_len {p : Pl} (h : Pok p) : (runsL p.pau).length ≤ p.len := by
  have h1 := runsL_len p.pau
  have h2 := nodup_len (n := p.len) (js := p.pau) (h.pa.imp fun z => Nat.ne_of_lt z) h.pl
  omega
end G
namespace G
open PySem L2 Cl
section
variable {s : List O} {j i n : Nat} {ex : List O} {code : List Nat} {sl : Sl}
theorem pz_rp {len : Nat} (hl60 : len ≤ 60) (st : List O) : eBin gRep (eArgs Cl.gLst (aCons (eC (.bl false)) aNil)) (eVar 1) [some (.obj n), some (nV len), none, none, none, none, none, none, none] st = some (.ok (.val (boolsOf len (pausedAt []))), st) := by
  rw [bin_ok (x := .val (.lst [.bl false])) (st1 := st) (by simp [Cl.gLst]) (var_val (i := 1) (v := .int len) rfl)]
  exact rep_false len hl60 _
theorem par_ok {i j : Nat} {a b : ME} {sl : Sl} {st st1 st2 : List O} {x y : S} (h1 : a sl st = some (.ok x, st1)) (h2 : b sl st1 = some (.ok y, st2)) : sPar i j (aCons a (aCons b aNil)) sl st = some (.nx, (sl.set i (some x)).set j (some y), st2) := by
  simp [h1, h2]
theorem pz_s1 {len : Nat} (hl60 : len ≤ 60) (st : List O) : sPar 2 3 (aCons (eBin gRep (eArgs Cl.gLst (aCons (eC (.bl false)) aNil)) (eVar 1)) (aCons (eC (.int 0)) aNil)) [some (.obj n), some (nV len), none, none, none, none, none, none, none] st = some (.nx, [some (.obj n), some (nV len), some (.val (boolsOf len (pausedAt []))), some (nV 0), none, none, none, none, none], st) :=
  par_ok (pz_rp hl60 st) rfl
theorem range_of {e : ME} {sl : Sl} {st st' : List O} {k : Nat} (h : e sl st = some (.ok (nV k), st')) (hk : k ≤ 100000) : iArgs gRange1 (aCons e aNil) sl st = some (.ok ((List.range k).map fun i : Nat => S.val (iD i), always), st') := by
  rw [iargs1 h]
  exact range_val k (by omega) _
theorem paused_eq' (hc : Closed s) (hn : s.length = n) (hj : s[j]? = some (.lst (code.map nV))) (he : exV ex) {len : Nat} (hl60 : len ≤ 60) {qs : List N2} {rest : List Nat} (hql : qs.length ≤ len) (hq : ∀ q ∈ qs, q.1 ≤ q.2 ∧ q.2 < len) (hp : qs.Pairwise gap2) (hd : code.drop i = qs.length :: ((qs.map fun q => [q.1, q.2]).flatten ++ rest)) :
    F_Reader_read_paused [.obj n, nV len] (RS s j i ex) = some (.ok (.val (boolsOf len (pausedAt qs))), RS s j (i + 1 + 2 * qs.length) ex) := by
  have hjl : j < s.length := (List.getElem?_eq_some_iff.mp hj).1
  obtain ⟨d1, d2⟩ := drop_nat hd
  obtain ⟨x4, x5, x6, e⟩ := paused_loop hc hn hj he hl60 qs (i + 1) [] (List.range qs.length) rest none none none (by simp) d2 hq (by simpa using hp)
  rw [List.nil_append] at e
  have b1 := eByte (a := 0) (e1 := eC (.int 0)) (e2 := eVar 1) (lo := 0) (hi := (len : Int)) (sl := [some (.obj n), some (nV len), some (.val (boolsOf len (pausedAt []))), some (nV 0), none, none, none, none, none]) hc hn hj he rfl rfl (var_val (i := 1) rfl) d1 (by omega) (by omega)
  have hr1 := range_of b1 (by omega)
  unfold F_Reader_read_paused asC
  rw [show mkSl 9 [.obj n, nV len] = [some (.obj n), some (nV len), none, none, none, none, none, none, none] from rfl]
  have body : b_Reader_read_paused [some (.obj n), some (nV len), none, none, none, none, none, none, none] (RS s j i ex) = some (.rt (.val (boolsOf len (pausedAt qs))), [some (.obj n), some (nV len), some (.val (boolsOf len (pausedAt qs))), some (nV (nextF qs)), x4, x5, x6, none, none], RS s j (i + 1 + 2 * qs.length) ex) := by
    unfold b_Reader_read_paused
    exact (seq_nx (pz_s1 hl60 _)).trans ((seq_nx (for_ok hr1 e)).trans (ret_ok (var_val (i := 2) rfl)))
  rw [body]
  exact exitC_rt0 (RS_closed hc hjl he) (by rw [RS_len, RS_len])
end
end G
namespace G
open PySem L2 Cl
section
variable {s : List O} {j i n : Nat} {ex : List O} {code : List Nat} {sl : Sl}
theorem rd_chk (m : Str) (hn : s.length = n) (h1 : m ≠ "code") (h2 : m ≠ "place") : chkM ["Reader"] m (.obj n) (RS s j i ex) = some (.ok (), RS s j i ex) := by
  simp only [chkM, insOf, RS_n hn, rdO]
  simp [h1, h2]
theorem meth1 {ns : List Str} {m : Str} {F : OF} {a e : ME} {st st1 st2 : List O} {x y r : S} {k : Nat} (h0 : a sl st = some (.ok x, st)) (hc : chkM ns m x st = some (.ok (), st)) (h1 : e sl st = some (.ok y, st1)) (hF : F [x, y] st1 = some (.ok r, st2)) : eMeth ns m (gCallO 2 F []) a (aCons e aNil) sl st = some (.ok r, st2) := by
  unfold eMeth
  simp only [M.bind, h0, hc, acons1 h1]
  simp only [gCallO, List.map_nil, List.append_nil, List.length_cons, List.length_nil, if_true]
  exact hF
theorem acons2 {e f : ME} {st st1 st2 : List O} {x y : S} (h : e sl st = some (.ok x, st1)) (h2 : f sl st1 = some (.ok y, st2)) : aCons e (aCons f aNil) sl st = some (.ok [x, y], st2) := by simp [h, h2]
theorem meth2 {ns : List Str} {m : Str} {F : OF} {a e f : ME} {st st1 st2 st3 : List O} {x y z r : S} (h0 : a sl st = some (.ok x, st)) (hc : chkM ns m x st = some (.ok (), st)) (h1 : e sl st = some (.ok y, st1)) (h2 : f sl st1 = some (.ok z, st2)) (hF : F [x, y, z] st2 = some (.ok r, st3)) : eMeth ns m (gCallO 3 F []) a (aCons e (aCons f aNil)) sl st = some (.ok r, st3) := by
  unfold eMeth
  simp only [M.bind, h0, hc, acons2 h1 h2]
  simp only [gCallO, List.map_nil, List.append_nil, List.length_cons, List.length_nil, if_true]
  exact hF
abbrev stV (w : List Nat) : S := .val (strL w)
theorem names_loop' (hc : Closed s) (hn : s.length = n) (hj : s[j]? = some (.lst (code.map nV))) {x0 x2 x3 x6 x7 x8 x9 : Option S} : ∀ (ws : List (List Nat)) (i : Nat) (done : List (List Nat)) (ks : List Nat) (rest : List Nat) (x5 : Option S), ks.length = ws.length → code.drop i = (ws.map nameB).flatten ++ rest → (∀ w ∈ ws, NmW w) → (done ++ ws).Nodup → done.length + ws.length ≤ 100 →
    ∃ x5', forL always (tgName 5) l1_decode (ks.map fun k => S.val (iD k)) [x0, some (.obj n), x2, x3, some (.obj (n + 1)), x5, x6, x7, x8, x9] (RS s j i [.lst (done.map stV)]) =
      some (.nx, [x0, some (.obj n), x2, x3, some (.obj (n + 1)), x5', x6, x7, x8, x9], RS s j (i + ((ws.map nameB).flatten).length) [.lst ((done ++ ws).map stV)])
  | [], i, done, ks, rest, x5, hk, _, _, _, _ => by
    have := List.length_eq_zero_iff.mp hk
    subst this
    exact ⟨x5, by rw [List.map_nil, for_nil trivial]; simp⟩
  | w :: ws, i, done, k :: ks, rest, x5, hk, hd, hr, nd, hl => by
    simp only [List.map_cons, List.flatten_cons, List.append_assoc, List.length_cons] at hd hk hl
    have hw := hr w List.mem_cons_self
    have hex : exV [.lst (done.map stV)] := by
      have := exV_app (l := done.map strL) exV_nil
      rwa [List.map_map] at this
    have hnd : w ∉ done := fun h => (List.nodup_append.mp nd).2.2 w h w List.mem_cons_self rfl
    have g : ∀ (i' : Nat) (o : O), (RS s j i' [o])[n + 1]? = some o := fun i' o => RS_ex (ex := [o]) hn 0
    have d2 : code.drop (i + (w.length + 1)) = (ws.map nameB).flatten ++ rest := by
      rw [← List.drop_drop, hd]
      have : (nameB w).length = w.length + 1 := by simp [nameB]
      rw [← this, List.drop_left]
    obtain ⟨y5, ih⟩ := names_loop' hc hn hj (x0 := x0) (x2 := x2) (x3 := x3) (x6 := x6) (x7 := x7) (x8 := x8) (x9 := x9) ws (i + (w.length + 1)) (done ++ [w]) ks rest (some (nV k)) (by omega) d2 (fun r hr' => hr r (List.mem_cons_of_mem _ hr')) (by simpa using nd) (by rw [List.length_append, List.length_singleton]; omega)
    refine ⟨y5, ?_⟩
    have nm := name_eq (ex := [.lst (done.map stV)]) hc hn hj hex (m := n + 1) (nms := done) (fun i' => by rw [g]; simp) hw hnd hd
    have rv : eVar 1 [x0, some (.obj n), x2, x3, some (.obj (n + 1)), some (nV k), x6, x7, x8, x9] (RS s j i [.lst (done.map stV)]) = some (.ok (.obj n), RS s j i [.lst (done.map stV)]) := rd_var rfl hn
    have cl := meth1 (k := 0) rv (rd_chk "read_name" hn (by simp) (by simp)) (var_obj (i := 4) (n := n + 1) rfl (g i _)) nm
    have ap : eBM "list" gAppend (eVar 4) (aCons (eMeth ["Reader"] "read_name" (gCallO 2 F_Reader_read_name []) (eVar 1) (aCons (eVar 4) aNil)) aNil) [x0, some (.obj n), x2, x3, some (.obj (n + 1)), some (nV k), x6, x7, x8, x9] (RS s j i [.lst (done.map stV)]) = some (.ok (.val .non), RS s j (i + (w.length + 1)) [.lst ((done ++ [w]).map stV)]) := by
      rw [bm1 (var_obj (i := 4) (n := n + 1) rfl (g i _)) (chk_list (g i _)) cl, gApp_eq (g _ _) (by rw [List.length_map]; exact sizes (by omega)), RS_setx (ex := [.lst (done.map stV)]) hn 0]
      simp
    have body : l1_decode [x0, some (.obj n), x2, x3, some (.obj (n + 1)), some (nV k), x6, x7, x8, x9] (RS s j i [.lst (done.map stV)]) = some (.nx, [x0, some (.obj n), x2, x3, some (.obj (n + 1)), some (nV k), x6, x7, x8, x9], RS s j (i + (w.length + 1)) [.lst ((done ++ [w]).map stV)]) := by
      unfold l1_decode
      exact expr_nx ap
    rw [List.map_cons, for_cons trivial rfl body, ih]
    rw [show i + (w.length + 1) + ((ws.map nameB).flatten).length = i + (((w :: ws).map nameB).flatten).length by simp [nameB]; omega]
    simp
theorem fldset_ok {ns : List Str} {f c : Str} {o v : ME} {st st1 st2 : List O} {y : S} {k : Nat} {fs : List (Str × S)} (hv : v sl st = some (.ok y, st1)) (ho : o sl st1 = some (.ok (.obj k), st2)) (hk : st2[k]? = some (.ins c fs)) (hc : c ∈ ns) (hl : fs.length < 1000) : sFldSet ns f o v sl st = some (.nx, sl, st2.set k (.ins c (putD f y fs))) := by
  unfold sFldSet sBind
  simp only [hv, ho, hk]
  rw [if_pos ⟨hc, hl⟩]
theorem var_ins {a k : Nat} {st : List O} {c : Str} {fs : List (Str × S)} (h : sl[a]? = some (some (.obj k))) (h2 : st[k]? = some (.ins c fs)) : eVar a sl st = some (.ok (.obj k), st) := by
  unfold eVar; rw [h]; simp only [rsv, rsvS, h2]
theorem reader_init (hn : s.length = n) (hj : s[j]? = some (.lst (code.map nV))) : F_Reader_init [.obj n, .obj j] (s ++ [.ins "Reader" []]) = some (.ok (.val .non), RS s j 0 []) := by
  have hjl : j < s.length := (List.getElem?_eq_some_iff.mp hj).1
  have gj : ∀ o : O, (s ++ [o])[j]? = some (.lst (code.map nV)) := fun o => by rw [get_l hjl]; exact hj
  have gn : ∀ o : O, (s ++ [o])[n]? = some o := fun o => get_r0 hn
  have sn : ∀ o o' : O, (s ++ [o]).set n o' = s ++ [o'] := fun o o' => set_r0 hn
  have s1 := fldset_ok (sl := [some (.obj n), some (.obj j)]) (ns := ["Reader"]) (f := "code") (o := eVar 0) (v := eVar 1) (var_obj (i := 1) rfl (gj (.ins "Reader" []))) (var_ins (a := 0) rfl (gn (.ins "Reader" []))) (gn _) (by simp) (by decide)
  rw [sn] at s1
  have s2 := fldset_ok (sl := [some (.obj n), some (.obj j)]) (ns := ["Reader"]) (f := "place") (o := eVar 0) (v := eC (.int 0)) (y := nV 0) (st1 := s ++ [.ins "Reader" (putD "code" (.obj j) [])]) rfl (var_ins (a := 0) rfl (gn (.ins "Reader" (putD "code" (.obj j) [])))) (gn _) (by simp) (by simp)
  rw [sn] at s2
  unfold F_Reader_init asK b_Reader_init
  rw [show mkSl 2 [.obj n, .obj j] = [some (.obj n), some (.obj j)] from rfl, (seq_nx s1).trans s2]
  simp [RS, rdO, exitK]
theorem isi_list {k : Nat} {st : List O} {l : List S} (h : st[k]? = some (.lst l)) : gIsi [.obj k, .val (.vv (.ty "list"))] st = some (.ok (.val (.bl true)), st) := isi_eq (t := "list") (by simp only [tyS, h]) (by decide) (by decide)
theorem code_drop (p : Pl) : p.code = 87 :: p.len :: p.most :: p.nms.length :: ((p.nms.map nameB).flatten ++ (p.rks ++ (p.sts.length :: ((p.sts.map fun s => [s.1, s.2.1, s.2.2]).flatten ++ ((runsL p.pau).length :: (((runsL p.pau).map fun q => [q.1, q.2]).flatten ++ [p.bytes.sum % 256])))))) := by
  simp [Pl.code, Pl.bytes, Pl.b3, Pl.b2, Pl.b1]
theorem cut_take (l : List Nat) (k : Nat) (h : k ≤ l.length) : cutD (l.map iD) none (some (k : Int)) = (l.take k).map iD := by
  unfold cutD
  rw [HT.sIx_none, HT.sIx_nat, List.length_map, Nat.min_eq_left h, List.drop_zero, Nat.sub_zero, List.map_take]
end
theorem gMake1 {c : Str} {F : OF} {e : ME} {sl : Sl} {st st1 st2 : List O} {x : S} (h : e sl st = some (.ok x, st1)) (hF : F [.obj st1.length, x] (st1 ++ [.ins c []]) = some (.ok (.val .non), st2)) : eArgs (gMakeO c 2 F []) (aCons e aNil) sl st = some (.ok (.obj st1.length), st2) := by
  rw [args1 h]
  unfold gMakeO
  simp only [List.map_nil, List.append_nil, List.length_cons, List.length_nil, if_true, hF]
theorem nameB_flat_len : ∀ ws : List (List Nat), 0 ≤ ((ws.map nameB).flatten).length := fun _ => Nat.zero_le _
end G
namespace G
open PySem L2 Cl
theorem take_drop_sum {l : List Nat} {k c : Nat} (h : l.drop k = [c]) : l.take k ++ [c] = l := by
  conv => rhs; rw [← List.take_append_drop k l, h]
theorem make_plan {sl : Sl} {st st' : List O} {e1 e2 e3 e4 e5 e6 : ME} {a b c d e f : D} (h1 : e1 sl st = some (.ok (.val a), st)) (h2 : e2 sl st = some (.ok (.val b), st)) (h3 : e3 sl st = some (.ok (.val c), st)) (h4 : e4 sl st = some (.ok (.val d), st)) (h5 : e5 sl st = some (.ok (.val e), st)) (h6 : e6 sl st = some (.ok (.val f), st)) :
    eArgs (gMakeM 7 F_Plan_init []) (aCons e1 (aCons e2 (aCons e3 (aCons e4 (aCons e5 (aCons e6 aNil)))))) sl st = some (.ok (.val (.ins "Plan" [("length", a), ("most", b), ("names", c), ("starts", d), ("paused", e), ("ranks", f)])), st) := by
  simp [h1, h2, h3, h4, h5, h6, plan_init]
theorem decode_eq {p : Pl} (h : Pok p) {s : List O} {j : Nat} (hc : Closed s) (hj : s[j]? = some (.lst (p.code.map nV))) : F_decode [.obj j] s = some (.ok (.val (strL p.text)), s) := by
  have hjl : j < s.length := (List.getElem?_eq_some_iff.mp hj).1
  have h60 := h.l2
  have h8 := h.n2
  have rl := rks_len h
  obtain ⟨n, hn⟩ : ∃ n, s.length = n := ⟨_, rfl⟩
  have D0 : p.code.drop 0 = _ := (List.drop_zero).trans (code_drop p)
  obtain ⟨d1, r1⟩ := drop_nat D0
  obtain ⟨d2, r2⟩ := drop_nat r1
  obtain ⟨d3, r3⟩ := drop_nat r2
  obtain ⟨d4, r4⟩ := drop_nat r3
  simp only [Nat.zero_add] at r1 r2 r3 r4 d2 d3 d4
  have adv : ∀ {k : Nat} {a b : List Nat}, p.code.drop k = a ++ b → p.code.drop (k + a.length) = b := fun {k a b} hh => by rw [← List.drop_drop, hh, List.drop_left]
  have r5 := adv r4
  have r6 := adv r5
  obtain ⟨_, r7'⟩ := drop_nat r6
  have r7 := adv r7'
  obtain ⟨_, r8'⟩ := drop_nat r7
  have r8 := adv r8'
  have f3 : ((p.sts.map fun s => [s.1, s.2.1, s.2.2]).flatten).length = 3 * p.sts.length := by
    induction p.sts with
    | nil => rfl
    | cons a l ih => simp only [List.map_cons, List.flatten_cons, List.length_append, ih, List.length_cons, List.length_nil]; omega
  have f2 : (((runsL p.pau).map fun q => [q.1, q.2]).flatten).length = 2 * (runsL p.pau).length := by
    induction (runsL p.pau) with
    | nil => rfl
    | cons a l ih => simp only [List.map_cons, List.flatten_cons, List.length_append, ih, List.length_cons, List.length_nil]; omega
  rw [f3] at r7 r8' r8
  rw [f2] at r8
  generalize hNF : ((p.nms.map nameB).flatten).length = NF at r5 r6 r7' r7 r8' r8
  generalize hE : 1 + 1 + 1 + 1 + NF + p.rks.length + 1 + 3 * p.sts.length + 1 + 2 * (runsL p.pau).length = E at r8
  obtain ⟨d9, r9⟩ := drop_nat r8
  have hlen : p.code.length = E + 1 := by
    have := congrArg List.length r8
    rw [List.length_drop, List.length_singleton] at this
    have := (List.getElem?_eq_some_iff.mp d9).1
    omega
  -- the run
  let sl0 : Sl := [some (.obj j), none, none, none, none, none, none, none, none, none]
  have a0 : eArgs gIsi (aCons (eVar 0) (aCons (eC (.vv (.ty "list"))) aNil)) [some (.obj j), none, none, none, none, none, none, none, none, none] s = some (.ok (.val (.bl true)), s) := by
    rw [args2 (var_obj (i := 0) rfl hj) rfl]; exact isi_list hj
  have g0 : tNotM (tOfE (eArgs gIsi (aCons (eVar 0) (aCons (eC (.vv (.ty "list"))) aNil)))) [some (.obj j), none, none, none, none, none, none, none, none, none] s = some (.ok false, s) := tnot (tof a0)
  have a1 := gMake1 (c := "Reader") (F := F_Reader_init) (sl := [some (.obj j), none, none, none, none, none, none, none, none, none]) (var_obj (i := 0) rfl hj) (by rw [hn]; exact reader_init hn hj)
  rw [hn] at a1
  have a2 := eByte (a := 1) (ex := []) (e1 := eC (.int 87)) (e2 := eC (.int 87)) (lo := 87) (hi := 87) (sl := [some (.obj j), some (.obj n), none, none, none, none, none, none, none, none]) hc hn hj exV_nil rfl rfl rfl d1 (by omega) (by omega)
  have a3 := eByte (a := 1) (ex := []) (e1 := eC (.int 1)) (e2 := eC (.int 60)) (lo := 1) (hi := 60) (sl := [some (.obj j), some (.obj n), none, none, none, none, none, none, none, none]) hc hn hj exV_nil rfl rfl rfl d2 (by have := h.l1; omega) (by omega)
  have a4 := eByte (a := 1) (ex := []) (e1 := eC (.int 1)) (e2 := eC (.int 9)) (lo := 1) (hi := 9) (sl := [some (.obj j), some (.obj n), some (nV p.len), none, none, none, none, none, none, none]) hc hn hj exV_nil rfl rfl rfl d3 (by have := h.m1; omega) (by have := h.m2; omega)
  have a5 : eArgs gLstO aNil [some (.obj j), some (.obj n), some (nV p.len), some (nV p.most), none, none, none, none, none, none] (RS s j (1 + 1 + 1) []) = some (.ok (.obj (n + 1)), RS s j (1 + 1 + 1) [.lst []]) := by
    simp [gLstO, RS_app, RS_len, hn]
  have ex0 : exV [O.lst []] := exV_app (l := []) exV_nil
  have a6 := range_of (eByte (a := 1) (ex := [.lst []]) (e1 := eC (.int 1)) (e2 := eC (.int 8)) (lo := 1) (hi := 8) (sl := [some (.obj j), some (.obj n), some (nV p.len), some (nV p.most), some (.obj (n + 1)), none, none, none, none, none]) hc hn hj ex0 rfl rfl rfl d4 (by have := List.length_pos_iff.mpr h.n1; omega) (by omega)) (by omega)
  obtain ⟨x5, a7⟩ := names_loop' (x0 := some (.obj j)) (x2 := some (nV p.len)) (x3 := some (nV p.most)) (x6 := none) (x7 := none) (x8 := none) (x9 := none) hc hn hj p.nms (1 + 1 + 1 + 1) [] (List.range p.nms.length) _ none (by simp) r4 h.nw (by simpa using h.nd) (by simp; omega)
  rw [List.nil_append, hNF] at a7
  have exN : exV [O.lst (p.nms.map stV)] := by
    have := exV_app (l := p.nms.map strL) exV_nil
    rwa [List.map_map] at this
  have gN : ∀ i' : Nat, (RS s j i' [.lst (p.nms.map stV)])[n + 1]? = some (.lst (p.nms.map stV)) := fun i' => RS_ex (ex := [.lst (p.nms.map stV)]) hn 0
  have ln : ∀ (sl : Sl) (i' : Nat), sl[4]? = some (some (.obj (n + 1))) → eArgs (g1 gLen) (aCons (eVar 4) aNil) sl (RS s j i' [.lst (p.nms.map stV)]) = some (.ok (nV p.nms.length), RS s j i' [.lst (p.nms.map stV)]) := fun sl i' hs => by
    rw [args1 (var_obj hs (gN i'))]
    simp only [g1, gLen, seqOf, lstOf, gN, List.length_map]
  have rk := ranks_eq (i := 1 + 1 + 1 + 1 + NF) hc hn hj exN (rks := p.rks) (by omega) (by rw [rl]; exact h.rk) r5
  rw [rl] at rk
  have a8 := meth1 (k := 0) (sl := [some (.obj j), some (.obj n), some (nV p.len), some (nV p.most), some (.obj (n + 1)), x5, none, none, none, none]) (rd_var (a := 1) rfl hn) (rd_chk "read_ranks" hn (by simp) (by simp)) (ln _ _ rfl) rk
  rw [rl] at r6 r7' r7 r8' hE
  have st := starts_eq (i := 1 + 1 + 1 + 1 + NF + p.nms.length) hc hn hj exN (len := p.len) (cnt := p.nms.length) h.s20 h.st h.srt r6
  have a9 := meth2 (sl := [some (.obj j), some (.obj n), some (nV p.len), some (nV p.most), some (.obj (n + 1)), x5, some (.val (.lst (p.rks.map iD))), none, none, none]) (rd_var (a := 1) rfl hn) (rd_chk "read_starts" hn (by simp) (by simp)) (var_val (i := 2) (v := .int p.len) rfl) (ln _ _ rfl) st
  have pz := paused_eq' (i := 1 + 1 + 1 + 1 + NF + p.nms.length + 1 + 3 * p.sts.length) hc hn hj exN h.l2 (plan_runs_len h) (fun q hq => ⟨runs_ord p.pau [] h.pa (by simp) q hq, (runs_lt h q hq).2⟩) (plan_gap h) r7
  have a10 := meth1 (k := 0) (sl := [some (.obj j), some (.obj n), some (nV p.len), some (nV p.most), some (.obj (n + 1)), x5, some (.val (.lst (p.rks.map iD))), some (.val (.lst (p.sts.map triD))), none, none]) (rd_var (a := 1) rfl hn) (rd_chk "read_paused" hn (by simp) (by simp)) (var_val (i := 2) (v := .int p.len) rfl) pz
  rw [hE] at a10
  have tk : p.code.take E = p.bytes := by
    have := take_drop_sum r8
    have e2 : p.code = p.bytes ++ [p.bytes.sum % 256] := rfl
    rw [e2] at this
    exact (List.append_inj' this rfl).1
  have pl : ∀ (sl : Sl) (i' : Nat), sl[1]? = some (some (.obj n)) → eFld ["Reader"] "place" (eVar 1) sl (RS s j i' [.lst (p.nms.map stV)]) = some (.ok (nV i'), RS s j i' [.lst (p.nms.map stV)]) := fun sl i' hs => rd_place (rd_var hs hn) hn
  have sc : eSl gSl (eVar 0) none (some (eFld ["Reader"] "place" (eVar 1))) [some (.obj j), some (.obj n), some (nV p.len), some (nV p.most), some (.obj (n + 1)), x5, some (.val (.lst (p.rks.map iD))), some (.val (.lst (p.sts.map triD))), some (.val (boolsOf p.len (pausedAt (runsL p.pau)))), none] (RS s j E [.lst (p.nms.map stV)]) = some (.ok (.val (.lst (p.bytes.map iD))), RS s j E [.lst (p.nms.map stV)]) := by
    have e1 := pl [some (.obj j), some (.obj n), some (nV p.len), some (nV p.most), some (.obj (n + 1)), x5, some (.val (.lst (p.rks.map iD))), some (.val (.lst (p.sts.map triD))), some (.val (boolsOf p.len (pausedAt (runsL p.pau)))), none] E rfl
    have e0 := var_obj (i := 0) (sl := [some (.obj j), some (.obj n), some (nV p.len), some (nV p.most), some (.obj (n + 1)), x5, some (.val (.lst (p.rks.map iD))), some (.val (.lst (p.sts.map triD))), some (.val (boolsOf p.len (pausedAt (runsL p.pau)))), none]) rfl (RS_j (i := E) (ex := [.lst (p.nms.map stV)]) hj)
    unfold eSl
    simp only [M.bind, e0, M.pure, e1]
    unfold gSl
    simp only [seqOf, lstOf, RS_j (i := E) (ex := [.lst (p.nms.map stV)]) hj, Option.bind_some, datas_nV, cut_take p.code E (by omega), tk]
  have a11 : eBin gMod (eArgs (g1 gSum) (aCons (eSl gSl (eVar 0) none (some (eFld ["Reader"] "place" (eVar 1)))) aNil)) (eC (.int 256)) [some (.obj j), some (.obj n), some (nV p.len), some (nV p.most), some (.obj (n + 1)), x5, some (.val (.lst (p.rks.map iD))), some (.val (.lst (p.sts.map triD))), some (.val (boolsOf p.len (pausedAt (runsL p.pau)))), none] (RS s j E [.lst (p.nms.map stV)]) = some (.ok (nV (p.bytes.sum % 256)), RS s j E [.lst (p.nms.map stV)]) := by
    refine mod256 ?_
    rw [args1 sc]
    exact gSum_lst _ _
  have a12 := eByte (a := 1) (ex := [.lst (p.nms.map stV)]) (e1 := eVar 9) (e2 := eVar 9) (lo := ((p.bytes.sum % 256 : Nat) : Int)) (hi := ((p.bytes.sum % 256 : Nat) : Int)) (sl := [some (.obj j), some (.obj n), some (nV p.len), some (nV p.most), some (.obj (n + 1)), x5, some (.val (.lst (p.rks.map iD))), some (.val (.lst (p.sts.map triD))), some (.val (boolsOf p.len (pausedAt (runsL p.pau)))), some (nV (p.bytes.sum % 256))]) hc hn hj exN rfl (var_val (i := 9) rfl) (var_val (i := 9) rfl) d9 (Int.le_refl _) (Int.le_refl _)
  have a13 : tBin gLt (eFld ["Reader"] "place" (eVar 1)) (eArgs (g1 gLen) (aCons (eVar 0) aNil)) [some (.obj j), some (.obj n), some (nV p.len), some (nV p.most), some (.obj (n + 1)), x5, some (.val (.lst (p.rks.map iD))), some (.val (.lst (p.sts.map triD))), some (.val (boolsOf p.len (pausedAt (runsL p.pau)))), some (nV (p.bytes.sum % 256))] (RS s j (E + 1) [.lst (p.nms.map stV)]) = some (.ok false, RS s j (E + 1) [.lst (p.nms.map stV)]) := tbin (by
    rw [bin_ok (pl _ (E + 1) rfl) (y := nV p.code.length) (st2 := RS s j (E + 1) [.lst (p.nms.map stV)])]
    · rw [hlen]; simp
    · rw [args1 (var_obj (i := 0) rfl (RS_j (i := E + 1) (ex := [.lst (p.nms.map stV)]) hj))]
      simp only [g1, gLen, seqOf, lstOf, RS_j (i := E + 1) (ex := [.lst (p.nms.map stV)]) hj, List.length_map])
  have nt : eArgs (g1 gTuple) (aCons (eVar 4) aNil) [some (.obj j), some (.obj n), some (nV p.len), some (nV p.most), some (.obj (n + 1)), x5, some (.val (.lst (p.rks.map iD))), some (.val (.lst (p.sts.map triD))), some (.val (boolsOf p.len (pausedAt (runsL p.pau)))), some (nV (p.bytes.sum % 256))] (RS s j (E + 1) [.lst (p.nms.map stV)]) = some (.ok (.val (.tup (p.nms.map strL))), RS s j (E + 1) [.lst (p.nms.map stV)]) := by
    rw [args1 (var_obj (i := 4) (n := n + 1) rfl (gN (E + 1)))]
    have dd : datas (p.nms.map stV) = some (p.nms.map strL) := datas_comp strL p.nms
    unfold g1 gTuple
    simp only [lstOf, gN, Option.bind_some, dd]
  have mp := make_plan (st' := []) (var_val (i := 2) (v := .int p.len) (sl := [some (.obj j), some (.obj n), some (nV p.len), some (nV p.most), some (.obj (n + 1)), x5, some (.val (.lst (p.rks.map iD))), some (.val (.lst (p.sts.map triD))), some (.val (boolsOf p.len (pausedAt (runsL p.pau)))), some (nV (p.bytes.sum % 256))]) rfl) (var_val (i := 3) (v := .int p.most) rfl) nt (var_val (i := 7) (v := .lst (p.sts.map triD)) rfl) (var_val (i := 8) (v := boolsOf p.len (pausedAt (runsL p.pau))) rfl) (var_val (i := 6) (v := .lst (p.rks.map iD)) rfl)
  have pd : D.ins "Plan" [("length", .int p.len), ("most", .int p.most), ("names", .tup (p.nms.map strL)), ("starts", .lst (p.sts.map triD)), ("paused", boolsOf p.len (pausedAt (runsL p.pau))), ("ranks", .lst (p.rks.map iD))] = p.parsed := by
    unfold Pl.parsed planD
    rw [parsed_names]
    have : boolsOf p.len (pausedAt (runsL p.pau)) = .lst ((List.range p.len).map fun i => .bl (decide (i ∈ p.pau))) := by
      exact congrArg D.lst (List.map_congr_left fun i _ => by rw [paused_runs h])
    rw [this]
  rw [pd] at mp
  have a14 := callP1 mp (format_eq h)
  unfold F_decode asC
  rw [show mkSl 10 [.obj j] = [some (.obj j), none, none, none, none, none, none, none, none, none] from rfl]
  have body : b_decode [some (.obj j), none, none, none, none, none, none, none, none, none] s = some (.rt (.val (strL p.text)), [some (.obj j), some (.obj n), some (nV p.len), some (nV p.most), some (.obj (n + 1)), x5, some (.val (.lst (p.rks.map iD))), some (.val (.lst (p.sts.map triD))), some (.val (boolsOf p.len (pausedAt (runsL p.pau)))), some (nV (p.bytes.sum % 256))], RS s j (E + 1) [.lst (p.nms.map stV)]) := by
    unfold b_decode
    exact (guard_f g0).trans ((seq_nx (set_nx a1)).trans ((seq_nx (expr_nx a2)).trans ((seq_nx (set_nx a3)).trans ((seq_nx (set_nx a4)).trans ((seq_nx (set_nx a5)).trans ((seq_nx (for_ok a6 a7)).trans ((seq_nx (set_nx a8)).trans ((seq_nx (set_nx a9)).trans ((seq_nx (set_nx a10)).trans ((seq_nx (set_nx a11)).trans ((seq_nx (expr_nx a12)).trans ((guard_f a13).trans (ret_ok a14)))))))))))))
  rw [body]
  unfold RS
  exact exitC_rt hc rfl
end G
namespace G
open PySem L2 Cl
/-! ### random -/
theorem seed_loop (scr : S) (x1 : Option S) : ∀ (ns : List Int) (seed : Int) (x3 : Option S), 0 ≤ seed → seed < 2147483647 →
    ∃ (seed' : Int) (x3' : Option S), 0 ≤ seed' ∧ seed' < 2147483647 ∧ forL always (tgName 3) l1__law_random (ns.map fun i => S.val (.int i)) [some scr, x1, some (iV seed), x3] [] = some (.nx, [some scr, x1, some (iV seed'), x3'], [])
  | [], seed, x3, h1, h2 => ⟨seed, x3, h1, h2, for_nil trivial⟩
  | z :: ns, seed, x3, h1, h2 => by
    have m1 : 0 ≤ (seed * 31 + (if z < 0 then -z else z)) % 2147483647 := Int.emod_nonneg _ (by omega)
    have m2 : (seed * 31 + (if z < 0 then -z else z)) % 2147483647 < 2147483647 := Int.emod_lt_of_pos _ (by omega)
    obtain ⟨seed', x3', a1, a2, a3⟩ := seed_loop scr x1 ns ((seed * 31 + (if z < 0 then -z else z)) % 2147483647) (some (iV z)) m1 m2
    refine ⟨seed', x3', a1, a2, ?_⟩
    rw [List.map_cons, for_cons trivial rfl (sl2 := [some scr, x1, some (iV ((seed * 31 + (if z < 0 then -z else z)) % 2147483647)), some (iV z)]) (st2 := [])]
    · exact a3
    · simp [l1__law_random, gAbs]
theorem random_eq (ns : List Int) (salt : Int) (h1 : 0 ≤ salt) (h2 : salt < 2147483647) (hl : ns.length ≤ 63) : ∃ d : List Int, GoodD d ∧ F__law_random [.scr (ns.map D.int), .int salt] = some (.ok (.lst (d.map D.int))) := by
  obtain ⟨seed, x3, a1, a2, a3⟩ := seed_loop (.val (.scr (ns.map D.int))) (some (iV salt)) ns salt none h1 h2
  have hi : ∀ sl : Sl, sl[0]? = some (some (.val (.scr (ns.map D.int)))) → iOf (eVar 0) sl [] = some (.ok (ns.map fun i => S.val (.int i), always), []) := fun sl hs => by
    unfold iOf
    simp only [M.bind, var_val hs, gIter, List.map_map]
    rfl
  have lc := eLc_map (vs := [3]) (fi := iOf (eVar 0)) (g := tgName 3) (t := t1__law_random) (e := e1__law_random) (sl := [some (.val (.scr (ns.map D.int))), some (iV salt), some (iV seed), x3]) (st := []) (C := always) (fun i : Int => S.val (.int i)) (fun i => decide (1000000000000000000 ≤ i)) D.int ns (hi _ rfl) trivial (Nat.le_of_lt (sizes (by omega)))
    (fun i _ => ⟨[some (.val (.scr (ns.map D.int))), some (iV salt), some (iV seed), some (iV i)], rfl, by simp [t1__law_random], fun _ => by simp [e1__law_random]⟩)
  refine ⟨seed :: 0 :: ns.filter fun i => decide (1000000000000000000 ≤ i), ⟨seed, 0, _, rfl, a1, a2, Int.le_refl _, fun x hx => ?_⟩, ?_⟩
  · have := of_decide_eq_true (List.mem_filter.mp hx).2
    omega
  · have cat : eBin gCatO (eArgs Cl.gLst (aCons (eVar 2) (aCons (eC (.int 0)) aNil))) (eLc [3] (iOf (eVar 0)) (tgName 3) t1__law_random e1__law_random) [some (.val (.scr (ns.map D.int))), some (iV salt), some (iV seed), x3] [] = some (.ok (.obj 0), [.lst ((seed :: 0 :: ns.filter fun i => decide (1000000000000000000 ≤ i)).map fun i => S.val (.int i))]) := by
      rw [bin_ok (x := .val (.lst [.int seed, .int 0])) (st1 := []) (by simp [Cl.gLst]) lc]
      have z : (ns.filter fun i => decide (1000000000000000000 ≤ i)).length + 1 + 1 ≤ sizeLine := Nat.le_of_lt (sizes (by have := List.length_filter_le (fun i => decide (1000000000000000000 ≤ i)) ns; omega))
      simp [gCatO, z]
    unfold F__law_random asN b__law_random
    rw [show mkSl 4 ([.scr (ns.map D.int), .int salt].map S.val) = [some (.val (.scr (ns.map D.int))), some (iV salt), none, none] from rfl]
    have body := (seq_nx (b := sSeq (sFor (iOf (eVar 0)) (tgName 3) l1__law_random) (sRet (eBin gCatO (eArgs Cl.gLst (aCons (eVar 2) (aCons (eC (.int 0)) aNil))) (eLc [3] (iOf (eVar 0)) (tgName 3) t1__law_random e1__law_random)))) (set_nx (i := 2) (var_val (i := 1) (v := .int salt) (sl := [some (.val (.scr (ns.map D.int))), some (iV salt), none, none]) (st := []) rfl))).trans ((seq_nx (for_ok (hi _ rfl) a3)).trans (ret_ok cat))
    rw [body]
    unfold exitN
    simp only [List.getElem?_cons_zero]
    rw [show datas ((seed :: 0 :: ns.filter fun i => decide (1000000000000000000 ≤ i)).map fun i => S.val (.int i)) = some ((seed :: 0 :: ns.filter fun i => decide (1000000000000000000 ≤ i)).map D.int) from datas_comp D.int _]
    rfl
/-! ### the law -/
theorem callN1 {f : PF} {e : ME} {sl : Sl} {st st1 : List O} {a : D} {l : List D} (h : e sl st = some (.ok (.val a), st1)) (hf : f [a] = some (.ok (.lst l))) : eArgs (gCallN 1 f []) (aCons e aNil) sl st = some (.ok (.obj st1.length), st1 ++ [.lst (l.map .val)]) := by
  rw [args1 h]; simp [hf]
theorem callO1 {F : OF} {e : ME} {sl : Sl} {st st1 st2 : List O} {x r : S} (h : e sl st = some (.ok x, st1)) (hF : F [x] st1 = some (.ok r, st2)) : eArgs (gCallO 1 F []) (aCons e aNil) sl st = some (.ok r, st2) := by
  rw [args1 h]
  simp only [gCallO, List.map_nil, List.append_nil, List.length_cons, List.length_nil, if_true]
  exact hF
theorem callO2 {F : OF} {e f : ME} {sl : Sl} {st st1 st2 st3 : List O} {x y r : S} (h : e sl st = some (.ok x, st1)) (h2 : f sl st1 = some (.ok y, st2)) (hF : F [x, y] st2 = some (.ok r, st3)) : eArgs (gCallO 2 F []) (aCons e (aCons f aNil)) sl st = some (.ok r, st3) := by
  rw [args2 h h2]
  simp only [gCallO, List.map_nil, List.append_nil, List.length_cons, List.length_nil, if_true]
  exact hF
theorem closed_app {s : List O} {o : O} (hc : Closed s) (ho : belowO (s.length + 1) o = true) : Closed (s ++ [o]) := by
  unfold Closed at hc ⊢
  rw [List.all_append, Bool.and_eq_true]
  refine ⟨?_, by simpa using ho⟩
  rw [List.all_eq_true] at hc ⊢
  exact fun x hx => belowO_mono (hc x hx) (by simp)
theorem below_nums (m : Nat) (l : List Nat) : belowO m (.lst (l.map nV)) = true := by simp
theorem tor_ff {a b : MT} {sl : Sl} {st : List O} (h : a sl st = some (.ok false, st)) (h2 : b sl st = some (.ok false, st)) : tOrM a b sl st = some (.ok false, st) := by rw [tor_f h]; exact h2
/-- one more time -/
theorem law15_turn {p : Pl} (h : Pok p) {st : List O} {e : Nat} {x0 x1 x2 x3 x6 x7 : Option S} (hc : Closed st) (he : st[e]? = some (.lst (p.code.map nV))) :
    ∃ x7' st', l1_law [x0, x1, x2, x3, some (stV p.text), some (.obj e), x6, x7] st = some (.nx, [x0, x1, x2, x3, some (stV p.text), some (.obj e), x6, x7'], st') ∧ st' = st ++ [.lst ((p.code ++ [0]).map nV)] := by
  have hel : e < st.length := (List.getElem?_eq_some_iff.mp he).1
  have lb := bytes_len h
  have lc : p.code.length ≤ 301 := by unfold Pl.code; rw [List.length_append]; simp; omega
  have c1 := callN1 (var_val (i := 4) (v := strL p.text) (sl := [x0, x1, x2, x3, some (stV p.text), some (.obj e), x6, x7]) (st := st) rfl) (encode_eq h)
  rw [nV_map] at c1
  have hc1 : Closed (st ++ [.lst (p.code.map nV)]) := closed_app hc (below_nums _ _)
  have gc : (st ++ [.lst (p.code.map nV)])[st.length]? = some (.lst (p.code.map nV)) := get_r0 rfl
  have ge : (st ++ [.lst (p.code.map nV)])[e]? = some (.lst (p.code.map nV)) := by rw [get_l hel]; exact he
  have v7 := var_obj (i := 7) (sl := [x0, x1, x2, x3, some (stV p.text), some (.obj e), x6, some (.obj st.length)]) rfl gc
  have v5 := var_obj (i := 5) (sl := [x0, x1, x2, x3, some (stV p.text), some (.obj e), x6, some (.obj st.length)]) rfl ge
  have v4 := var_val (i := 4) (v := strL p.text) (sl := [x0, x1, x2, x3, some (stV p.text), some (.obj e), x6, some (.obj st.length)]) (st := st ++ [.lst (p.code.map nV)]) rfl
  have q1 : F__law_equal 6 [.obj st.length, .obj e] (st ++ [.lst (p.code.map nV)]) = some (.ok (.val (.bl true)), st ++ [.lst (p.code.map nV)]) :=
    equal_obj (n := 4) (l := p.code.map iD) hc1 (by decide) (by rw [gc, nV_map]) (by rw [ge, nV_map]) (fun d hd => by
      obtain ⟨k, _, rfl⟩ := List.mem_map.mp hd
      exact ⟨by simp [okP], by simp [shortD]⟩) (by rw [List.length_map]; omega)
  have q2 : F__law_equal 6 [stV p.text, stV p.text] (st ++ [.lst (p.code.map nV)]) = some (.ok (.val (.bl true)), st ++ [.lst (p.code.map nV)]) :=
    equal_val hc1 5 (strL p.text) (by decide) (by simp only [strL, okP]; exact ok_Sc (text_ok h).1) (by simp [strL, shortD])
  have t1 := tnot (tof (callO2 v7 v5 q1))
  have dc := callO1 v7 (decode_eq h hc1 gc)
  have t2 := tnot (tof (callO2 dc v4 q2))
  have ds : datas (p.code.map nV) = some (p.code.map iD) := datas_nV _
  have ne := gEqB_eq (x := .obj st.length) (y := .obj e) (st := st ++ [.lst (p.code.map nV)]) (a := .lst (p.code.map iD)) (b := .lst (p.code.map iD)) true (by simp only [asD, lstOf, gc, ds]; rfl) (by simp only [asD, lstOf, ge, ds]; rfl) (okP_ints _ _ _) (okP_ints _ _ _)
  rw [eqD_self] at ne
  have t3 : tBin gNe (eVar 7) (eVar 5) [x0, x1, x2, x3, some (stV p.text), some (.obj e), x6, some (.obj st.length)] (st ++ [.lst (p.code.map nV)]) = some (.ok false, st ++ [.lst (p.code.map nV)]) := tbin (by rw [bin_ok v7 v5]; exact ne)
  have ap : eBM "list" gAppend (eVar 7) (aCons (eC (.int 0)) aNil) [x0, x1, x2, x3, some (stV p.text), some (.obj e), x6, some (.obj st.length)] (st ++ [.lst (p.code.map nV)]) = some (.ok (.val .non), st ++ [.lst ((p.code ++ [0]).map nV)]) := by
    rw [bm1 (y := nV 0) v7 (chk_list gc) rfl, gApp_eq gc (by rw [List.length_map]; exact sizes (by omega)), set_r0 rfl]
    simp
  refine ⟨some (.obj st.length), _, ?_, rfl⟩
  unfold l1_law
  exact (seq_nx (set_nx c1)).trans ((guard_f (tor_ff t1 (tor_ff t2 t3))).trans (expr_nx ap))
end G
namespace G
open PySem L2 Cl
theorem W_W {s : List O} {k : Nat} {d d' : List Int} : W (W s k d) k d' = W s k d' := W_self
/-- a plan -/
theorem law15_plan {s : List O} {d : List Int} {x0 x2 x3 x4 x5 x6 x7 : Option S} (hk : 0 < s.length) (hc : Closed s) (hd : GoodD d) :
    ∃ (s' : List O) (d' : List Int) (y3 y4 y5 y6 y7 : Option S), 0 < s'.length ∧ Closed s' ∧ GoodD d' ∧ l2_law [x0, some (.obj 0), x2, x3, x4, x5, x6, x7] (W s 0 d) = some (.nx, [x0, some (.obj 0), x2, y3, y4, y5, y6, y7], W s' 0 d') := by
  have g0 := W_get (d := d) hk
  obtain ⟨p, d1, hp, _, hd1, e1⟩ := wide_eq (k := 0) (mx := 8) g0 hd (W_closed hc) (by decide) (by decide)
  rw [W_W] at e1
  have lb := bytes_len hp
  have a1 : eArgs (gCallO 2 F__law_wide []) (aCons (eVar 1) (aCons (eC (.int 8)) aNil)) [x0, some (.obj 0), x2, x3, x4, x5, x6, x7] (W s 0 d) = some (.ok (.val p.d), W s 0 d1) :=
    callO2 (y := iV 8) (var_obj (i := 1) rfl (W_getL hk)) rfl e1
  have a2 : eArgs (gCallP 1 F__law_text []) (aCons (eVar 3) aNil) [x0, some (.obj 0), x2, some (.val p.d), x4, x5, x6, x7] (W s 0 d1) = some (.ok (stV p.text), W s 0 d1) := callP1 (var_val (i := 3) (v := p.d) rfl) (law_text_eq hp)
  have a3 := callN1 (var_val (i := 3) (v := p.d) (sl := [x0, some (.obj 0), x2, some (.val p.d), x4, x5, x6, x7]) (st := W s 0 d1) rfl) (law_bytes_eq hp)
  rw [nV_map, W_len, W_app hk] at a3
  have a23 := par_ok (i := 4) (j := 5) a2 a3
  have hk2 : ∀ o : O, 0 < (s ++ [o]).length := fun o => by rw [List.length_append]; omega
  have ne : (0 : Nat) ≠ s.length := by omega
  have gE : ∀ (o : O) (d : List Int), (W (s ++ [o]) 0 d)[s.length]? = some o := fun o d => by rw [W_ne ne]; exact get_r0 rfl
  have v5 := var_obj (i := 5) (sl := [x0, some (.obj 0), x2, some (.val p.d), some (stV p.text), some (.obj s.length), x6, x7]) rfl (gE (.lst (p.bytes.map nV)) d1)
  have a4 : eBM "list" gAppend (eVar 5) (aCons (eBin gMod (eArgs (g1 gSum) (aCons (eVar 5) aNil)) (eC (.int 256))) aNil) [x0, some (.obj 0), x2, some (.val p.d), some (stV p.text), some (.obj s.length), x6, x7] (W (s ++ [O.lst (p.bytes.map nV)]) 0 d1) = some (.ok (.val .non), W (s ++ [O.lst (p.code.map nV)]) 0 d1) := by
    have sm : eBin gMod (eArgs (g1 gSum) (aCons (eVar 5) aNil)) (eC (.int 256)) [x0, some (.obj 0), x2, some (.val p.d), some (stV p.text), some (.obj s.length), x6, x7] (W (s ++ [O.lst (p.bytes.map nV)]) 0 d1) = some (.ok (nV (p.bytes.sum % 256)), W (s ++ [O.lst (p.bytes.map nV)]) 0 d1) := by
      refine mod256 ?_
      rw [args1 v5]
      exact gSum_obj (gE _ _)
    rw [bm1 v5 (chk_list (gE _ _)) sm, gApp_eq (gE _ _) (by rw [List.length_map]; exact sizes (by omega)), W_set ne, set_r0 rfl]
    simp [Pl.code]
  have hcE : Closed (s ++ [O.lst (p.code.map nV)]) := closed_app hc (below_nums _ _)
  obtain ⟨x7a, st1, b1, b2⟩ := law15_turn hp (x0 := x0) (x1 := some (.obj 0)) (x2 := x2) (x3 := some (.val p.d)) (x6 := some (nV 0)) (x7 := x7) (W_closed (k := 0) (d := d1) hcE) (gE _ d1)
  subst b2
  rw [W_app (hk2 _)] at b1
  have hcF : Closed (s ++ [O.lst (p.code.map nV)] ++ [O.lst ((p.code ++ [0]).map nV)]) := closed_app hcE (below_nums _ _)
  have gF : (W (s ++ [O.lst (p.code.map nV)] ++ [O.lst ((p.code ++ [0]).map nV)]) 0 d1)[s.length]? = some (.lst (p.code.map nV)) := by
    rw [W_ne ne, get_l (by rw [List.length_append]; simp)]; exact get_r0 rfl
  obtain ⟨x7b, st2, b3, b4⟩ := law15_turn hp (x0 := x0) (x1 := some (.obj 0)) (x2 := x2) (x3 := some (.val p.d)) (x6 := some (nV 1)) (x7 := x7a) (W_closed (k := 0) (d := d1) hcF) gF
  subst b4
  have hk3 : 0 < (s ++ [O.lst (p.code.map nV)] ++ [O.lst ((p.code ++ [0]).map nV)]).length := by simp only [List.length_append]; omega
  rw [W_app hk3] at b3
  have lp : forL always (tgName 6) l1_law ((List.range 2).map fun i : Nat => S.val (iD i)) [x0, some (.obj 0), x2, some (.val p.d), some (stV p.text), some (.obj s.length), x6, x7] (W (s ++ [O.lst (p.code.map nV)]) 0 d1) = some (.nx, [x0, some (.obj 0), x2, some (.val p.d), some (stV p.text), some (.obj s.length), some (nV 1), x7b], W (s ++ [O.lst (p.code.map nV)] ++ [O.lst ((p.code ++ [0]).map nV)] ++ [O.lst ((p.code ++ [0]).map nV)]) 0 d1) := by
    rw [show (List.range 2).map (fun i : Nat => S.val (iD i)) = [nV 0, nV 1] from rfl, for_cons trivial rfl b1, for_cons trivial rfl b3, for_nil trivial]
  refine ⟨s ++ [O.lst (p.code.map nV)] ++ [O.lst ((p.code ++ [0]).map nV)] ++ [O.lst ((p.code ++ [0]).map nV)], d1, some (.val p.d), some (stV p.text), some (.obj s.length), some (nV 1), x7b, ?_, closed_app hcF (below_nums _ _), hd1, ?_⟩
  · simp only [List.length_append]; omega
  · unfold l2_law
    exact (seq_nx (set_nx a1)).trans ((seq_nx a23).trans ((seq_nx (expr_nx a4)).trans (for_ok (range_of (e := eC (.int 2)) (k := 2) rfl (by decide)) lp)))
theorem law_true (ns : List Int) (hl : ns.length ≤ 63) (hz : ∀ z ∈ ns, Builtin.Int.intBits z ≤ 1048576) : F_law [.scr (ns.map D.int)] = some (.ok (.bl true)) := by
  obtain ⟨d, hd, e0⟩ := random_eq ns 15 (by decide) (by decide) hl
  have a0 : eArgs (gCallN 2 F__law_random []) (aCons (eVar 0) (aCons (eC (.int 15)) aNil)) [some (.val (.scr (ns.map D.int))), none, none, none, none, none, none, none] [] = some (.ok (.obj 0), [.lst (d.map iV)]) := by
    rw [args2 (var_val (i := 0) (v := .scr (ns.map D.int)) rfl) (y := iV 15) rfl]
    simp [e0]
  have h0 : ([.lst (d.map iV)] : List O) = W [.lst []] 0 d := rfl
  rw [h0] at a0
  obtain ⟨sl', st', e1, e2⟩ := for_ex (C := always) (g := tgName 2) (b := l2_law) (fun i : Nat => S.val (iD i))
    (fun _ sl st => ∃ (s : List O) (d : List Int) (x2 x3 x4 x5 x6 x7 : Option S), 0 < s.length ∧ Closed s ∧ GoodD d ∧ sl = [some (.val (.scr (ns.map D.int))), some (.obj 0), x2, x3, x4, x5, x6, x7] ∧ st = W s 0 d)
    (fun _ _ _ _ => trivial) (List.range 4) [some (.val (.scr (ns.map D.int))), some (.obj 0), none, none, none, none, none, none] (W [.lst []] 0 d) ⟨[.lst []], d, none, none, none, none, none, none, by decide, rfl, hd, rfl, rfl⟩ (fun i rem sl st h => by
      obtain ⟨s, d, x2, x3, x4, x5, x6, x7, h1, h2, h3, rfl, rfl⟩ := h
      obtain ⟨s', d', y3, y4, y5, y6, y7, i1, i2, i3, i4⟩ := law15_plan (x0 := some (.val (.scr (ns.map D.int)))) (x2 := some (S.val (iD i))) (x3 := x3) (x4 := x4) (x5 := x5) (x6 := x6) (x7 := x7) h1 h2 h3
      exact ⟨_, _, _, _, rfl, i4, s', d', some (S.val (iD i)), y3, y4, y5, y6, y7, i1, i2, i3, rfl, rfl⟩)
  unfold F_law asP b_law
  rw [show mkSl 8 ([.scr (ns.map D.int)].map S.val) = [some (.val (.scr (ns.map D.int))), none, none, none, none, none, none, none] from rfl]
  have body := (seq_nx (b := sSeq (sFor (iArgs gRange1 (aCons (eC (.int 4)) aNil)) (tgName 2) l2_law) (sRet (eC (.bl true)))) (set_nx (i := 1) a0)).trans ((seq_nx (for_ok (range_of (e := eC (.int 4)) (k := 4) rfl (by decide)) e1)).trans (ret_ok (x := .val (.bl true)) (st' := st') rfl))
  rw [body]
  simp [deepD]
end G
namespace G
open PySem L2 Cl
def top (i : Nat) : Stmt := PySem.Challenge.pw_watervalves_k15_encoded_plans.main.body.getD i (.Pass ⟨0, 0, 0, 0⟩)
section
variable {P : Program} {w : World} {K : PySem.W.Frag} {mg : Str → Option Value} {base : Heap}
theorem sc_run_end : FnScope ["row", "start", "letters", "end"] ["row", "start", "letters"] (defScope (top 20)) := ⟨rfl, rfl, rfl, by decide +kernel, rfl, by decide +kernel, by decide +kernel⟩
theorem ok_run_end {f : Addr} {fd : FuncData} {dvs : List V} {kws : List (Str × V)} (Fn : FunD K "run_end" "run_end" (defArgs (top 20)) (defBody (top 20)) (defScope (top 20)) dvs kws f fd) (z_len : mg "len" = none) : FnOk P w K mg base (L2.CX P w) 1 f fd ["row", "start", "letters"] (spP K mg 3 F_run_end) := by
  refine fn_P Fn sc_run_end (fun cdv A outer s H E B hr => ?_)
  have tk := takes_of (X := cxOf (L2.CX P w) P w K mg base ["row", "start", "letters", "end"] "run_end" (defScope (top 20)) f cdv A outer s H E) (E := E) rfl rfl rfl rfl
  have hp := passes_of (X := cxOf (L2.CX P w) P w K mg base ["row", "start", "letters", "end"] "run_end" (defScope (top 20)) f cdv A outer s H E) (K := fun e s'' => L2.CX P w outer H s E e s'') rfl
  exact (qss_cons (qs_set (i := 3) (qe_var 1) sc_run_end.nd)
      (qss_cons (qs_while hp (PW.pt (qw_and (qt_cmp op_lt os_lt (qe_var 3) (qe_callB call_lenA cs_len z_len PySem.boot_len (qa_cons (qe_var 0) qa_nil)) (nomark _)) (qw_and1 (qt_cmp (op_inA (hu65 hr)) os_in (qe_ix ix_seq os_ix (qe_var 0) (qe_var 3)) (qe_var 2) (by with_unfolding_all rfl))))) (qss_one (qs_aug (i := 3) sc_run_end.nd ip_add is_add qe_int)))
      (qss_one (qs_ret (qe_var 3)))))

theorem sc_Token_init : FnScope ["self", "kind", "text", "line", "column"] ["self", "kind", "text", "line", "column"] (defScope (inClass (top 19) 0)) := ⟨rfl, rfl, rfl, by decide +kernel, rfl, by decide +kernel, by decide +kernel⟩
theorem ok_Token_init {f : Addr} {fd : FuncData} {dvs : List V} {kws : List (Str × V)} (Fn : FunD K "__init__" "Token.__init__" (defArgs (inClass (top 19) 0)) (defBody (inClass (top 19) 0)) (defScope (inClass (top 19) 0)) dvs kws f fd) (c_Token_column : ClsF K mg ["Token"] "column") (c_Token_line : ClsF K mg ["Token"] "line") (c_Token_text : ClsF K mg ["Token"] "text") (c_Token_kind : ClsF K mg ["Token"] "kind") : FnOk P w K mg base (L2.CX P w) 1 f fd ["self", "kind", "text", "line", "column"] (spM K mg "Token" 5 F_Token_init) := by
  refine fn_M Fn sc_Token_init (fun cdv A outer s H E B hr => ?_)
  have tk := takes_of (X := cxOf (L2.CX P w) P w K mg base ["self", "kind", "text", "line", "column"] "Token.__init__" (defScope (inClass (top 19) 0)) f cdv A outer s H E) (E := E) rfl rfl rfl rfl
  have hp := passes_of (X := cxOf (L2.CX P w) P w K mg base ["self", "kind", "text", "line", "column"] "Token.__init__" (defScope (inClass (top 19) 0)) f cdv A outer s H E) (K := fun e s'' => L2.CX P w outer H s E e s'') rfl
  exact (qss_cons (qs_fld c_Token_kind (qe_var 0) (qe_var 1))
      (qss_cons (qs_fld c_Token_text (qe_var 0) (qe_var 2))
      (qss_cons (qs_fld c_Token_line (qe_var 0) (qe_var 3))
      (qss_one (qs_fld c_Token_column (qe_var 0) (qe_var 4))))))

theorem sc_read_token : FnScope ["row", "line", "column", "first", "word"] ["row", "line", "column"] (defScope (top 21)) := ⟨rfl, rfl, rfl, by decide +kernel, rfl, by decide +kernel, by decide +kernel⟩
theorem ok_read_token {f : Addr} {fd : FuncData} {dvs : List V} {kws : List (Str × V)} (Fn : FunD K "read_token" "read_token" (defArgs (top 21)) (defBody (top 21)) (defScope (top 21)) dvs kws f fd) (g_NAME : GStr mg "NAME" "name") (K_Token : MakeMOk P w K mg base "Token" 1 5 [] F_Token_init) (z_len : mg "len" = none) (g_MAX_LETTERS : GInt mg "MAX_LETTERS" 8) (R_SyntaxFault : RaiseXOk P w K mg base "SyntaxFault" ["line", "column"] 1) (g_KEYWORDS : GTupS K mg "KEYWORDS" ["round", "open", "valves", "start", "for", "pause", "rank"]) (g_KEYWORD : GStr mg "KEYWORD" "keyword") (g_LETTERS : GStr mg "LETTERS" "abcdefghijklmnopqrstuvwxyz") (C_run_end : CallPOk P w K mg base "run_end" 1 3 [] F_run_end) (g_DIGITS : GStr mg "DIGITS" "0123456789") (g_NUMBER : GStr mg "NUMBER" "number") (g_MAX_DIGITS : GInt mg "MAX_DIGITS" 2) (g_END_SIGN : GStr mg "END_SIGN" ";") (g_SIGN : GStr mg "SIGN" "sign") : FnOk P w K mg base (L2.CX P w) 3 f fd ["row", "line", "column"] (spP K mg 3 F_read_token) := by
  refine fn_P Fn sc_read_token (fun cdv A outer s H E B hr => ?_)
  have tk := takes_of (X := cxOf (L2.CX P w) P w K mg base ["row", "line", "column", "first", "word"] "read_token" (defScope (top 21)) f cdv A outer s H E) (E := E) rfl rfl rfl rfl
  have hp := passes_of (X := cxOf (L2.CX P w) P w K mg base ["row", "line", "column", "first", "word"] "read_token" (defScope (top 21)) f cdv A outer s H E) (K := fun e s'' => L2.CX P w outer H s E e s'') rfl
  exact (qss_cons (qs_set (i := 3) (qe_ix ix_seq os_ix (qe_var 0) (qe_var 2)) sc_read_token.nd)
      (qss_cons (qs_if (qt_cmp (op_eqD hr.units) os_eq (qe_var 3) (qe_gStr g_END_SIGN) (nomark _)) (qss_one (qs_ret (qe_kM K_Token hr (by decide) tk (qa_cons (qe_gStr g_SIGN) (qa_cons (qe_var 3) (qa_cons (qe_var 1) (qa_cons (qe_var 2) qa_nil))))))) qss_nil)
      (qss_cons (qs_if (qt_cmp (op_inA (hu65 hr)) os_in (qe_var 3) (qe_gStr g_DIGITS) (by with_unfolding_all rfl)) (qss_cons (qs_set (i := 4) (qe_slice sl_all ss_sl (qe_var 0) (qo_some (qe_var 2)) (qo_some (qe_cP C_run_end hr (by decide) tk (qa_cons (qe_var 0) (qa_cons (qe_var 2) (qa_cons (qe_gStr g_DIGITS) qa_nil)))))) sc_read_token.nd)
      (qss_cons (qs_if (PW.pt (qw_or (qt_cmp op_gt os_gt (qe_callB call_lenA cs_len z_len PySem.boot_len (qa_cons (qe_var 4) qa_nil)) (qe_gInt g_MAX_DIGITS) (nomark _)) (qw_or1 (PW.pt (qw_and (qt_cmp op_gt os_gt (qe_callB call_lenA cs_len z_len PySem.boot_len (qa_cons (qe_var 4) qa_nil)) qe_int (nomark _)) (qw_and1 (qt_cmp (op_eqD hr.units) os_eq (qe_var 3) qe_str (nomark _)))))))) (qss_one (qs_rX R_SyntaxFault rfl hr (by decide) tk (qa_cons (qe_var 1) (qa_cons (qe_var 2) qa_nil)))) qss_nil)
      (qss_one (qs_ret (qe_kM K_Token hr (by decide) tk (qa_cons (qe_gStr g_NUMBER) (qa_cons (qe_var 4) (qa_cons (qe_var 1) (qa_cons (qe_var 2) qa_nil))))))))) qss_nil)
      (qss_cons (qs_set (i := 4) (qe_slice sl_all ss_sl (qe_var 0) (qo_some (qe_var 2)) (qo_some (qe_cP C_run_end hr (by decide) tk (qa_cons (qe_var 0) (qa_cons (qe_var 2) (qa_cons (qe_gStr g_LETTERS) qa_nil)))))) sc_read_token.nd)
      (qss_cons (qs_if (qt_cmp (op_inA (hu65 hr)) os_in (qe_var 4) (qe_gTupS g_KEYWORDS) (by with_unfolding_all rfl)) (qss_one (qs_ret (qe_kM K_Token hr (by decide) tk (qa_cons (qe_gStr g_KEYWORD) (qa_cons (qe_var 4) (qa_cons (qe_var 1) (qa_cons (qe_var 2) qa_nil))))))) qss_nil)
      (qss_cons (qs_if (qt_not (qt_chain op_le os_le op_le os_le qe_int (qe_callB call_lenA cs_len z_len PySem.boot_len (qa_cons (qe_var 4) qa_nil)) (qe_gInt g_MAX_LETTERS))) (qss_one (qs_rX R_SyntaxFault rfl hr (by decide) tk (qa_cons (qe_var 1) (qa_cons (qe_var 2) qa_nil)))) qss_nil)
      (qss_one (qs_ret (qe_kM K_Token hr (by decide) tk (qa_cons (qe_gStr g_NAME) (qa_cons (qe_var 4) (qa_cons (qe_var 1) (qa_cons (qe_var 2) qa_nil)))))))))))))

theorem sc_tokenize : FnScope ["source", "tokens", "rows", "line", "row", "column", "token"] ["source"] (defScope (top 22)) := ⟨rfl, rfl, rfl, by decide +kernel, rfl, by decide +kernel, by decide +kernel⟩
theorem ok_tokenize {f : Addr} {fd : FuncData} {dvs : List V} {kws : List (Str × V)} (Fn : FunD K "tokenize" "tokenize" (defArgs (top 22)) (defBody (top 22)) (defScope (top 22)) dvs kws f fd) (z_len : mg "len" = none) (g_END : GStr mg "END" "end") (K_Token : MakeMOk P w K mg base "Token" 1 5 [] F_Token_init) (z_enumerate : mg "enumerate" = none) (g_SPACES : GStr mg "SPACES" " \n") (c_Token_text : ClsF K mg ["Token"] "text") (C_read_token : CallPOk P w K mg base "read_token" 3 3 [] F_read_token) : FnOk P w K mg base (L2.CX P w) 4 f fd ["source"] (spP K mg 1 F_tokenize) := by
  refine fn_P Fn sc_tokenize (fun cdv A outer s H E B hr => ?_)
  have tk := takes_of (X := cxOf (L2.CX P w) P w K mg base ["source", "tokens", "rows", "line", "row", "column", "token"] "tokenize" (defScope (top 22)) f cdv A outer s H E) (E := E) rfl rfl rfl rfl
  have hp := passes_of (X := cxOf (L2.CX P w) P w K mg base ["source", "tokens", "rows", "line", "row", "column", "token"] "tokenize" (defScope (top 22)) f cdv A outer s H E) (K := fun e s'' => L2.CX P w outer H s E e s'') rfl
  exact (qss_cons (qs_set (i := 1) (qe_lstO qa_nil) sc_tokenize.nd)
      (qss_cons (qs_set (i := 2) (qe_bm PySem.F.plainAttrs_str PySem.F.slot_str_split PySem.F.type_str_split mt_split ms_split (qe_var 0) (qa_cons qe_str qa_nil)) sc_tokenize.nd)
      (qss_cons (qs_for hp rfl (qi_enum z_enumerate (qa_cons (qe_var 2) qa_nil)) (qg_tup rfl (qgs_cons (qg_name (i := 3) sc_tokenize.nd) (qgs_cons (qg_name (i := 4) sc_tokenize.nd) qgs_nil))) (qss_cons (qs_set (i := 5) qe_int sc_tokenize.nd)
      (qss_one (qs_while hp (qt_cmp op_lt os_lt (qe_var 5) (qe_callB call_lenA cs_len z_len PySem.boot_len (qa_cons (qe_var 4) qa_nil)) (nomark _)) (qss_one (qs_if (qt_cmp (op_inA (hu65 hr)) os_in (qe_ix ix_seq os_ix (qe_var 4) (qe_var 5)) (qe_gStr g_SPACES) (by with_unfolding_all rfl)) (qss_one (qs_aug (i := 5) sc_tokenize.nd ip_add is_add qe_int)) (qss_cons (qs_set (i := 6) (qe_cP C_read_token hr (by decide) tk (qa_cons (qe_var 4) (qa_cons (qe_var 3) (qa_cons (qe_var 5) qa_nil)))) sc_tokenize.nd)
      (qss_cons (qs_expr (qe_bm PySem.F.plainAttrs_list PySem.F.slot_list_append PySem.F.type_list_append mt_append ms_append (qe_var 1) (qa_cons (qe_var 6) qa_nil)))
      (qss_one (qs_aug (i := 5) sc_tokenize.nd ip_add is_add (qe_callB call_lenA cs_len z_len PySem.boot_len (qa_cons (qe_fld c_Token_text (qe_var 6)) qa_nil))))))))))))
      (qss_one (qs_ret (qe_op op_addA os_add (qe_var 1) (qe_lst (qa_cons (qe_kM K_Token hr (by decide) tk (qa_cons (qe_gStr g_END) (qa_cons qe_str (qa_cons (qe_callB call_lenA cs_len z_len PySem.boot_len (qa_cons (qe_var 2) qa_nil)) (qa_cons qe_int qa_nil))))) qa_nil))))))))

theorem sc_Plan_init : FnScope ["self", "length", "most", "names", "starts", "paused", "ranks"] ["self", "length", "most", "names", "starts", "paused", "ranks"] (defScope (inClass (top 29) 0)) := ⟨rfl, rfl, rfl, by decide +kernel, rfl, by decide +kernel, by decide +kernel⟩
theorem ok_Plan_init {f : Addr} {fd : FuncData} {dvs : List V} {kws : List (Str × V)} (Fn : FunD K "__init__" "Plan.__init__" (defArgs (inClass (top 29) 0)) (defBody (inClass (top 29) 0)) (defScope (inClass (top 29) 0)) dvs kws f fd) (c_Plan_ranks : ClsF K mg ["Plan"] "ranks") (c_Plan_paused : ClsF K mg ["Plan"] "paused") (c_Plan_starts : ClsF K mg ["Plan"] "starts") (c_Plan_names : ClsF K mg ["Plan"] "names") (c_Plan_most : ClsF K mg ["Plan"] "most") (c_Plan_length : ClsF K mg ["Plan"] "length") : FnOk P w K mg base (L2.CX P w) 1 f fd ["self", "length", "most", "names", "starts", "paused", "ranks"] (spM K mg "Plan" 7 F_Plan_init) := by
  refine fn_M Fn sc_Plan_init (fun cdv A outer s H E B hr => ?_)
  have tk := takes_of (X := cxOf (L2.CX P w) P w K mg base ["self", "length", "most", "names", "starts", "paused", "ranks"] "Plan.__init__" (defScope (inClass (top 29) 0)) f cdv A outer s H E) (E := E) rfl rfl rfl rfl
  have hp := passes_of (X := cxOf (L2.CX P w) P w K mg base ["self", "length", "most", "names", "starts", "paused", "ranks"] "Plan.__init__" (defScope (inClass (top 29) 0)) f cdv A outer s H E) (K := fun e s'' => L2.CX P w outer H s E e s'') rfl
  exact (qss_cons (qs_fld c_Plan_length (qe_var 0) (qe_var 1))
      (qss_cons (qs_fld c_Plan_most (qe_var 0) (qe_var 2))
      (qss_cons (qs_fld c_Plan_names (qe_var 0) (qe_var 3))
      (qss_cons (qs_fld c_Plan_starts (qe_var 0) (qe_var 4))
      (qss_cons (qs_fld c_Plan_paused (qe_var 0) (qe_var 5))
      (qss_one (qs_fld c_Plan_ranks (qe_var 0) (qe_var 6))))))))

theorem sc_Parser_init : FnScope ["self", "tokens"] ["self", "tokens"] (defScope (inClass (top 30) 0)) := ⟨rfl, rfl, rfl, by decide +kernel, rfl, by decide +kernel, by decide +kernel⟩
theorem ok_Parser_init {f : Addr} {fd : FuncData} {dvs : List V} {kws : List (Str × V)} (Fn : FunD K "__init__" "Parser.__init__" (defArgs (inClass (top 30) 0)) (defBody (inClass (top 30) 0)) (defScope (inClass (top 30) 0)) dvs kws f fd) (c_Parser_ranks : ClsF K mg ["Parser"] "ranks") (c_Parser_pauses : ClsF K mg ["Parser"] "pauses") (c_Parser_starts : ClsF K mg ["Parser"] "starts") (c_Parser_names : ClsF K mg ["Parser"] "names") (c_Parser_faults : ClsF K mg ["Parser"] "faults") (c_Parser_at : ClsF K mg ["Parser"] "at") (c_Parser_tokens : ClsF K mg ["Parser"] "tokens") : FnOk P w K mg base (L2.CX P w) 1 f fd ["self", "tokens"] (spO K mg 2 F_Parser_init) := by
  refine fn_O Fn sc_Parser_init (fun cdv A outer s H E B hr => ?_)
  have tk := takes_of (X := cxOf (L2.CX P w) P w K mg base ["self", "tokens"] "Parser.__init__" (defScope (inClass (top 30) 0)) f cdv A outer s H E) (E := E) rfl rfl rfl rfl
  have hp := passes_of (X := cxOf (L2.CX P w) P w K mg base ["self", "tokens"] "Parser.__init__" (defScope (inClass (top 30) 0)) f cdv A outer s H E) (K := fun e s'' => L2.CX P w outer H s E e s'') rfl
  exact (qss_cons (qs_fld c_Parser_tokens (qe_var 0) (qe_var 1))
      (qss_cons (qs_fld c_Parser_at (qe_var 0) qe_int)
      (qss_cons (qs_fld c_Parser_faults (qe_var 0) (qe_lstO qa_nil))
      (qss_cons (qs_fld c_Parser_names (qe_var 0) (qe_lstO qa_nil))
      (qss_cons (qs_fld c_Parser_starts (qe_var 0) (qe_lstO qa_nil))
      (qss_cons (qs_fld c_Parser_pauses (qe_var 0) (qe_lstO qa_nil))
      (qss_one (qs_fld c_Parser_ranks (qe_var 0) qe_non))))))))

theorem sc_Parser_peek : FnScope ["self"] ["self"] (defScope (inClass (top 30) 1)) := ⟨rfl, rfl, rfl, by decide +kernel, rfl, by decide +kernel, by decide +kernel⟩
theorem ok_Parser_peek {f : Addr} {fd : FuncData} {dvs : List V} {kws : List (Str × V)} (Fn : FunD K "peek" "Parser.peek" (defArgs (inClass (top 30) 1)) (defBody (inClass (top 30) 1)) (defScope (inClass (top 30) 1)) dvs kws f fd) (c_Parser_tokens : ClsF K mg ["Parser"] "tokens") (c_Parser_at : ClsF K mg ["Parser"] "at") : FnOk P w K mg base (L2.CX P w) 1 f fd ["self"] (spO K mg 1 F_Parser_peek) := by
  refine fn_C Fn sc_Parser_peek (fun cdv A outer s H E B hr => ?_)
  have tk := takes_of (X := cxOf (L2.CX P w) P w K mg base ["self"] "Parser.peek" (defScope (inClass (top 30) 1)) f cdv A outer s H E) (E := E) rfl rfl rfl rfl
  have hp := passes_of (X := cxOf (L2.CX P w) P w K mg base ["self"] "Parser.peek" (defScope (inClass (top 30) 1)) f cdv A outer s H E) (K := fun e s'' => L2.CX P w outer H s E e s'') rfl
  exact (qss_one (qs_ret (qe_ix ix_seq os_ix (qe_fld c_Parser_tokens (qe_var 0)) (qe_fld c_Parser_at (qe_var 0)))))

theorem sc_Parser_fail : FnScope ["self", "token"] ["self"] (defScope (inClass (top 30) 2)) := ⟨rfl, rfl, rfl, by decide +kernel, rfl, by decide +kernel, by decide +kernel⟩
theorem ok_Parser_fail {f : Addr} {fd : FuncData} {dvs : List V} {kws : List (Str × V)} (Fn : FunD K "fail" "Parser.fail" (defArgs (inClass (top 30) 2)) (defBody (inClass (top 30) 2)) (defScope (inClass (top 30) 2)) dvs kws f fd) (c_Token_column : ClsF K mg ["Token"] "column") (c_Token_line : ClsF K mg ["Token"] "line") (R_SyntaxFault : RaiseXOk P w K mg base "SyntaxFault" ["line", "column"] 1) (M_Parser_peek : MethOOk P w K mg base "Parser" "peek" 1 1 [] F_Parser_peek) : FnOk P w K mg base (L2.CX P w) 3 f fd ["self"] (spO K mg 1 F_Parser_fail) := by
  refine fn_C Fn sc_Parser_fail (fun cdv A outer s H E B hr => ?_)
  have tk := takes_of (X := cxOf (L2.CX P w) P w K mg base ["self", "token"] "Parser.fail" (defScope (inClass (top 30) 2)) f cdv A outer s H E) (E := E) rfl rfl rfl rfl
  have hp := passes_of (X := cxOf (L2.CX P w) P w K mg base ["self", "token"] "Parser.fail" (defScope (inClass (top 30) 2)) f cdv A outer s H E) (K := fun e s'' => L2.CX P w outer H s E e s'') rfl
  exact (qss_cons (qs_set (i := 1) (qe_mO0 M_Parser_peek hr (by decide) tk (qe_var 0)) sc_Parser_fail.nd)
      (qss_one (qs_rX R_SyntaxFault rfl hr (by decide) tk (qa_cons (qe_fld c_Token_line (qe_var 1)) (qa_cons (qe_fld c_Token_column (qe_var 1)) qa_nil)))))

theorem sc_Parser_found : FnScope ["self", "reason", "token"] ["self", "reason", "token"] (defScope (inClass (top 30) 3)) := ⟨rfl, rfl, rfl, by decide +kernel, rfl, by decide +kernel, by decide +kernel⟩
theorem ok_Parser_found {f : Addr} {fd : FuncData} {dvs : List V} {kws : List (Str × V)} (Fn : FunD K "found" "Parser.found" (defArgs (inClass (top 30) 3)) (defBody (inClass (top 30) 3)) (defScope (inClass (top 30) 3)) dvs kws f fd) (c_Parser_faults : ClsF K mg ["Parser"] "faults") (z_len : mg "len" = none) (c_Token_column : ClsF K mg ["Token"] "column") (c_Token_line : ClsF K mg ["Token"] "line") : FnOk P w K mg base (L2.CX P w) 1 f fd ["self", "reason", "token"] (spO K mg 3 F_Parser_found) := by
  refine fn_C Fn sc_Parser_found (fun cdv A outer s H E B hr => ?_)
  have tk := takes_of (X := cxOf (L2.CX P w) P w K mg base ["self", "reason", "token"] "Parser.found" (defScope (inClass (top 30) 3)) f cdv A outer s H E) (E := E) rfl rfl rfl rfl
  have hp := passes_of (X := cxOf (L2.CX P w) P w K mg base ["self", "reason", "token"] "Parser.found" (defScope (inClass (top 30) 3)) f cdv A outer s H E) (K := fun e s'' => L2.CX P w outer H s E e s'') rfl
  exact (qss_one (qs_expr (qe_bm PySem.F.plainAttrs_list PySem.F.slot_list_append PySem.F.type_list_append mt_append ms_append (qe_fld c_Parser_faults (qe_var 0)) (qa_cons (qe_tup (qa_cons (qe_fld c_Token_line (qe_var 2)) (qa_cons (qe_fld c_Token_column (qe_var 2)) (qa_cons (qe_callB call_lenA cs_len z_len PySem.boot_len (qa_cons (qe_fld c_Parser_faults (qe_var 0)) qa_nil)) (qa_cons (qe_var 1) qa_nil))))) qa_nil))))

theorem sc_Parser_take : FnScope ["self", "kind", "token"] ["self", "kind"] (defScope (inClass (top 30) 4)) := ⟨rfl, rfl, rfl, by decide +kernel, rfl, by decide +kernel, by decide +kernel⟩
theorem ok_Parser_take {f : Addr} {fd : FuncData} {dvs : List V} {kws : List (Str × V)} (Fn : FunD K "take" "Parser.take" (defArgs (inClass (top 30) 4)) (defBody (inClass (top 30) 4)) (defScope (inClass (top 30) 4)) dvs kws f fd) (c_Parser_at : ClsF K mg ["Parser"] "at") (c_Token_kind : ClsF K mg ["Token"] "kind") (M_Parser_fail : MethOOk P w K mg base "Parser" "fail" 3 1 [] F_Parser_fail) (M_Parser_peek : MethOOk P w K mg base "Parser" "peek" 1 1 [] F_Parser_peek) : FnOk P w K mg base (L2.CX P w) 4 f fd ["self", "kind"] (spO K mg 2 F_Parser_take) := by
  refine fn_C Fn sc_Parser_take (fun cdv A outer s H E B hr => ?_)
  have tk := takes_of (X := cxOf (L2.CX P w) P w K mg base ["self", "kind", "token"] "Parser.take" (defScope (inClass (top 30) 4)) f cdv A outer s H E) (E := E) rfl rfl rfl rfl
  have hp := passes_of (X := cxOf (L2.CX P w) P w K mg base ["self", "kind", "token"] "Parser.take" (defScope (inClass (top 30) 4)) f cdv A outer s H E) (K := fun e s'' => L2.CX P w outer H s E e s'') rfl
  exact (qss_cons (qs_set (i := 2) (qe_mO0 M_Parser_peek hr (by decide) tk (qe_var 0)) sc_Parser_take.nd)
      (qss_cons (qs_if (qt_cmp (op_neD hr.units) os_ne (qe_fld c_Token_kind (qe_var 2)) (qe_var 1) (nomark _)) (qss_one (qs_expr (qe_mO0 M_Parser_fail hr (by decide) tk (qe_var 0)))) qss_nil)
      (qss_cons (qs_fldaug c_Parser_at in_add is_add (qe_var 0) qe_int)
      (qss_one (qs_ret (qe_var 2))))))

theorem sc_Parser_take_word : FnScope ["self", "word"] ["self", "word"] (defScope (inClass (top 30) 5)) := ⟨rfl, rfl, rfl, by decide +kernel, rfl, by decide +kernel, by decide +kernel⟩
theorem ok_Parser_take_word {f : Addr} {fd : FuncData} {dvs : List V} {kws : List (Str × V)} (Fn : FunD K "take_word" "Parser.take_word" (defArgs (inClass (top 30) 5)) (defBody (inClass (top 30) 5)) (defScope (inClass (top 30) 5)) dvs kws f fd) (c_Parser_at : ClsF K mg ["Parser"] "at") (M_Parser_peek : MethOOk P w K mg base "Parser" "peek" 1 1 [] F_Parser_peek) (c_Token_text : ClsF K mg ["Token"] "text") (M_Parser_fail : MethOOk P w K mg base "Parser" "fail" 3 1 [] F_Parser_fail) : FnOk P w K mg base (L2.CX P w) 4 f fd ["self", "word"] (spO K mg 2 F_Parser_take_word) := by
  refine fn_C Fn sc_Parser_take_word (fun cdv A outer s H E B hr => ?_)
  have tk := takes_of (X := cxOf (L2.CX P w) P w K mg base ["self", "word"] "Parser.take_word" (defScope (inClass (top 30) 5)) f cdv A outer s H E) (E := E) rfl rfl rfl rfl
  have hp := passes_of (X := cxOf (L2.CX P w) P w K mg base ["self", "word"] "Parser.take_word" (defScope (inClass (top 30) 5)) f cdv A outer s H E) (K := fun e s'' => L2.CX P w outer H s E e s'') rfl
  exact (qss_cons (qs_if (qt_cmp (op_neD hr.units) os_ne (qe_fld c_Token_text (qe_mO0 M_Parser_peek hr (by decide) tk (qe_var 0))) (qe_var 1) (nomark _)) (qss_one (qs_expr (qe_mO0 M_Parser_fail hr (by decide) tk (qe_var 0)))) qss_nil)
      (qss_one (qs_fldaug c_Parser_at in_add is_add (qe_var 0) qe_int)))

theorem sc_Parser_take_names : FnScope ["self", "tokens"] ["self"] (defScope (inClass (top 30) 6)) := ⟨rfl, rfl, rfl, by decide +kernel, rfl, by decide +kernel, by decide +kernel⟩
theorem ok_Parser_take_names {f : Addr} {fd : FuncData} {dvs : List V} {kws : List (Str × V)} (Fn : FunD K "take_names" "Parser.take_names" (defArgs (inClass (top 30) 6)) (defBody (inClass (top 30) 6)) (defScope (inClass (top 30) 6)) dvs kws f fd) (M_Parser_take_word : MethOOk P w K mg base "Parser" "take_word" 4 2 [] F_Parser_take_word) (g_END_SIGN : GStr mg "END_SIGN" ";") (M_Parser_peek : MethOOk P w K mg base "Parser" "peek" 1 1 [] F_Parser_peek) (c_Token_kind : ClsF K mg ["Token"] "kind") (g_NAME : GStr mg "NAME" "name") (M_Parser_take : MethOOk P w K mg base "Parser" "take" 4 2 [] F_Parser_take) : FnOk P w K mg base (L2.CX P w) 5 f fd ["self"] (spO K mg 1 F_Parser_take_names) := by
  refine fn_C Fn sc_Parser_take_names (fun cdv A outer s H E B hr => ?_)
  have tk := takes_of (X := cxOf (L2.CX P w) P w K mg base ["self", "tokens"] "Parser.take_names" (defScope (inClass (top 30) 6)) f cdv A outer s H E) (E := E) rfl rfl rfl rfl
  have hp := passes_of (X := cxOf (L2.CX P w) P w K mg base ["self", "tokens"] "Parser.take_names" (defScope (inClass (top 30) 6)) f cdv A outer s H E) (K := fun e s'' => L2.CX P w outer H s E e s'') rfl
  exact (qss_cons (qs_set (i := 1) (qe_lstO (qa_cons (qe_mO M_Parser_take hr (by decide) tk (qe_var 0) (qa_cons (qe_gStr g_NAME) qa_nil)) qa_nil)) sc_Parser_take_names.nd)
      (qss_cons (qs_while hp (qt_cmp (op_eqD hr.units) os_eq (qe_fld c_Token_kind (qe_mO0 M_Parser_peek hr (by decide) tk (qe_var 0))) (qe_gStr g_NAME) (nomark _)) (qss_one (qs_expr (qe_bm PySem.F.plainAttrs_list PySem.F.slot_list_append PySem.F.type_list_append mt_append ms_append (qe_var 1) (qa_cons (qe_mO M_Parser_take hr (by decide) tk (qe_var 0) (qa_cons (qe_gStr g_NAME) qa_nil)) qa_nil)))))
      (qss_cons (qs_expr (qe_mO M_Parser_take_word hr (by decide) tk (qe_var 0) (qa_cons (qe_gStr g_END_SIGN) qa_nil)))
      (qss_one (qs_ret (qe_frz (qe_var 1)))))))

theorem sc_Parser_valve : FnScope ["self", "token"] ["self", "token"] (defScope (inClass (top 30) 7)) := ⟨rfl, rfl, rfl, by decide +kernel, rfl, by decide +kernel, by decide +kernel⟩
theorem ok_Parser_valve {f : Addr} {fd : FuncData} {dvs : List V} {kws : List (Str × V)} (Fn : FunD K "valve" "Parser.valve" (defArgs (inClass (top 30) 7)) (defBody (inClass (top 30) 7)) (defScope (inClass (top 30) 7)) dvs kws f fd) (M_Parser_found : MethOOk P w K mg base "Parser" "found" 1 3 [] F_Parser_found) (c_Token_text : ClsF K mg ["Token"] "text") (c_Parser_names : ClsF K mg ["Parser"] "names") : FnOk P w K mg base (L2.CX P w) 2 f fd ["self", "token"] (spO K mg 2 F_Parser_valve) := by
  refine fn_C Fn sc_Parser_valve (fun cdv A outer s H E B hr => ?_)
  have tk := takes_of (X := cxOf (L2.CX P w) P w K mg base ["self", "token"] "Parser.valve" (defScope (inClass (top 30) 7)) f cdv A outer s H E) (E := E) rfl rfl rfl rfl
  have hp := passes_of (X := cxOf (L2.CX P w) P w K mg base ["self", "token"] "Parser.valve" (defScope (inClass (top 30) 7)) f cdv A outer s H E) (K := fun e s'' => L2.CX P w outer H s E e s'') rfl
  exact (qss_cons (qs_if (qt_cmp (op_inA (hu65 hr)) os_in (qe_fld c_Token_text (qe_var 1)) (qe_fld c_Parser_names (qe_var 0)) (by with_unfolding_all rfl)) (qss_one (qs_ret (qe_bm PySem.F.plainAttrs_list PySem.F.slot_list_index PySem.F.type_list_index (mt_indexD (hu65 hr)) ms_index (qe_fld c_Parser_names (qe_var 0)) (qa_cons (qe_fld c_Token_text (qe_var 1)) qa_nil)))) qss_nil)
      (qss_cons (qs_expr (qe_mO M_Parser_found hr (by decide) tk (qe_var 0) (qa_cons qe_str (qa_cons (qe_var 1) qa_nil))))
      (qss_one (qs_ret qe_int))))

theorem sc_Parser_parse_number : FnScope ["self", "word", "high", "token"] ["self", "word", "high"] (defScope (inClass (top 30) 8)) := ⟨rfl, rfl, rfl, by decide +kernel, rfl, by decide +kernel, by decide +kernel⟩
theorem ok_Parser_parse_number {f : Addr} {fd : FuncData} {dvs : List V} {kws : List (Str × V)} (Fn : FunD K "parse_number" "Parser.parse_number" (defArgs (inClass (top 30) 8)) (defBody (inClass (top 30) 8)) (defScope (inClass (top 30) 8)) dvs kws f fd) (z_int : mg "int" = none) (c_Token_text : ClsF K mg ["Token"] "text") (M_Parser_found : MethOOk P w K mg base "Parser" "found" 1 3 [] F_Parser_found) (M_Parser_take_word : MethOOk P w K mg base "Parser" "take_word" 4 2 [] F_Parser_take_word) (g_END_SIGN : GStr mg "END_SIGN" ";") (M_Parser_take : MethOOk P w K mg base "Parser" "take" 4 2 [] F_Parser_take) (g_NUMBER : GStr mg "NUMBER" "number") : FnOk P w K mg base (L2.CX P w) 5 f fd ["self", "word", "high"] (spO K mg 3 F_Parser_parse_number) := by
  refine fn_C Fn sc_Parser_parse_number (fun cdv A outer s H E B hr => ?_)
  have tk := takes_of (X := cxOf (L2.CX P w) P w K mg base ["self", "word", "high", "token"] "Parser.parse_number" (defScope (inClass (top 30) 8)) f cdv A outer s H E) (E := E) rfl rfl rfl rfl
  have hp := passes_of (X := cxOf (L2.CX P w) P w K mg base ["self", "word", "high", "token"] "Parser.parse_number" (defScope (inClass (top 30) 8)) f cdv A outer s H E) (K := fun e s'' => L2.CX P w outer H s E e s'') rfl
  exact (qss_cons (qs_expr (qe_mO M_Parser_take_word hr (by decide) tk (qe_var 0) (qa_cons (qe_var 1) qa_nil)))
      (qss_cons (qs_set (i := 3) (qe_mO M_Parser_take hr (by decide) tk (qe_var 0) (qa_cons (qe_gStr g_NUMBER) qa_nil)) sc_Parser_parse_number.nd)
      (qss_cons (qs_expr (qe_mO M_Parser_take_word hr (by decide) tk (qe_var 0) (qa_cons (qe_gStr g_END_SIGN) qa_nil)))
      (qss_cons (qs_if (qt_not (qt_chain op_le os_le op_le os_le qe_int (qe_callTy call_intA cs_int z_int (by decide +kernel) (qa_cons (qe_fld c_Token_text (qe_var 3)) qa_nil)) (qe_var 2))) (qss_one (qs_expr (qe_mO M_Parser_found hr (by decide) tk (qe_var 0) (qa_cons (qe_var 1) (qa_cons (qe_var 3) qa_nil))))) qss_nil)
      (qss_one (qs_ret (qe_callTy call_intA cs_int z_int (by decide +kernel) (qa_cons (qe_fld c_Token_text (qe_var 3)) qa_nil))))))))

theorem sc_Parser_parse_valves : FnScope ["self", "token"] ["self"] (defScope (inClass (top 30) 9)) := ⟨rfl, rfl, rfl, by decide +kernel, rfl, by decide +kernel, by decide +kernel⟩
theorem ok_Parser_parse_valves {f : Addr} {fd : FuncData} {dvs : List V} {kws : List (Str × V)} (Fn : FunD K "parse_valves" "Parser.parse_valves" (defArgs (inClass (top 30) 9)) (defBody (inClass (top 30) 9)) (defScope (inClass (top 30) 9)) dvs kws f fd) (M_Parser_take_names : MethOOk P w K mg base "Parser" "take_names" 5 1 [] F_Parser_take_names) (c_Token_text : ClsF K mg ["Token"] "text") (c_Parser_names : ClsF K mg ["Parser"] "names") (M_Parser_found : MethOOk P w K mg base "Parser" "found" 1 3 [] F_Parser_found) (z_len : mg "len" = none) (g_MAX_VALVES : GInt mg "MAX_VALVES" 8) (M_Parser_take_word : MethOOk P w K mg base "Parser" "take_word" 4 2 [] F_Parser_take_word) : FnOk P w K mg base (L2.CX P w) 6 f fd ["self"] (spO K mg 1 F_Parser_parse_valves) := by
  refine fn_C Fn sc_Parser_parse_valves (fun cdv A outer s H E B hr => ?_)
  have tk := takes_of (X := cxOf (L2.CX P w) P w K mg base ["self", "token"] "Parser.parse_valves" (defScope (inClass (top 30) 9)) f cdv A outer s H E) (E := E) rfl rfl rfl rfl
  have hp := passes_of (X := cxOf (L2.CX P w) P w K mg base ["self", "token"] "Parser.parse_valves" (defScope (inClass (top 30) 9)) f cdv A outer s H E) (K := fun e s'' => L2.CX P w outer H s E e s'') rfl
  exact (qss_cons (qs_expr (qe_mO M_Parser_take_word hr (by decide) tk (qe_var 0) (qa_cons qe_str qa_nil)))
      (qss_one (qs_for hp rfl (qi_seq (qe_mO0 M_Parser_take_names hr (by decide) tk (qe_var 0))) (qg_name (i := 1) sc_Parser_parse_valves.nd) (qss_one (qs_if (qt_cmp (op_inA (hu65 hr)) os_in (qe_fld c_Token_text (qe_var 1)) (qe_fld c_Parser_names (qe_var 0)) (by with_unfolding_all rfl)) (qss_one (qs_expr (qe_mO M_Parser_found hr (by decide) tk (qe_var 0) (qa_cons qe_str (qa_cons (qe_var 1) qa_nil))))) (qss_one (qs_if (qt_cmp (op_eqD hr.units) os_eq (qe_callB call_lenA cs_len z_len PySem.boot_len (qa_cons (qe_fld c_Parser_names (qe_var 0)) qa_nil)) (qe_gInt g_MAX_VALVES) (nomark _)) (qss_one (qs_expr (qe_mO M_Parser_found hr (by decide) tk (qe_var 0) (qa_cons qe_str (qa_cons (qe_var 1) qa_nil))))) (qss_one (qs_expr (qe_bm PySem.F.plainAttrs_list PySem.F.slot_list_append PySem.F.type_list_append mt_append ms_append (qe_fld c_Parser_names (qe_var 0)) (qa_cons (qe_fld c_Token_text (qe_var 1)) qa_nil)))))))))))

theorem sc_Parser_parse_start : FnScope ["self", "length", "keyword", "valve", "tick", "water"] ["self", "length"] (defScope (inClass (top 30) 10)) := ⟨rfl, rfl, rfl, by decide +kernel, rfl, by decide +kernel, by decide +kernel⟩
theorem ok_Parser_parse_start {f : Addr} {fd : FuncData} {dvs : List V} {kws : List (Str × V)} (Fn : FunD K "parse_start" "Parser.parse_start" (defArgs (inClass (top 30) 10)) (defBody (inClass (top 30) 10)) (defScope (inClass (top 30) 10)) dvs kws f fd) (c_Parser_starts : ClsF K mg ["Parser"] "starts") (z_int : mg "int" = none) (c_Token_text : ClsF K mg ["Token"] "text") (z_len : mg "len" = none) (g_MAX_STARTS : GInt mg "MAX_STARTS" 20) (M_Parser_found : MethOOk P w K mg base "Parser" "found" 1 3 [] F_Parser_found) (g_MAX_LENGTH : GInt mg "MAX_LENGTH" 30) (M_Parser_take_word : MethOOk P w K mg base "Parser" "take_word" 4 2 [] F_Parser_take_word) (g_END_SIGN : GStr mg "END_SIGN" ";") (M_Parser_take : MethOOk P w K mg base "Parser" "take" 4 2 [] F_Parser_take) (g_NUMBER : GStr mg "NUMBER" "number") (M_Parser_valve : MethOOk P w K mg base "Parser" "valve" 2 2 [] F_Parser_valve) (g_NAME : GStr mg "NAME" "name") (M_Parser_peek : MethOOk P w K mg base "Parser" "peek" 1 1 [] F_Parser_peek) : FnOk P w K mg base (L2.CX P w) 5 f fd ["self", "length"] (spO K mg 2 F_Parser_parse_start) := by
  refine fn_C Fn sc_Parser_parse_start (fun cdv A outer s H E B hr => ?_)
  have tk := takes_of (X := cxOf (L2.CX P w) P w K mg base ["self", "length", "keyword", "valve", "tick", "water"] "Parser.parse_start" (defScope (inClass (top 30) 10)) f cdv A outer s H E) (E := E) rfl rfl rfl rfl
  have hp := passes_of (X := cxOf (L2.CX P w) P w K mg base ["self", "length", "keyword", "valve", "tick", "water"] "Parser.parse_start" (defScope (inClass (top 30) 10)) f cdv A outer s H E) (K := fun e s'' => L2.CX P w outer H s E e s'') rfl
  exact (qss_cons (qs_set (i := 2) (qe_mO0 M_Parser_peek hr (by decide) tk (qe_var 0)) sc_Parser_parse_start.nd)
      (qss_cons (qs_expr (qe_mO M_Parser_take_word hr (by decide) tk (qe_var 0) (qa_cons qe_str qa_nil)))
      (qss_cons (qs_set (i := 3) (qe_mO M_Parser_valve hr (by decide) tk (qe_var 0) (qa_cons (qe_mO M_Parser_take hr (by decide) tk (qe_var 0) (qa_cons (qe_gStr g_NAME) qa_nil)) qa_nil)) sc_Parser_parse_start.nd)
      (qss_cons (qs_set (i := 4) (qe_mO M_Parser_take hr (by decide) tk (qe_var 0) (qa_cons (qe_gStr g_NUMBER) qa_nil)) sc_Parser_parse_start.nd)
      (qss_cons (qs_expr (qe_mO M_Parser_take_word hr (by decide) tk (qe_var 0) (qa_cons qe_str qa_nil)))
      (qss_cons (qs_set (i := 5) (qe_mO M_Parser_take hr (by decide) tk (qe_var 0) (qa_cons (qe_gStr g_NUMBER) qa_nil)) sc_Parser_parse_start.nd)
      (qss_cons (qs_expr (qe_mO M_Parser_take_word hr (by decide) tk (qe_var 0) (qa_cons (qe_gStr g_END_SIGN) qa_nil)))
      (qss_cons (qs_if (qt_cmp op_ge os_ge (qe_callTy call_intA cs_int z_int (by decide +kernel) (qa_cons (qe_fld c_Token_text (qe_var 4)) qa_nil)) (qe_var 1) (nomark _)) (qss_one (qs_expr (qe_mO M_Parser_found hr (by decide) tk (qe_var 0) (qa_cons qe_str (qa_cons (qe_var 4) qa_nil))))) qss_nil)
      (qss_cons (qs_if (qt_not (qt_chain op_le os_le op_le os_le qe_int (qe_callTy call_intA cs_int z_int (by decide +kernel) (qa_cons (qe_fld c_Token_text (qe_var 5)) qa_nil)) (qe_gInt g_MAX_LENGTH))) (qss_one (qs_expr (qe_mO M_Parser_found hr (by decide) tk (qe_var 0) (qa_cons qe_str (qa_cons (qe_var 5) qa_nil))))) qss_nil)
      (qss_cons (qs_if (qt_cmp (op_eqD hr.units) os_eq (qe_callB call_lenA cs_len z_len PySem.boot_len (qa_cons (qe_fld c_Parser_starts (qe_var 0)) qa_nil)) (qe_gInt g_MAX_STARTS) (nomark _)) (qss_one (qs_expr (qe_mO M_Parser_found hr (by decide) tk (qe_var 0) (qa_cons qe_str (qa_cons (qe_var 2) qa_nil))))) qss_nil)
      (qss_one (qs_expr (qe_bm PySem.F.plainAttrs_list PySem.F.slot_list_append PySem.F.type_list_append mt_append ms_append (qe_fld c_Parser_starts (qe_var 0)) (qa_cons (qe_tup (qa_cons (qe_callTy call_intA cs_int z_int (by decide +kernel) (qa_cons (qe_fld c_Token_text (qe_var 4)) qa_nil)) (qa_cons (qe_var 3) (qa_cons (qe_callTy call_intA cs_int z_int (by decide +kernel) (qa_cons (qe_fld c_Token_text (qe_var 5)) qa_nil)) qa_nil)))) qa_nil))))))))))))))

theorem sc_Parser_parse_pause : FnScope ["self", "length", "first", "last"] ["self", "length"] (defScope (inClass (top 30) 11)) := ⟨rfl, rfl, rfl, by decide +kernel, rfl, by decide +kernel, by decide +kernel⟩
theorem ok_Parser_parse_pause {f : Addr} {fd : FuncData} {dvs : List V} {kws : List (Str × V)} (Fn : FunD K "parse_pause" "Parser.parse_pause" (defArgs (inClass (top 30) 11)) (defBody (inClass (top 30) 11)) (defScope (inClass (top 30) 11)) dvs kws f fd) (c_Parser_pauses : ClsF K mg ["Parser"] "pauses") (z_int : mg "int" = none) (c_Token_text : ClsF K mg ["Token"] "text") (M_Parser_found : MethOOk P w K mg base "Parser" "found" 1 3 [] F_Parser_found) (M_Parser_take_word : MethOOk P w K mg base "Parser" "take_word" 4 2 [] F_Parser_take_word) (g_END_SIGN : GStr mg "END_SIGN" ";") (M_Parser_take : MethOOk P w K mg base "Parser" "take" 4 2 [] F_Parser_take) (g_NUMBER : GStr mg "NUMBER" "number") : FnOk P w K mg base (L2.CX P w) 5 f fd ["self", "length"] (spO K mg 2 F_Parser_parse_pause) := by
  refine fn_C Fn sc_Parser_parse_pause (fun cdv A outer s H E B hr => ?_)
  have tk := takes_of (X := cxOf (L2.CX P w) P w K mg base ["self", "length", "first", "last"] "Parser.parse_pause" (defScope (inClass (top 30) 11)) f cdv A outer s H E) (E := E) rfl rfl rfl rfl
  have hp := passes_of (X := cxOf (L2.CX P w) P w K mg base ["self", "length", "first", "last"] "Parser.parse_pause" (defScope (inClass (top 30) 11)) f cdv A outer s H E) (K := fun e s'' => L2.CX P w outer H s E e s'') rfl
  exact (qss_cons (qs_expr (qe_mO M_Parser_take_word hr (by decide) tk (qe_var 0) (qa_cons qe_str qa_nil)))
      (qss_cons (qs_par (i := 2) (j := 3) rfl sc_Parser_parse_pause.nd (by decide) (qa_cons (qe_mO M_Parser_take hr (by decide) tk (qe_var 0) (qa_cons (qe_gStr g_NUMBER) qa_nil)) (qa_cons (qe_mO M_Parser_take hr (by decide) tk (qe_var 0) (qa_cons (qe_gStr g_NUMBER) qa_nil)) qa_nil)) rfl)
      (qss_cons (qs_expr (qe_mO M_Parser_take_word hr (by decide) tk (qe_var 0) (qa_cons (qe_gStr g_END_SIGN) qa_nil)))
      (qss_cons (qs_if (qt_cmp op_ge os_ge (qe_callTy call_intA cs_int z_int (by decide +kernel) (qa_cons (qe_fld c_Token_text (qe_var 3)) qa_nil)) (qe_var 1) (nomark _)) (qss_one (qs_expr (qe_mO M_Parser_found hr (by decide) tk (qe_var 0) (qa_cons qe_str (qa_cons (qe_var 3) qa_nil))))) (qss_one (qs_if (qt_cmp op_gt os_gt (qe_callTy call_intA cs_int z_int (by decide +kernel) (qa_cons (qe_fld c_Token_text (qe_var 2)) qa_nil)) (qe_callTy call_intA cs_int z_int (by decide +kernel) (qa_cons (qe_fld c_Token_text (qe_var 3)) qa_nil)) (nomark _)) (qss_one (qs_expr (qe_mO M_Parser_found hr (by decide) tk (qe_var 0) (qa_cons qe_str (qa_cons (qe_var 2) qa_nil))))) qss_nil)))
      (qss_one (qs_expr (qe_bm PySem.F.plainAttrs_list PySem.F.slot_list_append PySem.F.type_list_append mt_append ms_append (qe_fld c_Parser_pauses (qe_var 0)) (qa_cons (qe_tup (qa_cons (qe_callTy call_intA cs_int z_int (by decide +kernel) (qa_cons (qe_fld c_Token_text (qe_var 2)) qa_nil)) (qa_cons (qe_callTy call_intA cs_int z_int (by decide +kernel) (qa_cons (qe_fld c_Token_text (qe_var 3)) qa_nil)) qa_nil))) qa_nil))))))))

theorem sc_Parser_parse_rank : FnScope ["self", "keyword", "ranks", "token", "valve"] ["self"] (defScope (inClass (top 30) 12)) := ⟨rfl, rfl, rfl, by decide +kernel, rfl, by decide +kernel, by decide +kernel⟩
theorem ok_Parser_parse_rank {f : Addr} {fd : FuncData} {dvs : List V} {kws : List (Str × V)} (Fn : FunD K "parse_rank" "Parser.parse_rank" (defArgs (inClass (top 30) 12)) (defBody (inClass (top 30) 12)) (defScope (inClass (top 30) 12)) dvs kws f fd) (c_Parser_ranks : ClsF K mg ["Parser"] "ranks") (M_Parser_found : MethOOk P w K mg base "Parser" "found" 1 3 [] F_Parser_found) (M_Parser_take_names : MethOOk P w K mg base "Parser" "take_names" 5 1 [] F_Parser_take_names) (c_Token_text : ClsF K mg ["Token"] "text") (c_Parser_names : ClsF K mg ["Parser"] "names") (M_Parser_valve : MethOOk P w K mg base "Parser" "valve" 2 2 [] F_Parser_valve) (M_Parser_take_word : MethOOk P w K mg base "Parser" "take_word" 4 2 [] F_Parser_take_word) (M_Parser_peek : MethOOk P w K mg base "Parser" "peek" 1 1 [] F_Parser_peek) : FnOk P w K mg base (L2.CX P w) 6 f fd ["self"] (spO K mg 1 F_Parser_parse_rank) := by
  refine fn_C Fn sc_Parser_parse_rank (fun cdv A outer s H E B hr => ?_)
  have tk := takes_of (X := cxOf (L2.CX P w) P w K mg base ["self", "keyword", "ranks", "token", "valve"] "Parser.parse_rank" (defScope (inClass (top 30) 12)) f cdv A outer s H E) (E := E) rfl rfl rfl rfl
  have hp := passes_of (X := cxOf (L2.CX P w) P w K mg base ["self", "keyword", "ranks", "token", "valve"] "Parser.parse_rank" (defScope (inClass (top 30) 12)) f cdv A outer s H E) (K := fun e s'' => L2.CX P w outer H s E e s'') rfl
  exact (qss_cons (qs_set (i := 1) (qe_mO0 M_Parser_peek hr (by decide) tk (qe_var 0)) sc_Parser_parse_rank.nd)
      (qss_cons (qs_expr (qe_mO M_Parser_take_word hr (by decide) tk (qe_var 0) (qa_cons qe_str qa_nil)))
      (qss_cons (qs_set (i := 2) (qe_lstO qa_nil) sc_Parser_parse_rank.nd)
      (qss_cons (qs_for hp rfl (qi_seq (qe_mO0 M_Parser_take_names hr (by decide) tk (qe_var 0))) (qg_name (i := 3) sc_Parser_parse_rank.nd) (qss_cons (qs_set (i := 4) (qe_mO M_Parser_valve hr (by decide) tk (qe_var 0) (qa_cons (qe_var 3) qa_nil)) sc_Parser_parse_rank.nd)
      (qss_cons (qs_if (PW.pt (qw_and (qt_cmp (op_inA (hu65 hr)) os_in (qe_fld c_Token_text (qe_var 3)) (qe_fld c_Parser_names (qe_var 0)) (by with_unfolding_all rfl)) (qw_and1 (qt_cmp (op_inA (hu65 hr)) os_in (qe_var 4) (qe_var 2) (by with_unfolding_all rfl))))) (qss_one (qs_expr (qe_mO M_Parser_found hr (by decide) tk (qe_var 0) (qa_cons qe_str (qa_cons (qe_var 3) qa_nil))))) qss_nil)
      (qss_one (qs_expr (qe_bm PySem.F.plainAttrs_list PySem.F.slot_list_append PySem.F.type_list_append mt_append ms_append (qe_var 2) (qa_cons (qe_var 4) qa_nil)))))))
      (qss_cons (qs_if (qt_cmp op_notN os_notN (qe_fld c_Parser_ranks (qe_var 0)) qe_non (nomark _)) (qss_one (qs_expr (qe_mO M_Parser_found hr (by decide) tk (qe_var 0) (qa_cons qe_str (qa_cons (qe_var 1) qa_nil))))) qss_nil)
      (qss_one (qs_fld c_Parser_ranks (qe_var 0) (qe_frz (qe_var 2)))))))))

theorem sc_Parser_parse_plan : FnScope ["self", "length", "most", "line", "column", "number", "reason", "paused", "first", "last", "tick", "ranks", "valve", "starts"] ["self"] (defScope (inClass (top 30) 13)) := ⟨rfl, rfl, rfl, by decide +kernel, rfl, by decide +kernel, by decide +kernel⟩
theorem ok_Parser_parse_plan {f : Addr} {fd : FuncData} {dvs : List V} {kws : List (Str × V)} (Fn : FunD K "parse_plan" "Parser.parse_plan" (defArgs (inClass (top 30) 13)) (defBody (inClass (top 30) 13)) (defScope (inClass (top 30) 13)) dvs kws f fd) (Lam : LamOk K mg base fd "Parser.parse_plan") (z_tuple : mg "tuple" = none) (c_Parser_names : ClsF K mg ["Parser"] "names") (K_Plan : MakeMOk P w K mg base "Plan" 1 7 [] F_Plan_init) (z_sorted : mg "sorted" = none) (c_Parser_starts : ClsF K mg ["Parser"] "starts") (z_len : mg "len" = none) (z_range : mg "range" = none) (c_Parser_ranks : ClsF K mg ["Parser"] "ranks") (z_any : mg "any" = none) (c_Parser_pauses : ClsF K mg ["Parser"] "pauses") (c_Parser_faults : ClsF K mg ["Parser"] "faults") (M_Parser_peek : MethOOk P w K mg base "Parser" "peek" 1 1 [] F_Parser_peek) (c_Token_kind : ClsF K mg ["Token"] "kind") (g_END : GStr mg "END" "end") (c_Token_text : ClsF K mg ["Token"] "text") (M_Parser_fail : MethOOk P w K mg base "Parser" "fail" 3 1 [] F_Parser_fail) (M_Parser_parse_rank : MethOOk P w K mg base "Parser" "parse_rank" 6 1 [] F_Parser_parse_rank) (M_Parser_parse_pause : MethOOk P w K mg base "Parser" "parse_pause" 5 2 [] F_Parser_parse_pause) (M_Parser_parse_start : MethOOk P w K mg base "Parser" "parse_start" 5 2 [] F_Parser_parse_start) (M_Parser_parse_valves : MethOOk P w K mg base "Parser" "parse_valves" 6 1 [] F_Parser_parse_valves) (M_Parser_parse_number : MethOOk P w K mg base "Parser" "parse_number" 5 3 [] F_Parser_parse_number) (g_MAX_OPEN : GInt mg "MAX_OPEN" 9) (g_MAX_ROUND : GInt mg "MAX_ROUND" 60) : FnOk P w K mg base (L2.CX P w) 7 f fd ["self"] (spO K mg 1 F_Parser_parse_plan) := by
  obtain ⟨c, PT, hcode, TB, it⟩ := Lam
  refine fn_CL Fn sc_Parser_parse_plan (fun cdv A outer s H E B hcd hr => ?_)
  have tk := takes_of (X := cxOf (L2.CX P w) P w K mg base ["self", "length", "most", "line", "column", "number", "reason", "paused", "first", "last", "tick", "ranks", "valve", "starts"] "Parser.parse_plan" (defScope (inClass (top 30) 13)) f cdv A outer s H E) (E := E) rfl rfl rfl rfl
  have hp := passes_of (X := cxOf (L2.CX P w) P w K mg base ["self", "length", "most", "line", "column", "number", "reason", "paused", "first", "last", "tick", "ranks", "valve", "starts"] "Parser.parse_plan" (defScope (inClass (top 30) 13)) f cdv A outer s H E) (K := fun e s'' => L2.CX P w outer H s E e s'') rfl
  exact (qss_cons (qs_set (i := 1) (qe_mO M_Parser_parse_number hr (by decide) tk (qe_var 0) (qa_cons qe_str (qa_cons (qe_gInt g_MAX_ROUND) qa_nil))) sc_Parser_parse_plan.nd)
      (qss_cons (qs_set (i := 2) (qe_mO M_Parser_parse_number hr (by decide) tk (qe_var 0) (qa_cons qe_str (qa_cons (qe_gInt g_MAX_OPEN) qa_nil))) sc_Parser_parse_plan.nd)
      (qss_cons (qs_expr (qe_mO0 M_Parser_parse_valves hr (by decide) tk (qe_var 0)))
      (qss_cons (qs_while hp (qt_cmp (op_neD hr.units) os_ne (qe_fld c_Token_kind (qe_mO0 M_Parser_peek hr (by decide) tk (qe_var 0))) (qe_gStr g_END) (nomark _)) (qss_one (qs_match (qe_fld c_Token_text (qe_mO0 M_Parser_peek hr (by decide) tk (qe_var 0))) (qmc_val (op_eqD hr.units) os_eq qe_str (qss_one (qs_expr (qe_mO M_Parser_parse_start hr (by decide) tk (qe_var 0) (qa_cons (qe_var 1) qa_nil)))) (qmc_val (op_eqD hr.units) os_eq qe_str (qss_one (qs_expr (qe_mO M_Parser_parse_pause hr (by decide) tk (qe_var 0) (qa_cons (qe_var 1) qa_nil)))) (qmc_val (op_eqD hr.units) os_eq qe_str (qss_one (qs_expr (qe_mO0 M_Parser_parse_rank hr (by decide) tk (qe_var 0)))) (qmc_any (qss_one (qs_expr (qe_mO0 M_Parser_fail hr (by decide) tk (qe_var 0)))))))))))
      (qss_cons (qs_if (qt_cmp (op_neD hr.units) os_ne (qe_fld c_Parser_faults (qe_var 0)) (qe_lst qa_nil) (nomark _)) (qss_cons qs_never
      (qss_one qs_never)) qss_nil)
      (qss_cons (qs_setLc (i := 7) rfl sc_Parser_parse_plan.nd (qi_range1 z_range (qa_cons (qe_var 1) qa_nil)) (blkOk_by (own := [("tick", 10)]) rfl) (cg_name (by decide)) (fun _ _ _ _ _ => (pg_name (i := 10) sc_Parser_parse_plan.nd rfl (by first | exact Or.inl rfl | exact Or.inr rfl))) (fun B _ _ _ _ _ => qts_nil) (fun B _ _ _ _ _ => (qe_callB (cr_any rfl) cs_any z_any (by decide +kernel) (qa_cons (qe_lc rfl sc_Parser_parse_plan.nd (qi_seq (qe_fld c_Parser_pauses (qe_var 0))) (blkOk_by (own := [("first", 8), ("last", 9)]) rfl) (cg_tup (cgs_cons (cg_name (by decide)) (cgs_cons (cg_name (by decide)) cgs_nil))) (fun _ _ _ _ _ => (pg_tup rfl (pgs_cons (pg_name (i := 8) sc_Parser_parse_plan.nd rfl (by first | exact Or.inl rfl | exact Or.inr rfl)) (pgs_cons (pg_name (i := 9) sc_Parser_parse_plan.nd rfl (by first | exact Or.inl rfl | exact Or.inr rfl)) pgs_nil)))) (fun B _ _ _ _ _ => qts_nil) (fun B _ _ _ _ _ => (qe_chain op_le os_le op_le os_le (qe_var 8) (qe_var 10) (qe_var 9)))) qa_nil))) (sw_true rfl rfl rfl (by decide +kernel)))
      (qss_cons (qs_set (i := 11) (qe_ifExp (qt_cmp op_notN os_notN (qe_fld c_Parser_ranks (qe_var 0)) qe_non (nomark _)) (qe_fld c_Parser_ranks (qe_var 0)) (qe_lst qa_nil)) sc_Parser_parse_plan.nd)
      (qss_cons (qs_set (i := 11) (qe_op op_addA os_add (qe_var 11) (qe_lc rfl sc_Parser_parse_plan.nd (qi_range1 z_range (qa_cons (qe_callB call_lenA cs_len z_len PySem.boot_len (qa_cons (qe_fld c_Parser_names (qe_var 0)) qa_nil)) qa_nil)) (blkOk_by (own := [("valve", 12)]) rfl) (cg_name (by decide)) (fun _ _ _ _ _ => (pg_name (i := 12) sc_Parser_parse_plan.nd rfl (by first | exact Or.inl rfl | exact Or.inr rfl))) (fun B _ _ _ _ _ => (qts_one (qt_cmp (op_notInA (hu65 hr)) os_notIn (qe_var 12) (qe_var 11) (by with_unfolding_all rfl)))) (fun B _ _ _ _ _ => (qe_var 12)))) sc_Parser_parse_plan.nd)
      (qss_cons (qs_set (i := 13) (qe_sortLam (k := 0) (hr.mono (by decide)) TB (hcd.symm.trans hcode) it z_sorted (qe_fld c_Parser_starts (qe_var 0))) sc_Parser_parse_plan.nd)
      (qss_one (qs_ret (qe_kM K_Plan hr (by decide) tk (qa_cons (qe_var 1) (qa_cons (qe_var 2) (qa_cons (qe_callTy call_tuple_of cs_tuple z_tuple (by decide +kernel) (qa_cons (qe_fld c_Parser_names (qe_var 0)) qa_nil)) (qa_cons (qe_var 13) (qa_cons (qe_var 7) (qa_cons (qe_var 11) qa_nil))))))))))))))))))

theorem sc_load : FnScope ["plan"] ["plan"] (defScope (top 31)) := ⟨rfl, rfl, rfl, by decide +kernel, rfl, by decide +kernel, by decide +kernel⟩
theorem ok_load {f : Addr} {fd : FuncData} {dvs : List V} {kws : List (Str × V)} (Fn : FunD K "load" "load" (defArgs (top 31)) (defBody (top 31)) (defScope (top 31)) dvs kws f fd) (C_tokenize : CallPOk P w K mg base "tokenize" 4 1 [] F_tokenize) (K_Parser : MakeOOk P w K mg base "Parser" 1 2 [] F_Parser_init) (M_Parser_parse_plan : MethOOk P w K mg base "Parser" "parse_plan" 7 1 [] F_Parser_parse_plan) : FnOk P w K mg base (L2.CX P w) 8 f fd ["plan"] (spP K mg 1 F_load) := by
  refine fn_P Fn sc_load (fun cdv A outer s H E B hr => ?_)
  have tk := takes_of (X := cxOf (L2.CX P w) P w K mg base ["plan"] "load" (defScope (top 31)) f cdv A outer s H E) (E := E) rfl rfl rfl rfl
  have hp := passes_of (X := cxOf (L2.CX P w) P w K mg base ["plan"] "load" (defScope (top 31)) f cdv A outer s H E) (K := fun e s'' => L2.CX P w outer H s E e s'') rfl
  exact (qss_one (qs_ret (qe_mO0 M_Parser_parse_plan hr (by decide) tk (qe_kO K_Parser hr (by decide) tk (qa_cons (qe_cP C_tokenize hr (by decide) tk (qa_cons (qe_var 0) qa_nil)) qa_nil)))))

theorem sc_runs_of : FnScope ["paused", "found", "tick", "is_paused"] ["paused"] (defScope (top 33)) := ⟨rfl, rfl, rfl, by decide +kernel, rfl, by decide +kernel, by decide +kernel⟩
theorem ok_runs_of {f : Addr} {fd : FuncData} {dvs : List V} {kws : List (Str × V)} (Fn : FunD K "runs_of" "runs_of" (defArgs (top 33)) (defBody (top 33)) (defScope (top 33)) dvs kws f fd) (z_enumerate : mg "enumerate" = none) : FnOk P w K mg base (L2.CX P w) 1 f fd ["paused"] (spP K mg 1 F_runs_of) := by
  refine fn_P Fn sc_runs_of (fun cdv A outer s H E B hr => ?_)
  have tk := takes_of (X := cxOf (L2.CX P w) P w K mg base ["paused", "found", "tick", "is_paused"] "runs_of" (defScope (top 33)) f cdv A outer s H E) (E := E) rfl rfl rfl rfl
  have hp := passes_of (X := cxOf (L2.CX P w) P w K mg base ["paused", "found", "tick", "is_paused"] "runs_of" (defScope (top 33)) f cdv A outer s H E) (K := fun e s'' => L2.CX P w outer H s E e s'') rfl
  exact (qss_cons (qs_set (i := 1) (qe_lstO qa_nil) sc_runs_of.nd)
      (qss_cons (qs_for hp rfl (qi_enum z_enumerate (qa_cons (qe_var 0) qa_nil)) (qg_tup rfl (qgs_cons (qg_name (i := 2) sc_runs_of.nd) (qgs_cons (qg_name (i := 3) sc_runs_of.nd) qgs_nil))) (qss_one (qs_if (PW.pt (qw_and (qt_val (qe_var 3)) (qw_and (qt_cmp op_gt os_gt (qe_var 2) qe_int (nomark _)) (qw_and1 (qt_val (qe_ix ix_seq os_ix (qe_var 0) (qe_op op_sub os_sub (qe_var 2) qe_int))))))) (qss_one (qs_setItem (qe_var 1) (qe_neg qe_int) (qe_tup (qa_cons (qe_ix ix_seq os_ix (qe_ix ix_seq os_ix (qe_var 1) (qe_neg qe_int)) qe_int) (qa_cons (qe_var 2) qa_nil))))) (qss_one (qs_if (qt_val (qe_var 3)) (qss_one (qs_expr (qe_bm PySem.F.plainAttrs_list PySem.F.slot_list_append PySem.F.type_list_append mt_append ms_append (qe_var 1) (qa_cons (qe_tup (qa_cons (qe_var 2) (qa_cons (qe_var 2) qa_nil))) qa_nil)))) qss_nil)))))
      (qss_one (qs_ret (qe_var 1)))))

theorem sc_format_parsed : FnScope ["parsed", "names", "lines", "valve", "tick", "water", "first", "last"] ["parsed"] (defScope (top 34)) := ⟨rfl, rfl, rfl, by decide +kernel, rfl, by decide +kernel, by decide +kernel⟩
theorem ok_format_parsed {f : Addr} {fd : FuncData} {dvs : List V} {kws : List (Str × V)} (Fn : FunD K "format_parsed" "format_parsed" (defArgs (top 34)) (defBody (top 34)) (defScope (top 34)) dvs kws f fd) (c_Plan_paused : ClsF K mg ["Plan"] "paused") (C_runs_of : CallPOk P w K mg base "runs_of" 1 1 [] F_runs_of) (z_str : mg "str" = none) (c_Plan_starts : ClsF K mg ["Plan"] "starts") (c_Plan_ranks : ClsF K mg ["Plan"] "ranks") (z_list : mg "list" = none) (z_len : mg "len" = none) (z_range : mg "range" = none) (c_Plan_most : ClsF K mg ["Plan"] "most") (c_Plan_length : ClsF K mg ["Plan"] "length") (c_Plan_names : ClsF K mg ["Plan"] "names") : FnOk P w K mg base (L2.CX P w) 2 f fd ["parsed"] (spP K mg 1 F_format_parsed) := by
  refine fn_P Fn sc_format_parsed (fun cdv A outer s H E B hr => ?_)
  have tk := takes_of (X := cxOf (L2.CX P w) P w K mg base ["parsed", "names", "lines", "valve", "tick", "water", "first", "last"] "format_parsed" (defScope (top 34)) f cdv A outer s H E) (E := E) rfl rfl rfl rfl
  have hp := passes_of (X := cxOf (L2.CX P w) P w K mg base ["parsed", "names", "lines", "valve", "tick", "water", "first", "last"] "format_parsed" (defScope (top 34)) f cdv A outer s H E) (K := fun e s'' => L2.CX P w outer H s E e s'') rfl
  exact (qss_cons (qs_set (i := 1) (qe_fld c_Plan_names (qe_var 0)) sc_format_parsed.nd)
      (qss_cons (qs_set (i := 2) (qe_lstO (qa_cons (qe_op op_addA os_add (qe_op op_addA os_add qe_str (qe_callTy call_str_int cs_str z_str (by decide +kernel) (qa_cons (qe_fld c_Plan_length (qe_var 0)) qa_nil))) qe_str) (qa_cons (qe_op op_addA os_add (qe_op op_addA os_add qe_str (qe_callTy call_str_int cs_str z_str (by decide +kernel) (qa_cons (qe_fld c_Plan_most (qe_var 0)) qa_nil))) qe_str) (qa_cons (qe_op op_addA os_add (qe_op op_addA os_add qe_str (qe_bm PySem.F.plainAttrs_str PySem.F.slot_str_join PySem.F.type_str_join mt_join ms_join qe_str (qa_cons (qe_var 1) qa_nil))) qe_str) qa_nil)))) sc_format_parsed.nd)
      (qss_cons (qs_if (qt_cmp (op_neD hr.units) os_ne (qe_fld c_Plan_ranks (qe_var 0)) (qe_lrg1 rfl z_list z_range (qe_callB call_lenA cs_len z_len PySem.boot_len (qa_cons (qe_var 1) qa_nil))) (nomark _)) (qss_one (qs_expr (qe_bm PySem.F.plainAttrs_list PySem.F.slot_list_append PySem.F.type_list_append mt_append ms_append (qe_var 2) (qa_cons (qe_op op_addA os_add (qe_op op_addA os_add qe_str (qe_bm PySem.F.plainAttrs_str PySem.F.slot_str_join PySem.F.type_str_join mt_join ms_join qe_str (qa_cons (qe_lc rfl sc_format_parsed.nd (qi_seq (qe_fld c_Plan_ranks (qe_var 0))) (blkOk_by (own := [("valve", 3)]) rfl) (cg_name (by decide)) (fun _ _ _ _ _ => (pg_name (i := 3) sc_format_parsed.nd rfl (by first | exact Or.inl rfl | exact Or.inr rfl))) (fun B _ _ _ _ _ => qts_nil) (fun B _ _ _ _ _ => (qe_ix ix_seq os_ix (qe_var 1) (qe_var 3)))) qa_nil))) qe_str) qa_nil)))) qss_nil)
      (qss_cons (qs_for hp rfl (qi_seq (qe_fld c_Plan_starts (qe_var 0))) (qg_tup rfl (qgs_cons (qg_name (i := 4) sc_format_parsed.nd) (qgs_cons (qg_name (i := 3) sc_format_parsed.nd) (qgs_cons (qg_name (i := 5) sc_format_parsed.nd) qgs_nil)))) (qss_one (qs_expr (qe_bm PySem.F.plainAttrs_list PySem.F.slot_list_append PySem.F.type_list_append mt_append ms_append (qe_var 2) (qa_cons (qe_op op_addA os_add (qe_op op_addA os_add (qe_op op_addA os_add (qe_op op_addA os_add (qe_op op_addA os_add (qe_op op_addA os_add qe_str (qe_ix ix_seq os_ix (qe_var 1) (qe_var 3))) qe_str) (qe_callTy call_str_int cs_str z_str (by decide +kernel) (qa_cons (qe_var 4) qa_nil))) qe_str) (qe_callTy call_str_int cs_str z_str (by decide +kernel) (qa_cons (qe_var 5) qa_nil))) qe_str) qa_nil)))))
      (qss_cons (qs_for hp rfl (qi_seq (qe_cP C_runs_of hr (by decide) tk (qa_cons (qe_fld c_Plan_paused (qe_var 0)) qa_nil))) (qg_tup rfl (qgs_cons (qg_name (i := 6) sc_format_parsed.nd) (qgs_cons (qg_name (i := 7) sc_format_parsed.nd) qgs_nil))) (qss_one (qs_expr (qe_bm PySem.F.plainAttrs_list PySem.F.slot_list_append PySem.F.type_list_append mt_append ms_append (qe_var 2) (qa_cons (qe_op op_addA os_add (qe_op op_addA os_add (qe_op op_addA os_add (qe_op op_addA os_add qe_str (qe_callTy call_str_int cs_str z_str (by decide +kernel) (qa_cons (qe_var 6) qa_nil))) qe_str) (qe_callTy call_str_int cs_str z_str (by decide +kernel) (qa_cons (qe_var 7) qa_nil))) qe_str) qa_nil)))))
      (qss_one (qs_ret (qe_bm PySem.F.plainAttrs_str PySem.F.slot_str_join PySem.F.type_str_join mt_join ms_join qe_str (qa_cons (qe_var 2) qa_nil)))))))))

theorem sc_is_int_in : FnScope ["value", "low", "high"] ["value", "low", "high"] (defScope (top 36)) := ⟨rfl, rfl, rfl, by decide +kernel, rfl, by decide +kernel, by decide +kernel⟩
theorem ok_is_int_in {f : Addr} {fd : FuncData} {dvs : List V} {kws : List (Str × V)} (Fn : FunD K "is_int_in" "is_int_in" (defArgs (top 36)) (defBody (top 36)) (defScope (top 36)) dvs kws f fd) (z_isinstance : mg "isinstance" = none) (z_bool : mg "bool" = none) (z_int : mg "int" = none) : FnOk P w K mg base (L2.CX P w) 1 f fd ["value", "low", "high"] (spP K mg 3 F_is_int_in) := by
  refine fn_P Fn sc_is_int_in (fun cdv A outer s H E B hr => ?_)
  have tk := takes_of (X := cxOf (L2.CX P w) P w K mg base ["value", "low", "high"] "is_int_in" (defScope (top 36)) f cdv A outer s H E) (E := E) rfl rfl rfl rfl
  have hp := passes_of (X := cxOf (L2.CX P w) P w K mg base ["value", "low", "high"] "is_int_in" (defScope (top 36)) f cdv A outer s H E) (K := fun e s'' => L2.CX P w outer H s E e s'') rfl
  exact (qss_one (qs_ret (qe_and (qe_callB call_isi cs_isi z_isinstance (by decide +kernel) (qa_cons (qe_var 0) (qa_cons (qe_ty z_int (by decide +kernel)) qa_nil))) (qe_and (qe_not (qe_callB call_isi cs_isi z_isinstance (by decide +kernel) (qa_cons (qe_var 0) (qa_cons (qe_ty z_bool (by decide +kernel)) qa_nil)))) (qe_one (qe_chain op_le os_le op_le os_le (qe_var 1) (qe_var 0) (qe_var 2)))))))

theorem sc_encode : FnScope ["plan", "parsed", "result", "name", "letter", "start", "runs", "first", "last"] ["plan"] (defScope (top 40)) := ⟨rfl, rfl, rfl, by decide +kernel, rfl, by decide +kernel, by decide +kernel⟩
theorem ok_encode {f : Addr} {fd : FuncData} {dvs : List V} {kws : List (Str × V)} (Fn : FunD K "encode" "encode" (defArgs (top 40)) (defBody (top 40)) (defScope (top 40)) dvs kws f fd) (z_sum : mg "sum" = none) (g_BYTE : GInt mg "BYTE" 256) (z_len : mg "len" = none) (c_Plan_paused : ClsF K mg ["Plan"] "paused") (C_runs_of : CallPOk P w K mg base "runs_of" 1 1 [] F_runs_of) (c_Plan_starts : ClsF K mg ["Plan"] "starts") (z_list : mg "list" = none) (c_Plan_ranks : ClsF K mg ["Plan"] "ranks") (c_Plan_names : ClsF K mg ["Plan"] "names") (g_LETTERS : GStr mg "LETTERS" "abcdefghijklmnopqrstuvwxyz") (c_Plan_most : ClsF K mg ["Plan"] "most") (c_Plan_length : ClsF K mg ["Plan"] "length") (g_TAG : GInt mg "TAG" 87) (C_load : CallPOk P w K mg base "load" 8 1 [] F_load) : FnOk P w K mg base (L2.CX P w) 9 f fd ["plan"] (spN K mg 1 F_encode) := by
  refine fn_N Fn sc_encode (fun cdv A outer s H E B hr => ?_)
  have tk := takes_of (X := cxOf (L2.CX P w) P w K mg base ["plan", "parsed", "result", "name", "letter", "start", "runs", "first", "last"] "encode" (defScope (top 40)) f cdv A outer s H E) (E := E) rfl rfl rfl rfl
  have hp := passes_of (X := cxOf (L2.CX P w) P w K mg base ["plan", "parsed", "result", "name", "letter", "start", "runs", "first", "last"] "encode" (defScope (top 40)) f cdv A outer s H E) (K := fun e s'' => L2.CX P w outer H s E e s'') rfl
  exact (qss_cons (qs_set (i := 1) (qe_cP C_load hr (by decide) tk (qa_cons (qe_var 0) qa_nil)) sc_encode.nd)
      (qss_cons (qs_set (i := 2) (qe_lstO (qa_cons (qe_gInt g_TAG) (qa_cons (qe_fld c_Plan_length (qe_var 1)) (qa_cons (qe_fld c_Plan_most (qe_var 1)) (qa_cons (qe_callB call_lenA cs_len z_len PySem.boot_len (qa_cons (qe_fld c_Plan_names (qe_var 1)) qa_nil)) qa_nil))))) sc_encode.nd)
      (qss_cons (qs_for hp rfl (qi_seq (qe_fld c_Plan_names (qe_var 1))) (qg_name (i := 3) sc_encode.nd) (qss_one (qs_expr (qe_bm PySem.F.plainAttrs_list PySem.F.slot_list_extend PySem.F.type_list_extend mt_extend ms_extend (qe_var 2) (qa_cons (qe_op op_addA os_add (qe_lst (qa_cons (qe_callB call_lenA cs_len z_len PySem.boot_len (qa_cons (qe_var 3) qa_nil)) qa_nil)) (qe_lc rfl sc_encode.nd (qi_seq (qe_var 3)) (blkOk_by (own := [("letter", 4)]) rfl) (cg_name (by decide)) (fun _ _ _ _ _ => (pg_name (i := 4) sc_encode.nd rfl (by first | exact Or.inl rfl | exact Or.inr rfl))) (fun B _ _ _ _ _ => qts_nil) (fun B _ _ _ _ _ => (qe_bm PySem.F.plainAttrs_str PySem.F.slot_str_index PySem.F.type_str_index mt_sindex ms_sindex (qe_gStr g_LETTERS) (qa_cons (qe_var 4) qa_nil))))) qa_nil)))))
      (qss_cons (qs_expr (qe_bm PySem.F.plainAttrs_list PySem.F.slot_list_extend PySem.F.type_list_extend mt_extend ms_extend (qe_var 2) (qa_cons (qe_lst (qa_star (qe_fld c_Plan_ranks (qe_var 1)) (qa_cons (qe_callB call_lenA cs_len z_len PySem.boot_len (qa_cons (qe_fld c_Plan_starts (qe_var 1)) qa_nil)) qa_nil))) qa_nil)))
      (qss_cons (qs_for hp rfl (qi_seq (qe_fld c_Plan_starts (qe_var 1))) (qg_name (i := 5) sc_encode.nd) (qss_one (qs_expr (qe_bm PySem.F.plainAttrs_list PySem.F.slot_list_extend PySem.F.type_list_extend mt_extend ms_extend (qe_var 2) (qa_cons (qe_callTy call_list_of cs_list z_list (by decide +kernel) (qa_cons (qe_var 5) qa_nil)) qa_nil)))))
      (qss_cons (qs_set (i := 6) (qe_cP C_runs_of hr (by decide) tk (qa_cons (qe_fld c_Plan_paused (qe_var 1)) qa_nil)) sc_encode.nd)
      (qss_cons (qs_expr (qe_bm PySem.F.plainAttrs_list PySem.F.slot_list_append PySem.F.type_list_append mt_append ms_append (qe_var 2) (qa_cons (qe_callB call_lenA cs_len z_len PySem.boot_len (qa_cons (qe_var 6) qa_nil)) qa_nil)))
      (qss_cons (qs_for hp rfl (qi_seq (qe_var 6)) (qg_tup rfl (qgs_cons (qg_name (i := 7) sc_encode.nd) (qgs_cons (qg_name (i := 8) sc_encode.nd) qgs_nil))) (qss_one (qs_expr (qe_bm PySem.F.plainAttrs_list PySem.F.slot_list_extend PySem.F.type_list_extend mt_extend ms_extend (qe_var 2) (qa_cons (qe_lst (qa_cons (qe_var 7) (qa_cons (qe_var 8) qa_nil))) qa_nil)))))
      (qss_one (qs_ret (qe_lstO (qa_star (qe_var 2) (qa_cons (qe_op op_mod os_mod (qe_callB (cr_sum rfl) cs_sum z_sum (by decide +kernel) (qa_cons (qe_var 2) qa_nil)) (qe_gInt g_BYTE)) qa_nil)))))))))))))

theorem sc_Reader_init : FnScope ["self", "code"] ["self", "code"] (defScope (inClass (top 41) 0)) := ⟨rfl, rfl, rfl, by decide +kernel, rfl, by decide +kernel, by decide +kernel⟩
theorem ok_Reader_init {f : Addr} {fd : FuncData} {dvs : List V} {kws : List (Str × V)} (Fn : FunD K "__init__" "Reader.__init__" (defArgs (inClass (top 41) 0)) (defBody (inClass (top 41) 0)) (defScope (inClass (top 41) 0)) dvs kws f fd) (c_Reader_place : ClsF K mg ["Reader"] "place") (c_Reader_code : ClsF K mg ["Reader"] "code") : FnOk P w K mg base (L2.CX P w) 1 f fd ["self", "code"] (spO K mg 2 F_Reader_init) := by
  refine fn_O Fn sc_Reader_init (fun cdv A outer s H E B hr => ?_)
  have tk := takes_of (X := cxOf (L2.CX P w) P w K mg base ["self", "code"] "Reader.__init__" (defScope (inClass (top 41) 0)) f cdv A outer s H E) (E := E) rfl rfl rfl rfl
  have hp := passes_of (X := cxOf (L2.CX P w) P w K mg base ["self", "code"] "Reader.__init__" (defScope (inClass (top 41) 0)) f cdv A outer s H E) (K := fun e s'' => L2.CX P w outer H s E e s'') rfl
  exact (qss_cons (qs_fld c_Reader_code (qe_var 0) (qe_var 1))
      (qss_one (qs_fld c_Reader_place (qe_var 0) qe_int)))

theorem sc_Reader_fail : FnScope ["self", "place"] ["self", "place"] (defScope (inClass (top 41) 1)) := ⟨rfl, rfl, rfl, by decide +kernel, rfl, by decide +kernel, by decide +kernel⟩
theorem ok_Reader_fail {f : Addr} {fd : FuncData} {dvs : List V} {kws : List (Str × V)} (Fn : FunD K "fail" "Reader.fail" (defArgs (inClass (top 41) 1)) (defBody (inClass (top 41) 1)) (defScope (inClass (top 41) 1)) dvs kws f fd) (R_InvalidCode : RaiseXOk P w K mg base "InvalidCode" ["place"] 1) : FnOk P w K mg base (L2.CX P w) 3 f fd ["self", "place"] (spO K mg 2 F_Reader_fail) := by
  refine fn_C Fn sc_Reader_fail (fun cdv A outer s H E B hr => ?_)
  have tk := takes_of (X := cxOf (L2.CX P w) P w K mg base ["self", "place"] "Reader.fail" (defScope (inClass (top 41) 1)) f cdv A outer s H E) (E := E) rfl rfl rfl rfl
  have hp := passes_of (X := cxOf (L2.CX P w) P w K mg base ["self", "place"] "Reader.fail" (defScope (inClass (top 41) 1)) f cdv A outer s H E) (K := fun e s'' => L2.CX P w outer H s E e s'') rfl
  exact (qss_one (qs_rX R_InvalidCode rfl hr (by decide) tk (qa_cons (qe_var 1) qa_nil)))

theorem sc_Reader_read_byte : FnScope ["self", "low", "high"] ["self", "low", "high"] (defScope (inClass (top 41) 2)) := ⟨rfl, rfl, rfl, by decide +kernel, rfl, by decide +kernel, by decide +kernel⟩
theorem ok_Reader_read_byte {f : Addr} {fd : FuncData} {dvs : List V} {kws : List (Str × V)} (Fn : FunD K "read_byte" "Reader.read_byte" (defArgs (inClass (top 41) 2)) (defBody (inClass (top 41) 2)) (defScope (inClass (top 41) 2)) dvs kws f fd) (c_Reader_code : ClsF K mg ["Reader"] "code") (c_Reader_place : ClsF K mg ["Reader"] "place") (C_is_int_in : CallPOk P w K mg base "is_int_in" 1 3 [] F_is_int_in) (z_len : mg "len" = none) (R_InvalidCode : RaiseXOk P w K mg base "InvalidCode" ["place"] 1) : FnOk P w K mg base (L2.CX P w) 3 f fd ["self", "low", "high"] (spO K mg 3 F_Reader_read_byte) := by
  refine fn_C Fn sc_Reader_read_byte (fun cdv A outer s H E B hr => ?_)
  have tk := takes_of (X := cxOf (L2.CX P w) P w K mg base ["self", "low", "high"] "Reader.read_byte" (defScope (inClass (top 41) 2)) f cdv A outer s H E) (E := E) rfl rfl rfl rfl
  have hp := passes_of (X := cxOf (L2.CX P w) P w K mg base ["self", "low", "high"] "Reader.read_byte" (defScope (inClass (top 41) 2)) f cdv A outer s H E) (K := fun e s'' => L2.CX P w outer H s E e s'') rfl
  exact (qss_cons (qs_if (PW.pt (qw_or (qt_cmp (op_eqD hr.units) os_eq (qe_fld c_Reader_place (qe_var 0)) (qe_callB call_lenA cs_len z_len PySem.boot_len (qa_cons (qe_fld c_Reader_code (qe_var 0)) qa_nil)) (nomark _)) (qw_or1 (qt_not (qt_val (qe_cP C_is_int_in hr (by decide) tk (qa_cons (qe_ix ix_seq os_ix (qe_fld c_Reader_code (qe_var 0)) (qe_fld c_Reader_place (qe_var 0))) (qa_cons (qe_var 1) (qa_cons (qe_var 2) qa_nil))))))))) (qss_one (qs_rX R_InvalidCode rfl hr (by decide) tk (qa_cons (qe_fld c_Reader_place (qe_var 0)) qa_nil))) qss_nil)
      (qss_cons (qs_fldaug c_Reader_place in_add is_add (qe_var 0) qe_int)
      (qss_one (qs_ret (qe_ix ix_seq os_ix (qe_fld c_Reader_code (qe_var 0)) (qe_op op_sub os_sub (qe_fld c_Reader_place (qe_var 0)) qe_int))))))

theorem sc_Reader_read_name : FnScope ["self", "names", "start", "length", "name", "count"] ["self", "names"] (defScope (inClass (top 41) 3)) := ⟨rfl, rfl, rfl, by decide +kernel, rfl, by decide +kernel, by decide +kernel⟩
theorem ok_Reader_read_name {f : Addr} {fd : FuncData} {dvs : List V} {kws : List (Str × V)} (Fn : FunD K "read_name" "Reader.read_name" (defArgs (inClass (top 41) 3)) (defBody (inClass (top 41) 3)) (defScope (inClass (top 41) 3)) dvs kws f fd) (g_KEYWORDS : GTupS K mg "KEYWORDS" ["round", "open", "valves", "start", "for", "pause", "rank"]) (M_Reader_fail : MethOOk P w K mg base "Reader" "fail" 3 2 [] F_Reader_fail) (z_range : mg "range" = none) (g_LETTERS : GStr mg "LETTERS" "abcdefghijklmnopqrstuvwxyz") (M_Reader_read_byte : MethOOk P w K mg base "Reader" "read_byte" 3 3 [] F_Reader_read_byte) (z_len : mg "len" = none) (g_MAX_LETTERS : GInt mg "MAX_LETTERS" 8) (c_Reader_place : ClsF K mg ["Reader"] "place") : FnOk P w K mg base (L2.CX P w) 4 f fd ["self", "names"] (spO K mg 2 F_Reader_read_name) := by
  refine fn_C Fn sc_Reader_read_name (fun cdv A outer s H E B hr => ?_)
  have tk := takes_of (X := cxOf (L2.CX P w) P w K mg base ["self", "names", "start", "length", "name", "count"] "Reader.read_name" (defScope (inClass (top 41) 3)) f cdv A outer s H E) (E := E) rfl rfl rfl rfl
  have hp := passes_of (X := cxOf (L2.CX P w) P w K mg base ["self", "names", "start", "length", "name", "count"] "Reader.read_name" (defScope (inClass (top 41) 3)) f cdv A outer s H E) (K := fun e s'' => L2.CX P w outer H s E e s'') rfl
  exact (qss_cons (qs_set (i := 2) (qe_fld c_Reader_place (qe_var 0)) sc_Reader_read_name.nd)
      (qss_cons (qs_set (i := 3) (qe_mO M_Reader_read_byte hr (by decide) tk (qe_var 0) (qa_cons qe_int (qa_cons (qe_gInt g_MAX_LETTERS) qa_nil))) sc_Reader_read_name.nd)
      (qss_cons (qs_set (i := 4) (qe_bm PySem.F.plainAttrs_str PySem.F.slot_str_join PySem.F.type_str_join mt_join ms_join qe_str (qa_cons (qe_lc rfl sc_Reader_read_name.nd (qi_range1 z_range (qa_cons (qe_var 3) qa_nil)) (blkOk_by (own := [("count", 5)]) rfl) (cg_name (by decide)) (fun _ _ _ _ _ => (pg_name (i := 5) sc_Reader_read_name.nd rfl (by first | exact Or.inl rfl | exact Or.inr rfl))) (fun B _ _ _ _ _ => qts_nil) (fun B _ _ _ _ _ => (qe_ix ix_seq os_ix (qe_gStr g_LETTERS) (qe_mO M_Reader_read_byte hr (by decide) takes0 (qe_var 0) (qa_cons qe_int (qa_cons (qe_op op_sub os_sub (qe_callB call_lenA cs_len z_len PySem.boot_len (qa_cons (qe_gStr g_LETTERS) qa_nil)) qe_int) qa_nil)))))) qa_nil)) sc_Reader_read_name.nd)
      (qss_cons (qs_if (PW.pt (qw_or (qt_cmp (op_inA (hu65 hr)) os_in (qe_var 4) (qe_gTupS g_KEYWORDS) (by with_unfolding_all rfl)) (qw_or1 (qt_cmp (op_inA (hu65 hr)) os_in (qe_var 4) (qe_var 1) (by with_unfolding_all rfl))))) (qss_one (qs_expr (qe_mO M_Reader_fail hr (by decide) tk (qe_var 0) (qa_cons (qe_var 2) qa_nil)))) qss_nil)
      (qss_one (qs_ret (qe_var 4)))))))

theorem sc_Reader_read_ranks : FnScope ["self", "count", "ranks", "place", "valve"] ["self", "count"] (defScope (inClass (top 41) 4)) := ⟨rfl, rfl, rfl, by decide +kernel, rfl, by decide +kernel, by decide +kernel⟩
theorem ok_Reader_read_ranks {f : Addr} {fd : FuncData} {dvs : List V} {kws : List (Str × V)} (Fn : FunD K "read_ranks" "Reader.read_ranks" (defArgs (inClass (top 41) 4)) (defBody (inClass (top 41) 4)) (defScope (inClass (top 41) 4)) dvs kws f fd) (z_range : mg "range" = none) (M_Reader_fail : MethOOk P w K mg base "Reader" "fail" 3 2 [] F_Reader_fail) (c_Reader_place : ClsF K mg ["Reader"] "place") (M_Reader_read_byte : MethOOk P w K mg base "Reader" "read_byte" 3 3 [] F_Reader_read_byte) : FnOk P w K mg base (L2.CX P w) 4 f fd ["self", "count"] (spO K mg 2 F_Reader_read_ranks) := by
  refine fn_C Fn sc_Reader_read_ranks (fun cdv A outer s H E B hr => ?_)
  have tk := takes_of (X := cxOf (L2.CX P w) P w K mg base ["self", "count", "ranks", "place", "valve"] "Reader.read_ranks" (defScope (inClass (top 41) 4)) f cdv A outer s H E) (E := E) rfl rfl rfl rfl
  have hp := passes_of (X := cxOf (L2.CX P w) P w K mg base ["self", "count", "ranks", "place", "valve"] "Reader.read_ranks" (defScope (inClass (top 41) 4)) f cdv A outer s H E) (K := fun e s'' => L2.CX P w outer H s E e s'') rfl
  exact (qss_cons (qs_set (i := 2) (qe_lstO qa_nil) sc_Reader_read_ranks.nd)
      (qss_cons (qs_for hp rfl (qi_range1 z_range (qa_cons (qe_var 1) qa_nil)) (qg_name (i := 3) sc_Reader_read_ranks.nd) (qss_cons (qs_set (i := 4) (qe_mO M_Reader_read_byte hr (by decide) tk (qe_var 0) (qa_cons qe_int (qa_cons (qe_op op_sub os_sub (qe_var 1) qe_int) qa_nil))) sc_Reader_read_ranks.nd)
      (qss_cons (qs_if (qt_cmp (op_inA (hu65 hr)) os_in (qe_var 4) (qe_var 2) (by with_unfolding_all rfl)) (qss_one (qs_expr (qe_mO M_Reader_fail hr (by decide) tk (qe_var 0) (qa_cons (qe_op op_sub os_sub (qe_fld c_Reader_place (qe_var 0)) qe_int) qa_nil)))) qss_nil)
      (qss_one (qs_expr (qe_bm PySem.F.plainAttrs_list PySem.F.slot_list_append PySem.F.type_list_append mt_append ms_append (qe_var 2) (qa_cons (qe_var 4) qa_nil)))))))
      (qss_one (qs_ret (qe_frz (qe_var 2))))))

theorem sc_Reader_read_starts : FnScope ["self", "length", "count", "starts", "place", "tick", "low", "valve"] ["self", "length", "count"] (defScope (inClass (top 41) 5)) := ⟨rfl, rfl, rfl, by decide +kernel, rfl, by decide +kernel, by decide +kernel⟩
theorem ok_Reader_read_starts {f : Addr} {fd : FuncData} {dvs : List V} {kws : List (Str × V)} (Fn : FunD K "read_starts" "Reader.read_starts" (defArgs (inClass (top 41) 5)) (defBody (inClass (top 41) 5)) (defScope (inClass (top 41) 5)) dvs kws f fd) (M_Reader_read_byte : MethOOk P w K mg base "Reader" "read_byte" 3 3 [] F_Reader_read_byte) (g_MAX_STARTS : GInt mg "MAX_STARTS" 20) (z_range : mg "range" = none) (g_MAX_LENGTH : GInt mg "MAX_LENGTH" 30) : FnOk P w K mg base (L2.CX P w) 4 f fd ["self", "length", "count"] (spO K mg 3 F_Reader_read_starts) := by
  refine fn_C Fn sc_Reader_read_starts (fun cdv A outer s H E B hr => ?_)
  have tk := takes_of (X := cxOf (L2.CX P w) P w K mg base ["self", "length", "count", "starts", "place", "tick", "low", "valve"] "Reader.read_starts" (defScope (inClass (top 41) 5)) f cdv A outer s H E) (E := E) rfl rfl rfl rfl
  have hp := passes_of (X := cxOf (L2.CX P w) P w K mg base ["self", "length", "count", "starts", "place", "tick", "low", "valve"] "Reader.read_starts" (defScope (inClass (top 41) 5)) f cdv A outer s H E) (K := fun e s'' => L2.CX P w outer H s E e s'') rfl
  exact (qss_cons (qs_set (i := 3) (qe_lstO qa_nil) sc_Reader_read_starts.nd)
      (qss_cons (qs_for hp rfl (qi_range1 z_range (qa_cons (qe_mO M_Reader_read_byte hr (by decide) tk (qe_var 0) (qa_cons qe_int (qa_cons (qe_gInt g_MAX_STARTS) qa_nil))) qa_nil)) (qg_name (i := 4) sc_Reader_read_starts.nd) (qss_cons (qs_set (i := 5) (qe_mO M_Reader_read_byte hr (by decide) tk (qe_var 0) (qa_cons (qe_ifExp (qt_cmp (op_neD hr.units) os_ne (qe_var 3) (qe_lst qa_nil) (nomark _)) (qe_ix ix_seq os_ix (qe_ix ix_seq os_ix (qe_var 3) (qe_neg qe_int)) qe_int) qe_int) (qa_cons (qe_op op_sub os_sub (qe_var 1) qe_int) qa_nil))) sc_Reader_read_starts.nd)
      (qss_cons (qs_set (i := 6) (qe_ifExp (PW.pt (qw_and (qt_cmp (op_neD hr.units) os_ne (qe_var 3) (qe_lst qa_nil) (nomark _)) (qw_and1 (qt_cmp (op_eqD hr.units) os_eq (qe_var 5) (qe_ix ix_seq os_ix (qe_ix ix_seq os_ix (qe_var 3) (qe_neg qe_int)) qe_int) (nomark _))))) (qe_ix ix_seq os_ix (qe_ix ix_seq os_ix (qe_var 3) (qe_neg qe_int)) qe_int) qe_int) sc_Reader_read_starts.nd)
      (qss_cons (qs_set (i := 7) (qe_mO M_Reader_read_byte hr (by decide) tk (qe_var 0) (qa_cons (qe_var 6) (qa_cons (qe_op op_sub os_sub (qe_var 2) qe_int) qa_nil))) sc_Reader_read_starts.nd)
      (qss_one (qs_expr (qe_bm PySem.F.plainAttrs_list PySem.F.slot_list_append PySem.F.type_list_append mt_append ms_append (qe_var 3) (qa_cons (qe_tup (qa_cons (qe_var 5) (qa_cons (qe_var 7) (qa_cons (qe_mO M_Reader_read_byte hr (by decide) tk (qe_var 0) (qa_cons qe_int (qa_cons (qe_gInt g_MAX_LENGTH) qa_nil))) qa_nil)))) qa_nil))))))))
      (qss_one (qs_ret (qe_frz (qe_var 3))))))

theorem sc_Reader_read_paused : FnScope ["self", "length", "paused", "first", "run", "start", "end", "tick", "is_paused"] ["self", "length"] (defScope (inClass (top 41) 6)) := ⟨rfl, rfl, rfl, by decide +kernel, rfl, by decide +kernel, by decide +kernel⟩
theorem ok_Reader_read_paused {f : Addr} {fd : FuncData} {dvs : List V} {kws : List (Str × V)} (Fn : FunD K "read_paused" "Reader.read_paused" (defArgs (inClass (top 41) 6)) (defBody (inClass (top 41) 6)) (defScope (inClass (top 41) 6)) dvs kws f fd) (M_Reader_read_byte : MethOOk P w K mg base "Reader" "read_byte" 3 3 [] F_Reader_read_byte) (z_range : mg "range" = none) (z_enumerate : mg "enumerate" = none) : FnOk P w K mg base (L2.CX P w) 4 f fd ["self", "length"] (spO K mg 2 F_Reader_read_paused) := by
  refine fn_C Fn sc_Reader_read_paused (fun cdv A outer s H E B hr => ?_)
  have tk := takes_of (X := cxOf (L2.CX P w) P w K mg base ["self", "length", "paused", "first", "run", "start", "end", "tick", "is_paused"] "Reader.read_paused" (defScope (inClass (top 41) 6)) f cdv A outer s H E) (E := E) rfl rfl rfl rfl
  have hp := passes_of (X := cxOf (L2.CX P w) P w K mg base ["self", "length", "paused", "first", "run", "start", "end", "tick", "is_paused"] "Reader.read_paused" (defScope (inClass (top 41) 6)) f cdv A outer s H E) (K := fun e s'' => L2.CX P w outer H s E e s'') rfl
  exact (qss_cons (qs_par (i := 2) (j := 3) rfl sc_Reader_read_paused.nd (by decide) (qa_cons (qe_op op_rep os_rep (qe_lst (qa_cons qe_bl qa_nil)) (qe_var 1)) (qa_cons qe_int qa_nil)) rfl)
      (qss_cons (qs_for hp rfl (qi_range1 z_range (qa_cons (qe_mO M_Reader_read_byte hr (by decide) tk (qe_var 0) (qa_cons qe_int (qa_cons (qe_var 1) qa_nil))) qa_nil)) (qg_name (i := 4) sc_Reader_read_paused.nd) (qss_cons (qs_set (i := 5) (qe_mO M_Reader_read_byte hr (by decide) tk (qe_var 0) (qa_cons (qe_var 3) (qa_cons (qe_op op_sub os_sub (qe_var 1) qe_int) qa_nil))) sc_Reader_read_paused.nd)
      (qss_cons (qs_set (i := 6) (qe_mO M_Reader_read_byte hr (by decide) tk (qe_var 0) (qa_cons (qe_var 5) (qa_cons (qe_op op_sub os_sub (qe_var 1) qe_int) qa_nil))) sc_Reader_read_paused.nd)
      (qss_cons (qs_setLc (i := 2) rfl sc_Reader_read_paused.nd (qi_enum z_enumerate (qa_cons (qe_var 2) qa_nil)) (blkOk_by (own := [("tick", 7), ("is_paused", 8)]) rfl) (cg_tup (cgs_cons (cg_name (by decide)) (cgs_cons (cg_name (by decide)) cgs_nil))) (fun _ _ _ _ _ => (pg_tup rfl (pgs_cons (pg_name (i := 7) sc_Reader_read_paused.nd rfl (by first | exact Or.inl rfl | exact Or.inr rfl)) (pgs_cons (pg_name (i := 8) sc_Reader_read_paused.nd rfl (by first | exact Or.inl rfl | exact Or.inr rfl)) pgs_nil)))) (fun B _ _ _ _ _ => qts_nil) (fun B _ _ _ _ _ => (qe_or (qe_var 8) (qe_one (qe_chain op_le os_le op_le os_le (qe_var 5) (qe_var 7) (qe_var 6))))) (sw_true rfl rfl rfl (by decide +kernel)))
      (qss_one (qs_set (i := 3) (qe_op op_addA os_add (qe_var 6) qe_int) sc_Reader_read_paused.nd))))))
      (qss_one (qs_ret (qe_var 2)))))

theorem sc_decode : FnScope ["code", "reader", "length", "most", "names", "valve", "ranks", "starts", "paused", "checksum"] ["code"] (defScope (top 42)) := ⟨rfl, rfl, rfl, by decide +kernel, rfl, by decide +kernel, by decide +kernel⟩
theorem ok_decode {f : Addr} {fd : FuncData} {dvs : List V} {kws : List (Str × V)} (Fn : FunD K "decode" "decode" (defArgs (top 42)) (defBody (top 42)) (defScope (top 42)) dvs kws f fd) (z_tuple : mg "tuple" = none) (K_Plan : MakeMOk P w K mg base "Plan" 1 7 [] F_Plan_init) (C_format_parsed : CallPOk P w K mg base "format_parsed" 2 1 [] F_format_parsed) (c_Reader_place : ClsF K mg ["Reader"] "place") (z_len : mg "len" = none) (R_InvalidCode : RaiseXOk P w K mg base "InvalidCode" ["place"] 1) (M_Reader_read_byte : MethOOk P w K mg base "Reader" "read_byte" 3 3 [] F_Reader_read_byte) (z_sum : mg "sum" = none) (g_BYTE : GInt mg "BYTE" 256) (M_Reader_read_paused : MethOOk P w K mg base "Reader" "read_paused" 4 2 [] F_Reader_read_paused) (M_Reader_read_starts : MethOOk P w K mg base "Reader" "read_starts" 4 3 [] F_Reader_read_starts) (M_Reader_read_ranks : MethOOk P w K mg base "Reader" "read_ranks" 4 2 [] F_Reader_read_ranks) (g_MAX_VALVES : GInt mg "MAX_VALVES" 8) (z_range : mg "range" = none) (M_Reader_read_name : MethOOk P w K mg base "Reader" "read_name" 4 2 [] F_Reader_read_name) (g_MAX_OPEN : GInt mg "MAX_OPEN" 9) (g_MAX_ROUND : GInt mg "MAX_ROUND" 60) (g_TAG : GInt mg "TAG" 87) (K_Reader : MakeOOk P w K mg base "Reader" 1 2 [] F_Reader_init) (z_isinstance : mg "isinstance" = none) (z_list : mg "list" = none) : FnOk P w K mg base (L2.CX P w) 5 f fd ["code"] (spO K mg 1 F_decode) := by
  refine fn_C Fn sc_decode (fun cdv A outer s H E B hr => ?_)
  have tk := takes_of (X := cxOf (L2.CX P w) P w K mg base ["code", "reader", "length", "most", "names", "valve", "ranks", "starts", "paused", "checksum"] "decode" (defScope (top 42)) f cdv A outer s H E) (E := E) rfl rfl rfl rfl
  have hp := passes_of (X := cxOf (L2.CX P w) P w K mg base ["code", "reader", "length", "most", "names", "valve", "ranks", "starts", "paused", "checksum"] "decode" (defScope (top 42)) f cdv A outer s H E) (K := fun e s'' => L2.CX P w outer H s E e s'') rfl
  exact (qss_cons (qs_if (qt_not (qt_val (qe_callB call_isi cs_isi z_isinstance (by decide +kernel) (qa_cons (qe_var 0) (qa_cons (qe_ty z_list (by decide +kernel)) qa_nil))))) (qss_one (qs_rX R_InvalidCode rfl hr (by decide) tk (qa_cons qe_int qa_nil))) qss_nil)
      (qss_cons (qs_set (i := 1) (qe_kO K_Reader hr (by decide) tk (qa_cons (qe_var 0) qa_nil)) sc_decode.nd)
      (qss_cons (qs_expr (qe_mO M_Reader_read_byte hr (by decide) tk (qe_var 1) (qa_cons (qe_gInt g_TAG) (qa_cons (qe_gInt g_TAG) qa_nil))))
      (qss_cons (qs_set (i := 2) (qe_mO M_Reader_read_byte hr (by decide) tk (qe_var 1) (qa_cons qe_int (qa_cons (qe_gInt g_MAX_ROUND) qa_nil))) sc_decode.nd)
      (qss_cons (qs_set (i := 3) (qe_mO M_Reader_read_byte hr (by decide) tk (qe_var 1) (qa_cons qe_int (qa_cons (qe_gInt g_MAX_OPEN) qa_nil))) sc_decode.nd)
      (qss_cons (qs_set (i := 4) (qe_lstO qa_nil) sc_decode.nd)
      (qss_cons (qs_for hp rfl (qi_range1 z_range (qa_cons (qe_mO M_Reader_read_byte hr (by decide) tk (qe_var 1) (qa_cons qe_int (qa_cons (qe_gInt g_MAX_VALVES) qa_nil))) qa_nil)) (qg_name (i := 5) sc_decode.nd) (qss_one (qs_expr (qe_bm PySem.F.plainAttrs_list PySem.F.slot_list_append PySem.F.type_list_append mt_append ms_append (qe_var 4) (qa_cons (qe_mO M_Reader_read_name hr (by decide) tk (qe_var 1) (qa_cons (qe_var 4) qa_nil)) qa_nil)))))
      (qss_cons (qs_set (i := 6) (qe_mO M_Reader_read_ranks hr (by decide) tk (qe_var 1) (qa_cons (qe_callB call_lenA cs_len z_len PySem.boot_len (qa_cons (qe_var 4) qa_nil)) qa_nil)) sc_decode.nd)
      (qss_cons (qs_set (i := 7) (qe_mO M_Reader_read_starts hr (by decide) tk (qe_var 1) (qa_cons (qe_var 2) (qa_cons (qe_callB call_lenA cs_len z_len PySem.boot_len (qa_cons (qe_var 4) qa_nil)) qa_nil))) sc_decode.nd)
      (qss_cons (qs_set (i := 8) (qe_mO M_Reader_read_paused hr (by decide) tk (qe_var 1) (qa_cons (qe_var 2) qa_nil)) sc_decode.nd)
      (qss_cons (qs_set (i := 9) (qe_op op_mod os_mod (qe_callB (cr_sum rfl) cs_sum z_sum (by decide +kernel) (qa_cons (qe_slice sl_all ss_sl (qe_var 0) qo_none (qo_some (qe_fld c_Reader_place (qe_var 1)))) qa_nil)) (qe_gInt g_BYTE)) sc_decode.nd)
      (qss_cons (qs_expr (qe_mO M_Reader_read_byte hr (by decide) tk (qe_var 1) (qa_cons (qe_var 9) (qa_cons (qe_var 9) qa_nil))))
      (qss_cons (qs_if (qt_cmp op_lt os_lt (qe_fld c_Reader_place (qe_var 1)) (qe_callB call_lenA cs_len z_len PySem.boot_len (qa_cons (qe_var 0) qa_nil)) (nomark _)) (qss_one (qs_rX R_InvalidCode rfl hr (by decide) tk (qa_cons (qe_fld c_Reader_place (qe_var 1)) qa_nil))) qss_nil)
      (qss_one (qs_ret (qe_cP C_format_parsed hr (by decide) tk (qa_cons (qe_kM K_Plan hr (by decide) tk (qa_cons (qe_var 2) (qa_cons (qe_var 3) (qa_cons (qe_callTy call_tuple_of cs_tuple z_tuple (by decide +kernel) (qa_cons (qe_var 4) qa_nil)) (qa_cons (qe_var 7) (qa_cons (qe_var 8) (qa_cons (qe_var 6) qa_nil))))))) qa_nil)))))))))))))))))

end
end G
namespace G
open PySem L2 Cl
section
variable {P : Program} {w : World} {K : PySem.W.Frag} {mg : Str → Option Value} {base : Heap}
theorem sc__law_random : FnScope ["_law_script", "_law_salt", "_law_seed", "_law_cell"] ["_law_script", "_law_salt"] (defScope (top 44)) := ⟨rfl, rfl, rfl, by decide +kernel, rfl, by decide +kernel, by decide +kernel⟩
theorem ok__law_random {f : Addr} {fd : FuncData} {dvs : List V} {kws : List (Str × V)} (Fn : FunD K "_law_random" "_law_random" (defArgs (top 44)) (defBody (top 44)) (defScope (top 44)) dvs kws f fd) (z_abs : mg "abs" = none) : FnOk P w K mg base (L2.CX P w) 1 f fd ["_law_script", "_law_salt"] (spN K mg 2 F__law_random) := by
  refine fn_N Fn sc__law_random (fun cdv A outer s H E B hr => ?_)
  have tk := takes_of (X := cxOf (L2.CX P w) P w K mg base ["_law_script", "_law_salt", "_law_seed", "_law_cell"] "_law_random" (defScope (top 44)) f cdv A outer s H E) (E := E) rfl rfl rfl rfl
  have hp := passes_of (X := cxOf (L2.CX P w) P w K mg base ["_law_script", "_law_salt", "_law_seed", "_law_cell"] "_law_random" (defScope (top 44)) f cdv A outer s H E) (K := fun e s'' => L2.CX P w outer H s E e s'') rfl
  exact (qss_cons (qs_set (i := 2) (qe_var 1) sc__law_random.nd)
      (qss_cons (qs_for hp rfl (qi_seq (qe_var 0)) (qg_name (i := 3) sc__law_random.nd) (qss_one (qs_set (i := 2) (qe_op op_mod os_mod (qe_op op_addA os_add (qe_op op_mul os_mulI (qe_var 2) qe_int) (qe_callB call_abs cs_abs z_abs (by decide +kernel) (qa_cons (qe_var 3) qa_nil))) qe_int) sc__law_random.nd)))
      (qss_one (qs_ret (qe_op op_cat os_catO (qe_lst (qa_cons (qe_var 2) (qa_cons qe_int qa_nil))) (qe_lc rfl sc__law_random.nd (qi_seq (qe_var 0)) (blkOk_by (own := [("_law_cell", 3)]) rfl) (cg_name (by decide)) (fun _ _ _ _ _ => (pg_name (i := 3) sc__law_random.nd rfl (by first | exact Or.inl rfl | exact Or.inr rfl))) (fun B _ _ _ _ _ => (qts_one (qt_cmp op_ge os_ge (qe_var 3) (qe_op op_pow os_pow qe_int qe_int) (nomark _)))) (fun B _ _ _ _ _ => (qe_var 3))))))))

theorem sc__law_below : FnScope ["_law_d", "_law_limit", "_law_result"] ["_law_d", "_law_limit"] (defScope (top 45)) := ⟨rfl, rfl, rfl, by decide +kernel, rfl, by decide +kernel, by decide +kernel⟩
theorem ok__law_below {f : Addr} {fd : FuncData} {dvs : List V} {kws : List (Str × V)} (Fn : FunD K "_law_below" "_law_below" (defArgs (top 45)) (defBody (top 45)) (defScope (top 45)) dvs kws f fd) (z_len : mg "len" = none) : FnOk P w K mg base (L2.CX P w) 1 f fd ["_law_d", "_law_limit"] (spO K mg 2 F__law_below) := by
  refine fn_O Fn sc__law_below (fun cdv A outer s H E B hr => ?_)
  have tk := takes_of (X := cxOf (L2.CX P w) P w K mg base ["_law_d", "_law_limit", "_law_result"] "_law_below" (defScope (top 45)) f cdv A outer s H E) (E := E) rfl rfl rfl rfl
  have hp := passes_of (X := cxOf (L2.CX P w) P w K mg base ["_law_d", "_law_limit", "_law_result"] "_law_below" (defScope (top 45)) f cdv A outer s H E) (K := fun e s'' => L2.CX P w outer H s E e s'') rfl
  exact (qss_cons (qs_if (PW.pt (qw_and (qt_cmp (op_eqD hr.units) os_eq (qe_ix ix_seq os_ix (qe_var 0) qe_int) qe_int (nomark _)) (qw_and1 (qt_cmp op_gt os_gt (qe_callB call_lenA cs_len z_len PySem.boot_len (qa_cons (qe_var 0) qa_nil)) qe_int (nomark _))))) (qss_one (qs_setItem (qe_var 0) qe_int (qe_bm PySem.F.plainAttrs_list PySem.F.slot_list_pop PySem.F.type_list_pop mt_popAt ms_popAt (qe_var 0) (qa_cons qe_int qa_nil)))) qss_nil)
      (qss_cons (qs_if (qt_cmp op_gt os_gt (qe_ix ix_seq os_ix (qe_var 0) qe_int) qe_int (nomark _)) (qss_cons (qs_set (i := 2) (qe_op op_mod os_mod (qe_ix ix_seq os_ix (qe_var 0) qe_int) (qe_var 1)) sc__law_below.nd)
      (qss_cons (qs_setItem (qe_var 0) qe_int (qe_op op_fdiv os_div (qe_ix ix_seq os_ix (qe_var 0) qe_int) (qe_var 1)))
      (qss_one (qs_ret (qe_var 2))))) qss_nil)
      (qss_cons (qs_setItem (qe_var 0) qe_int (qe_op op_mod os_mod (qe_op op_addA os_add (qe_op op_mul os_mulI (qe_ix ix_seq os_ix (qe_var 0) qe_int) qe_int) qe_int) qe_int))
      (qss_one (qs_ret (qe_op op_mod os_mod (qe_op op_fdiv os_div (qe_ix ix_seq os_ix (qe_var 0) qe_int) qe_int) (qe_var 1)))))))

theorem sc__law_shuffled : FnScope ["_law_d", "_law_items", "_law_pool", "_law_result"] ["_law_d", "_law_items"] (defScope (top 46)) := ⟨rfl, rfl, rfl, by decide +kernel, rfl, by decide +kernel, by decide +kernel⟩
theorem ok__law_shuffled {f : Addr} {fd : FuncData} {dvs : List V} {kws : List (Str × V)} (Fn : FunD K "_law_shuffled" "_law_shuffled" (defArgs (top 46)) (defBody (top 46)) (defScope (top 46)) dvs kws f fd) (z_len : mg "len" = none) (C__law_below : CallOOk P w K mg base "_law_below" 1 2 [] F__law_below) (z_list : mg "list" = none) : FnOk P w K mg base (L2.CX P w) 2 f fd ["_law_d", "_law_items"] (spO K mg 2 F__law_shuffled) := by
  refine fn_C Fn sc__law_shuffled (fun cdv A outer s H E B hr => ?_)
  have tk := takes_of (X := cxOf (L2.CX P w) P w K mg base ["_law_d", "_law_items", "_law_pool", "_law_result"] "_law_shuffled" (defScope (top 46)) f cdv A outer s H E) (E := E) rfl rfl rfl rfl
  have hp := passes_of (X := cxOf (L2.CX P w) P w K mg base ["_law_d", "_law_items", "_law_pool", "_law_result"] "_law_shuffled" (defScope (top 46)) f cdv A outer s H E) (K := fun e s'' => L2.CX P w outer H s E e s'') rfl
  exact (qss_cons (qs_set (i := 2) (qe_callTy call_list_of cs_listO z_list (by decide +kernel) (qa_cons (qe_var 1) qa_nil)) sc__law_shuffled.nd)
      (qss_cons (qs_set (i := 3) (qe_lstO qa_nil) sc__law_shuffled.nd)
      (qss_cons (qs_while hp (qt_cmp (op_neD hr.units) os_ne (qe_var 2) (qe_lst qa_nil) (nomark _)) (qss_one (qs_expr (qe_bm PySem.F.plainAttrs_list PySem.F.slot_list_append PySem.F.type_list_append mt_append ms_append (qe_var 3) (qa_cons (qe_bm PySem.F.plainAttrs_list PySem.F.slot_list_pop PySem.F.type_list_pop mt_popAt ms_popAt (qe_var 2) (qa_cons (qe_cO C__law_below hr (by decide) tk (qa_cons (qe_var 0) (qa_cons (qe_callB call_lenA cs_len z_len PySem.boot_len (qa_cons (qe_var 2) qa_nil)) qa_nil))) qa_nil)) qa_nil)))))
      (qss_one (qs_ret (qe_frz (qe_var 3)))))))

theorem sc__law_wide : FnScope ["_law_d", "_law_most", "_law_many", "_law_names", "_law_length", "_law_starts", "_law_k", "_law_drops", "_law_paused", "_law_share", "_law_ranks", "_law_places", "_law_one"] ["_law_d", "_law_most"] (defScope (top 47)) := ⟨rfl, rfl, rfl, by decide +kernel, rfl, by decide +kernel, by decide +kernel⟩
theorem ok__law_wide {f : Addr} {fd : FuncData} {dvs : List V} {kws : List (Str × V)} (Fn : FunD K "_law_wide" "_law_wide" (defArgs (top 47)) (defBody (top 47)) (defScope (top 47)) dvs kws f fd) (C__law_below : CallOOk P w K mg base "_law_below" 1 2 [] F__law_below) (z_sorted : mg "sorted" = none) (z_len : mg "len" = none) (z_range : mg "range" = none) (z_list : mg "list" = none) (C__law_shuffled : CallOOk P w K mg base "_law_shuffled" 2 2 [] F__law_shuffled) (z_tuple : mg "tuple" = none) : FnOk P w K mg base (L2.CX P w) 3 f fd ["_law_d", "_law_most"] (spO K mg 2 F__law_wide) := by
  refine fn_C Fn sc__law_wide (fun cdv A outer s H E B hr => ?_)
  have tk := takes_of (X := cxOf (L2.CX P w) P w K mg base ["_law_d", "_law_most", "_law_many", "_law_names", "_law_length", "_law_starts", "_law_k", "_law_drops", "_law_paused", "_law_share", "_law_ranks", "_law_places", "_law_one"] "_law_wide" (defScope (top 47)) f cdv A outer s H E) (E := E) rfl rfl rfl rfl
  have hp := passes_of (X := cxOf (L2.CX P w) P w K mg base ["_law_d", "_law_most", "_law_many", "_law_names", "_law_length", "_law_starts", "_law_k", "_law_drops", "_law_paused", "_law_share", "_law_ranks", "_law_places", "_law_one"] "_law_wide" (defScope (top 47)) f cdv A outer s H E) (K := fun e s'' => L2.CX P w outer H s E e s'') rfl
  exact (qss_cons (qs_set (i := 2) (qe_op op_addA os_add qe_int (qe_cO C__law_below hr (by decide) tk (qa_cons (qe_var 0) (qa_cons (qe_var 1) qa_nil)))) sc__law_wide.nd)
      (qss_cons (qs_set (i := 3) (qe_callTy call_tuple_of cs_tuple z_tuple (by decide +kernel) (qa_cons (qe_slice sl_all ss_sl (qe_cO C__law_shuffled hr (by decide) tk (qa_cons (qe_var 0) (qa_cons (qe_lst (qa_cons qe_str (qa_cons qe_str (qa_cons qe_str (qa_cons qe_str (qa_cons qe_str (qa_cons qe_str (qa_cons qe_str (qa_cons qe_str qa_nil))))))))) qa_nil))) qo_none (qo_some (qe_var 2))) qa_nil)) sc__law_wide.nd)
      (qss_cons (qs_set (i := 4) (qe_op op_addA os_add qe_int (qe_cO C__law_below hr (by decide) tk (qa_cons (qe_var 0) (qa_cons (qe_ix ix_seq os_ix (qe_lst (qa_cons qe_int (qa_cons qe_int (qa_cons qe_int qa_nil)))) (qe_cO C__law_below hr (by decide) tk (qa_cons (qe_var 0) (qa_cons qe_int qa_nil)))) qa_nil)))) sc__law_wide.nd)
      (qss_cons (qs_set (i := 5) (qe_lstO qa_nil) sc__law_wide.nd)
      (qss_cons (qs_for hp rfl (qi_range1 z_range (qa_cons (qe_cO C__law_below hr (by decide) tk (qa_cons (qe_var 0) (qa_cons (qe_ix ix_seq os_ix (qe_lst (qa_cons qe_int (qa_cons qe_int (qa_cons qe_int qa_nil)))) (qe_cO C__law_below hr (by decide) tk (qa_cons (qe_var 0) (qa_cons qe_int qa_nil)))) qa_nil))) qa_nil)) (qg_name (i := 6) sc__law_wide.nd) (qss_cons (qs_set (i := 7) (qe_op op_addA os_add qe_int (qe_cO C__law_below hr (by decide) tk (qa_cons (qe_var 0) (qa_cons (qe_ix ix_seq os_ix (qe_lst (qa_cons qe_int (qa_cons qe_int (qa_cons qe_int qa_nil)))) (qe_cO C__law_below hr (by decide) tk (qa_cons (qe_var 0) (qa_cons qe_int qa_nil)))) qa_nil)))) sc__law_wide.nd)
      (qss_one (qs_expr (qe_bm PySem.F.plainAttrs_list PySem.F.slot_list_append PySem.F.type_list_append mt_append ms_append (qe_var 5) (qa_cons (qe_tup (qa_cons (qe_cO C__law_below hr (by decide) tk (qa_cons (qe_var 0) (qa_cons (qe_var 4) qa_nil))) (qa_cons (qe_cO C__law_below hr (by decide) tk (qa_cons (qe_var 0) (qa_cons (qe_var 2) qa_nil))) (qa_cons (qe_var 7) qa_nil)))) qa_nil))))))
      (qss_cons (qs_set (i := 8) (qe_lst qa_nil) sc__law_wide.nd)
      (qss_cons (qs_if (qt_cmp (op_eqD hr.units) os_eq (qe_cO C__law_below hr (by decide) tk (qa_cons (qe_var 0) (qa_cons qe_int qa_nil))) qe_int (nomark _)) (qss_cons (qs_set (i := 9) (qe_op op_addA os_add qe_int (qe_cO C__law_below hr (by decide) tk (qa_cons (qe_var 0) (qa_cons qe_int qa_nil)))) sc__law_wide.nd)
      (qss_one (qs_setLc (i := 8) rfl sc__law_wide.nd (qi_range1 z_range (qa_cons (qe_var 4) qa_nil)) (blkOk_by (own := [("_law_k", 6)]) rfl) (cg_name (by decide)) (fun _ _ _ _ _ => (pg_name (i := 6) sc__law_wide.nd rfl (by first | exact Or.inl rfl | exact Or.inr rfl))) (fun B _ _ _ _ _ => (qts_one (qt_cmp op_lt os_lt (qe_cO C__law_below hr (by decide) takes0 (qa_cons (qe_var 0) (qa_cons qe_int qa_nil))) (qe_var 9) (nomark _)))) (fun B _ _ _ _ _ => (qe_var 6)) (sw_true rfl rfl rfl (by decide +kernel))))) qss_nil)
      (qss_cons (qs_set (i := 10) (qe_ifExp (qt_cmp (op_eqD hr.units) os_eq (qe_cO C__law_below hr (by decide) tk (qa_cons (qe_var 0) (qa_cons qe_int qa_nil))) qe_int (nomark _)) (qe_lrg1 rfl z_list z_range (qe_var 2)) (qe_cO C__law_shuffled hr (by decide) tk (qa_cons (qe_var 0) (qa_cons (qe_lrg1 rfl z_list z_range (qe_var 2)) qa_nil)))) sc__law_wide.nd)
      (qss_cons (qs_set (i := 11) (qe_callB (cr_sortedAny (hu65 hr)) cs_sorted z_sorted (by decide +kernel) (qa_cons (qe_lc rfl sc__law_wide.nd (qi_range1 z_range (qa_cons (qe_callB call_lenA cs_len z_len PySem.boot_len (qa_cons (qe_var 5) qa_nil)) qa_nil)) (blkOk_by (own := [("_law_k", 6)]) rfl) (cg_name (by decide)) (fun _ _ _ _ _ => (pg_name (i := 6) sc__law_wide.nd rfl (by first | exact Or.inl rfl | exact Or.inr rfl))) (fun B _ _ _ _ _ => qts_nil) (fun B _ _ _ _ _ => (qe_tup (qa_cons (qe_ix ix_seq os_ix (qe_ix ix_seq os_ix (qe_var 5) (qe_var 6)) qe_int) (qa_cons (qe_ix ix_seq os_ix (qe_ix ix_seq os_ix (qe_var 5) (qe_var 6)) qe_int) (qa_cons (qe_var 6) qa_nil)))))) qa_nil)) sc__law_wide.nd)
      (qss_cons (qs_set (i := 1) (qe_op op_addA os_add qe_int (qe_cO C__law_below hr (by decide) tk (qa_cons (qe_var 0) (qa_cons (qe_ix ix_seq os_ix (qe_lst (qa_cons qe_int (qa_cons qe_int qa_nil))) (qe_cO C__law_below hr (by decide) tk (qa_cons (qe_var 0) (qa_cons qe_int qa_nil)))) qa_nil)))) sc__law_wide.nd)
      (qss_one (qs_ret (qe_tup (qa_cons (qe_var 4) (qa_cons (qe_var 1) (qa_cons (qe_var 3) (qa_cons (qe_var 10) (qa_cons (qe_lc rfl sc__law_wide.nd (qi_seq (qe_var 11)) (blkOk_by (own := [("_law_one", 12)]) rfl) (cg_name (by decide)) (fun _ _ _ _ _ => (pg_name (i := 12) sc__law_wide.nd rfl (by first | exact Or.inl rfl | exact Or.inr rfl))) (fun B _ _ _ _ _ => qts_nil) (fun B _ _ _ _ _ => (qe_ix ix_seq os_ix (qe_var 5) (qe_ix ix_seq os_ix (qe_var 12) qe_int)))) (qa_cons (qe_var 8) qa_nil)))))))))))))))))))

theorem sc__law_runs : FnScope ["_law_paused", "_law_found", "_law_tick"] ["_law_paused"] (defScope (top 48)) := ⟨rfl, rfl, rfl, by decide +kernel, rfl, by decide +kernel, by decide +kernel⟩
theorem ok__law_runs {f : Addr} {fd : FuncData} {dvs : List V} {kws : List (Str × V)} (Fn : FunD K "_law_runs" "_law_runs" (defArgs (top 48)) (defBody (top 48)) (defScope (top 48)) dvs kws f fd)  : FnOk P w K mg base (L2.CX P w) 1 f fd ["_law_paused"] (spP K mg 1 F__law_runs) := by
  refine fn_P Fn sc__law_runs (fun cdv A outer s H E B hr => ?_)
  have tk := takes_of (X := cxOf (L2.CX P w) P w K mg base ["_law_paused", "_law_found", "_law_tick"] "_law_runs" (defScope (top 48)) f cdv A outer s H E) (E := E) rfl rfl rfl rfl
  have hp := passes_of (X := cxOf (L2.CX P w) P w K mg base ["_law_paused", "_law_found", "_law_tick"] "_law_runs" (defScope (top 48)) f cdv A outer s H E) (K := fun e s'' => L2.CX P w outer H s E e s'') rfl
  exact (qss_cons (qs_set (i := 1) (qe_lstO qa_nil) sc__law_runs.nd)
      (qss_cons (qs_for hp rfl (qi_seq (qe_var 0)) (qg_name (i := 2) sc__law_runs.nd) (qss_one (qs_if (PW.pt (qw_and (qt_cmp (op_neD hr.units) os_ne (qe_var 1) (qe_lst qa_nil) (nomark _)) (qw_and1 (qt_cmp (op_eqD hr.units) os_eq (qe_ix ix_seq os_ix (qe_ix ix_seq os_ix (qe_var 1) (qe_neg qe_int)) qe_int) (qe_op op_sub os_sub (qe_var 2) qe_int) (nomark _))))) (qss_one (qs_set (i := 1) (qe_op op_cat os_catO (qe_slice sl_all ss_sl (qe_var 1) qo_none (qo_some (qe_neg qe_int))) (qe_lst (qa_cons (qe_tup (qa_cons (qe_ix ix_seq os_ix (qe_ix ix_seq os_ix (qe_var 1) (qe_neg qe_int)) qe_int) (qa_cons (qe_var 2) qa_nil))) qa_nil))) sc__law_runs.nd)) (qss_one (qs_expr (qe_bm PySem.F.plainAttrs_list PySem.F.slot_list_append PySem.F.type_list_append mt_append ms_append (qe_var 1) (qa_cons (qe_tup (qa_cons (qe_var 2) (qa_cons (qe_var 2) qa_nil))) qa_nil)))))))
      (qss_one (qs_ret (qe_var 1)))))

theorem sc__law_text : FnScope ["_law_plan", "_law_length", "_law_most", "_law_names", "_law_ranks", "_law_starts", "_law_paused", "_law_lines", "_law_k", "_law_tick", "_law_valve", "_law_drops", "_law_first", "_law_last", "_law_line"] ["_law_plan"] (defScope (top 49)) := ⟨rfl, rfl, rfl, by decide +kernel, rfl, by decide +kernel, by decide +kernel⟩
theorem ok__law_text {f : Addr} {fd : FuncData} {dvs : List V} {kws : List (Str × V)} (Fn : FunD K "_law_text" "_law_text" (defArgs (top 49)) (defBody (top 49)) (defScope (top 49)) dvs kws f fd) (C__law_runs : CallPOk P w K mg base "_law_runs" 1 1 [] F__law_runs) (z_str : mg "str" = none) (z_list : mg "list" = none) (z_len : mg "len" = none) (z_range : mg "range" = none) : FnOk P w K mg base (L2.CX P w) 2 f fd ["_law_plan"] (spP K mg 1 F__law_text) := by
  refine fn_P Fn sc__law_text (fun cdv A outer s H E B hr => ?_)
  have tk := takes_of (X := cxOf (L2.CX P w) P w K mg base ["_law_plan", "_law_length", "_law_most", "_law_names", "_law_ranks", "_law_starts", "_law_paused", "_law_lines", "_law_k", "_law_tick", "_law_valve", "_law_drops", "_law_first", "_law_last", "_law_line"] "_law_text" (defScope (top 49)) f cdv A outer s H E) (E := E) rfl rfl rfl rfl
  have hp := passes_of (X := cxOf (L2.CX P w) P w K mg base ["_law_plan", "_law_length", "_law_most", "_law_names", "_law_ranks", "_law_starts", "_law_paused", "_law_lines", "_law_k", "_law_tick", "_law_valve", "_law_drops", "_law_first", "_law_last", "_law_line"] "_law_text" (defScope (top 49)) f cdv A outer s H E) (K := fun e s'' => L2.CX P w outer H s E e s'') rfl
  exact (qss_cons (qs_asg (qe_var 0) (qg_tup rfl (qgs_cons (qg_name (i := 1) sc__law_text.nd) (qgs_cons (qg_name (i := 2) sc__law_text.nd) (qgs_cons (qg_name (i := 3) sc__law_text.nd) (qgs_cons (qg_name (i := 4) sc__law_text.nd) (qgs_cons (qg_name (i := 5) sc__law_text.nd) (qgs_cons (qg_name (i := 6) sc__law_text.nd) qgs_nil))))))))
      (qss_cons (qs_set (i := 7) (qe_lstO (qa_cons (qe_lst (qa_cons qe_str (qa_cons (qe_callTy call_str_int cs_str z_str (by decide +kernel) (qa_cons (qe_var 1) qa_nil)) qa_nil))) (qa_cons (qe_lst (qa_cons qe_str (qa_cons (qe_callTy call_str_int cs_str z_str (by decide +kernel) (qa_cons (qe_var 2) qa_nil)) qa_nil))) (qa_cons (qe_op op_addA os_add (qe_lst (qa_cons qe_str qa_nil)) (qe_callTy call_list_of cs_list z_list (by decide +kernel) (qa_cons (qe_var 3) qa_nil))) qa_nil)))) sc__law_text.nd)
      (qss_cons (qs_if (qt_cmp (op_neD hr.units) os_ne (qe_var 4) (qe_lrg1 rfl z_list z_range (qe_callB call_lenA cs_len z_len PySem.boot_len (qa_cons (qe_var 3) qa_nil))) (nomark _)) (qss_one (qs_expr (qe_bm PySem.F.plainAttrs_list PySem.F.slot_list_append PySem.F.type_list_append mt_append ms_append (qe_var 7) (qa_cons (qe_op op_addA os_add (qe_lst (qa_cons qe_str qa_nil)) (qe_lc rfl sc__law_text.nd (qi_seq (qe_var 4)) (blkOk_by (own := [("_law_k", 8)]) rfl) (cg_name (by decide)) (fun _ _ _ _ _ => (pg_name (i := 8) sc__law_text.nd rfl (by first | exact Or.inl rfl | exact Or.inr rfl))) (fun B _ _ _ _ _ => qts_nil) (fun B _ _ _ _ _ => (qe_ix ix_seq os_ix (qe_var 3) (qe_var 8))))) qa_nil)))) qss_nil)
      (qss_cons (qs_set (i := 7) (qe_op op_cat os_catO (qe_var 7) (qe_lc rfl sc__law_text.nd (qi_seq (qe_var 5)) (blkOk_by (own := [("_law_tick", 9), ("_law_valve", 10), ("_law_drops", 11)]) rfl) (cg_tup (cgs_cons (cg_name (by decide)) (cgs_cons (cg_name (by decide)) (cgs_cons (cg_name (by decide)) cgs_nil)))) (fun _ _ _ _ _ => (pg_tup rfl (pgs_cons (pg_name (i := 9) sc__law_text.nd rfl (by first | exact Or.inl rfl | exact Or.inr rfl)) (pgs_cons (pg_name (i := 10) sc__law_text.nd rfl (by first | exact Or.inl rfl | exact Or.inr rfl)) (pgs_cons (pg_name (i := 11) sc__law_text.nd rfl (by first | exact Or.inl rfl | exact Or.inr rfl)) pgs_nil))))) (fun B _ _ _ _ _ => qts_nil) (fun B _ _ _ _ _ => (qe_lst (qa_cons qe_str (qa_cons (qe_ix ix_seq os_ix (qe_var 3) (qe_var 10)) (qa_cons (qe_callTy call_str_int cs_str z_str (by decide +kernel) (qa_cons (qe_var 9) qa_nil)) (qa_cons qe_str (qa_cons (qe_callTy call_str_int cs_str z_str (by decide +kernel) (qa_cons (qe_var 11) qa_nil)) qa_nil))))))))) sc__law_text.nd)
      (qss_cons (qs_set (i := 7) (qe_op op_cat os_catO (qe_var 7) (qe_lc rfl sc__law_text.nd (qi_seq (qe_cP C__law_runs hr (by decide) tk (qa_cons (qe_var 6) qa_nil))) (blkOk_by (own := [("_law_first", 12), ("_law_last", 13)]) rfl) (cg_tup (cgs_cons (cg_name (by decide)) (cgs_cons (cg_name (by decide)) cgs_nil))) (fun _ _ _ _ _ => (pg_tup rfl (pgs_cons (pg_name (i := 12) sc__law_text.nd rfl (by first | exact Or.inl rfl | exact Or.inr rfl)) (pgs_cons (pg_name (i := 13) sc__law_text.nd rfl (by first | exact Or.inl rfl | exact Or.inr rfl)) pgs_nil)))) (fun B _ _ _ _ _ => qts_nil) (fun B _ _ _ _ _ => (qe_lst (qa_cons qe_str (qa_cons (qe_callTy call_str_int cs_str z_str (by decide +kernel) (qa_cons (qe_var 12) qa_nil)) (qa_cons (qe_callTy call_str_int cs_str z_str (by decide +kernel) (qa_cons (qe_var 13) qa_nil)) qa_nil))))))) sc__law_text.nd)
      (qss_one (qs_ret (qe_bm PySem.F.plainAttrs_str PySem.F.slot_str_join PySem.F.type_str_join mt_join ms_join qe_str (qa_cons (qe_lc rfl sc__law_text.nd (qi_seq (qe_var 7)) (blkOk_by (own := [("_law_line", 14)]) rfl) (cg_name (by decide)) (fun _ _ _ _ _ => (pg_name (i := 14) sc__law_text.nd rfl (by first | exact Or.inl rfl | exact Or.inr rfl))) (fun B _ _ _ _ _ => qts_nil) (fun B _ _ _ _ _ => (qe_op op_addA os_add (qe_bm PySem.F.plainAttrs_str PySem.F.slot_str_join PySem.F.type_str_join mt_join ms_join qe_str (qa_cons (qe_var 14) qa_nil)) qe_str))) qa_nil)))))))))

theorem sc__law_word_bytes : FnScope ["_law_word", "_law_letter"] ["_law_word"] (defScope (top 50)) := ⟨rfl, rfl, rfl, by decide +kernel, rfl, by decide +kernel, by decide +kernel⟩
theorem ok__law_word_bytes {f : Addr} {fd : FuncData} {dvs : List V} {kws : List (Str × V)} (Fn : FunD K "_law_word_bytes" "_law_word_bytes" (defArgs (top 50)) (defBody (top 50)) (defScope (top 50)) dvs kws f fd) (z_len : mg "len" = none) : FnOk P w K mg base (L2.CX P w) 1 f fd ["_law_word"] (spP K mg 1 F__law_word_bytes) := by
  refine fn_P Fn sc__law_word_bytes (fun cdv A outer s H E B hr => ?_)
  have tk := takes_of (X := cxOf (L2.CX P w) P w K mg base ["_law_word", "_law_letter"] "_law_word_bytes" (defScope (top 50)) f cdv A outer s H E) (E := E) rfl rfl rfl rfl
  have hp := passes_of (X := cxOf (L2.CX P w) P w K mg base ["_law_word", "_law_letter"] "_law_word_bytes" (defScope (top 50)) f cdv A outer s H E) (K := fun e s'' => L2.CX P w outer H s E e s'') rfl
  exact (qss_one (qs_ret (qe_op op_addA os_add (qe_lst (qa_cons (qe_callB call_lenA cs_len z_len PySem.boot_len (qa_cons (qe_var 0) qa_nil)) qa_nil)) (qe_lc rfl sc__law_word_bytes.nd (qi_seq (qe_var 0)) (blkOk_by (own := [("_law_letter", 1)]) rfl) (cg_name (by decide)) (fun _ _ _ _ _ => (pg_name (i := 1) sc__law_word_bytes.nd rfl (by first | exact Or.inl rfl | exact Or.inr rfl))) (fun B _ _ _ _ _ => qts_nil) (fun B _ _ _ _ _ => (qe_bm PySem.F.plainAttrs_str PySem.F.slot_str_index PySem.F.type_str_index mt_sindex ms_sindex qe_str (qa_cons (qe_var 1) qa_nil)))))))

theorem sc__law_bytes : FnScope ["_law_plan", "_law_length", "_law_most", "_law_names", "_law_ranks", "_law_starts", "_law_paused", "_law_found", "_law_name", "_law_start", "_law_runs_here", "_law_run"] ["_law_plan"] (defScope (top 51)) := ⟨rfl, rfl, rfl, by decide +kernel, rfl, by decide +kernel, by decide +kernel⟩
theorem ok__law_bytes {f : Addr} {fd : FuncData} {dvs : List V} {kws : List (Str × V)} (Fn : FunD K "_law_bytes" "_law_bytes" (defArgs (top 51)) (defBody (top 51)) (defScope (top 51)) dvs kws f fd) (z_list : mg "list" = none) (z_len : mg "len" = none) (C__law_runs : CallPOk P w K mg base "_law_runs" 1 1 [] F__law_runs) (C__law_word_bytes : CallPOk P w K mg base "_law_word_bytes" 1 1 [] F__law_word_bytes) : FnOk P w K mg base (L2.CX P w) 2 f fd ["_law_plan"] (spN K mg 1 F__law_bytes) := by
  refine fn_N Fn sc__law_bytes (fun cdv A outer s H E B hr => ?_)
  have tk := takes_of (X := cxOf (L2.CX P w) P w K mg base ["_law_plan", "_law_length", "_law_most", "_law_names", "_law_ranks", "_law_starts", "_law_paused", "_law_found", "_law_name", "_law_start", "_law_runs_here", "_law_run"] "_law_bytes" (defScope (top 51)) f cdv A outer s H E) (E := E) rfl rfl rfl rfl
  have hp := passes_of (X := cxOf (L2.CX P w) P w K mg base ["_law_plan", "_law_length", "_law_most", "_law_names", "_law_ranks", "_law_starts", "_law_paused", "_law_found", "_law_name", "_law_start", "_law_runs_here", "_law_run"] "_law_bytes" (defScope (top 51)) f cdv A outer s H E) (K := fun e s'' => L2.CX P w outer H s E e s'') rfl
  exact (qss_cons (qs_asg (qe_var 0) (qg_tup rfl (qgs_cons (qg_name (i := 1) sc__law_bytes.nd) (qgs_cons (qg_name (i := 2) sc__law_bytes.nd) (qgs_cons (qg_name (i := 3) sc__law_bytes.nd) (qgs_cons (qg_name (i := 4) sc__law_bytes.nd) (qgs_cons (qg_name (i := 5) sc__law_bytes.nd) (qgs_cons (qg_name (i := 6) sc__law_bytes.nd) qgs_nil))))))))
      (qss_cons (qs_set (i := 7) (qe_lstO (qa_cons qe_int (qa_cons (qe_var 1) (qa_cons (qe_var 2) (qa_cons (qe_callB call_lenA cs_len z_len PySem.boot_len (qa_cons (qe_var 3) qa_nil)) qa_nil))))) sc__law_bytes.nd)
      (qss_cons (qs_for hp rfl (qi_seq (qe_var 3)) (qg_name (i := 8) sc__law_bytes.nd) (qss_one (qs_set (i := 7) (qe_op op_cat os_catO (qe_var 7) (qe_cP C__law_word_bytes hr (by decide) tk (qa_cons (qe_var 8) qa_nil))) sc__law_bytes.nd)))
      (qss_cons (qs_set (i := 7) (qe_op op_cat os_catO (qe_op op_addA os_add (qe_var 7) (qe_var 4)) (qe_lst (qa_cons (qe_callB call_lenA cs_len z_len PySem.boot_len (qa_cons (qe_var 5) qa_nil)) qa_nil))) sc__law_bytes.nd)
      (qss_cons (qs_for hp rfl (qi_seq (qe_var 5)) (qg_name (i := 9) sc__law_bytes.nd) (qss_one (qs_set (i := 7) (qe_op op_cat os_catO (qe_var 7) (qe_callTy call_list_of cs_list z_list (by decide +kernel) (qa_cons (qe_var 9) qa_nil))) sc__law_bytes.nd)))
      (qss_cons (qs_set (i := 10) (qe_cP C__law_runs hr (by decide) tk (qa_cons (qe_var 6) qa_nil)) sc__law_bytes.nd)
      (qss_cons (qs_expr (qe_bm PySem.F.plainAttrs_list PySem.F.slot_list_append PySem.F.type_list_append mt_append ms_append (qe_var 7) (qa_cons (qe_callB call_lenA cs_len z_len PySem.boot_len (qa_cons (qe_var 10) qa_nil)) qa_nil)))
      (qss_cons (qs_for hp rfl (qi_seq (qe_var 10)) (qg_name (i := 11) sc__law_bytes.nd) (qss_one (qs_set (i := 7) (qe_op op_cat os_catO (qe_var 7) (qe_callTy call_list_of cs_list z_list (by decide +kernel) (qa_cons (qe_var 11) qa_nil))) sc__law_bytes.nd)))
      (qss_one (qs_ret (qe_var 7)))))))))))

theorem sc__law_equal : FnScope ["_law_actual", "_law_expected", "_law_k"] ["_law_actual", "_law_expected"] (defScope (top 52)) := ⟨rfl, rfl, rfl, by decide +kernel, rfl, by decide +kernel, by decide +kernel⟩
theorem ok__law_equal {lv : Nat} {F__law_equal : OF} {f : Addr} {fd : FuncData} {dvs : List V} {kws : List (Str × V)} (Fn : FunD K "_law_equal" "_law_equal" (defArgs (top 52)) (defBody (top 52)) (defScope (top 52)) dvs kws f fd) (z_all : mg "all" = none) (z_len : mg "len" = none) (z_range : mg "range" = none) (C__law_equal : CallOOk P w K mg base "_law_equal" lv 2 [] F__law_equal) (z_isinstance : mg "isinstance" = none) (z_list : mg "list" = none) (z_tuple : mg "tuple" = none) (z_str : mg "str" = none) (z_int : mg "int" = none) (z_bool : mg "bool" = none) : FnOk P w K mg base (L2.CX P w) (lv + 1) f fd ["_law_actual", "_law_expected"] (spO K mg 2 (asC 3 (b__law_equal F__law_equal))) := by
  refine fn_C Fn sc__law_equal (fun cdv A outer s H E B hr => ?_)
  have tk := takes_of (X := cxOf (L2.CX P w) P w K mg base ["_law_actual", "_law_expected", "_law_k"] "_law_equal" (defScope (top 52)) f cdv A outer s H E) (E := E) rfl rfl rfl rfl
  have hp := passes_of (X := cxOf (L2.CX P w) P w K mg base ["_law_actual", "_law_expected", "_law_k"] "_law_equal" (defScope (top 52)) f cdv A outer s H E) (K := fun e s'' => L2.CX P w outer H s E e s'') rfl
  exact (qss_cons (qs_if (qt_cmp op_isN os_isN (qe_var 1) qe_non (nomark _)) (qss_one (qs_ret (qe_cmp op_isN os_isN (qe_var 0) qe_non (nomark _)))) qss_nil)
      (qss_cons (qs_if (qt_val (qe_callB call_isi cs_isi z_isinstance (by decide +kernel) (qa_cons (qe_var 1) (qa_cons (qe_ty z_bool (by decide +kernel)) qa_nil)))) (qss_one (qs_ret (qe_and (qe_callB call_isi cs_isi z_isinstance (by decide +kernel) (qa_cons (qe_var 0) (qa_cons (qe_ty z_bool (by decide +kernel)) qa_nil))) (qe_one (qe_cmp (op_eqD hr.units) os_eq (qe_var 0) (qe_var 1) (nomark _)))))) qss_nil)
      (qss_cons (qs_if (qt_val (qe_callB call_isi cs_isi z_isinstance (by decide +kernel) (qa_cons (qe_var 1) (qa_cons (qe_ty z_int (by decide +kernel)) qa_nil)))) (qss_one (qs_ret (qe_and (qe_callB call_isi cs_isi z_isinstance (by decide +kernel) (qa_cons (qe_var 0) (qa_cons (qe_ty z_int (by decide +kernel)) qa_nil))) (qe_and (qe_not (qe_callB call_isi cs_isi z_isinstance (by decide +kernel) (qa_cons (qe_var 0) (qa_cons (qe_ty z_bool (by decide +kernel)) qa_nil)))) (qe_one (qe_cmp (op_eqD hr.units) os_eq (qe_var 0) (qe_var 1) (nomark _))))))) qss_nil)
      (qss_cons (qs_if (qt_val (qe_callB call_isi cs_isi z_isinstance (by decide +kernel) (qa_cons (qe_var 1) (qa_cons (qe_ty z_str (by decide +kernel)) qa_nil)))) (qss_one (qs_ret (qe_and (qe_callB call_isi cs_isi z_isinstance (by decide +kernel) (qa_cons (qe_var 0) (qa_cons (qe_ty z_str (by decide +kernel)) qa_nil))) (qe_one (qe_cmp (op_eqD hr.units) os_eq (qe_var 0) (qe_var 1) (nomark _)))))) qss_nil)
      (qss_cons (qs_if (qt_cmp (op_neD hr.units) os_ne (qe_callB call_isi cs_isi z_isinstance (by decide +kernel) (qa_cons (qe_var 1) (qa_cons (qe_ty z_tuple (by decide +kernel)) qa_nil))) (qe_callB call_isi cs_isi z_isinstance (by decide +kernel) (qa_cons (qe_var 0) (qa_cons (qe_ty z_tuple (by decide +kernel)) qa_nil))) (nomark _)) (qss_one (qs_ret qe_bl)) qss_nil)
      (qss_cons (qs_if (qt_cmp (op_neD hr.units) os_ne (qe_callB call_isi cs_isi z_isinstance (by decide +kernel) (qa_cons (qe_var 1) (qa_cons (qe_ty z_list (by decide +kernel)) qa_nil))) (qe_callB call_isi cs_isi z_isinstance (by decide +kernel) (qa_cons (qe_var 0) (qa_cons (qe_ty z_list (by decide +kernel)) qa_nil))) (nomark _)) (qss_one (qs_ret qe_bl)) qss_nil)
      (qss_cons (qs_if (qt_cmp (op_neD hr.units) os_ne (qe_callB call_lenA cs_len z_len PySem.boot_len (qa_cons (qe_var 0) qa_nil)) (qe_callB call_lenA cs_len z_len PySem.boot_len (qa_cons (qe_var 1) qa_nil)) (nomark _)) (qss_one (qs_ret qe_bl)) qss_nil)
      (qss_one (qs_ret (qe_callB (cr_all rfl) cs_all z_all (by decide +kernel) (qa_cons (qe_lc rfl sc__law_equal.nd (qi_range1 z_range (qa_cons (qe_callB call_lenA cs_len z_len PySem.boot_len (qa_cons (qe_var 1) qa_nil)) qa_nil)) (blkOk_by (own := [("_law_k", 2)]) rfl) (cg_name (by decide)) (fun _ _ _ _ _ => (pg_name (i := 2) sc__law_equal.nd rfl (by first | exact Or.inl rfl | exact Or.inr rfl))) (fun B _ _ _ _ _ => qts_nil) (fun B _ _ _ _ _ => (qe_cO C__law_equal hr (Nat.le_refl _) takes0 (qa_cons (qe_ix ix_seq os_ix (qe_var 0) (qe_var 2)) (qa_cons (qe_ix ix_seq os_ix (qe_var 1) (qe_var 2)) qa_nil))))) qa_nil)))))))))))

theorem sc_law : FnScope ["_law_script", "_law_d", "_law_step", "_law_plan", "_law_text_here", "_law_expected", "_law_again", "_law_code"] ["_law_script"] (defScope (top 53)) := ⟨rfl, rfl, rfl, by decide +kernel, rfl, by decide +kernel, by decide +kernel⟩
theorem ok_law {f : Addr} {fd : FuncData} {dvs : List V} {kws : List (Str × V)} (Fn : FunD K "law" "law" (defArgs (top 53)) (defBody (top 53)) (defScope (top 53)) dvs kws f fd) (z_range : mg "range" = none) (C_decode : CallOOk P w K mg base "decode" 5 1 [] F_decode) (C__law_equal : CallOOk P w K mg base "_law_equal" 6 2 [] (F__law_equal 6)) (C_encode : CallNOk P w K mg base "encode" 9 1 [] F_encode) (z_sum : mg "sum" = none) (C__law_bytes : CallNOk P w K mg base "_law_bytes" 2 1 [] F__law_bytes) (C__law_text : CallPOk P w K mg base "_law_text" 2 1 [] F__law_text) (C__law_wide : CallOOk P w K mg base "_law_wide" 3 2 [] F__law_wide) (C__law_random : CallNOk P w K mg base "_law_random" 1 2 [] F__law_random) : FnOk P w K mg base (L2.CX P w) 10 f fd ["_law_script"] (spP K mg 1 F_law) := by
  refine fn_P Fn sc_law (fun cdv A outer s H E B hr => ?_)
  have tk := takes_of (X := cxOf (L2.CX P w) P w K mg base ["_law_script", "_law_d", "_law_step", "_law_plan", "_law_text_here", "_law_expected", "_law_again", "_law_code"] "law" (defScope (top 53)) f cdv A outer s H E) (E := E) rfl rfl rfl rfl
  have hp := passes_of (X := cxOf (L2.CX P w) P w K mg base ["_law_script", "_law_d", "_law_step", "_law_plan", "_law_text_here", "_law_expected", "_law_again", "_law_code"] "law" (defScope (top 53)) f cdv A outer s H E) (K := fun e s'' => L2.CX P w outer H s E e s'') rfl
  exact (qss_cons (qs_set (i := 1) (qe_cN C__law_random hr (by decide) tk (qa_cons (qe_var 0) (qa_cons qe_int qa_nil))) sc_law.nd)
      (qss_cons (qs_for hp rfl (qi_range1 z_range (qa_cons qe_int qa_nil)) (qg_name (i := 2) sc_law.nd) (qss_cons (qs_set (i := 3) (qe_cO C__law_wide hr (by decide) tk (qa_cons (qe_var 1) (qa_cons qe_int qa_nil))) sc_law.nd)
      (qss_cons (qs_par (i := 4) (j := 5) rfl sc_law.nd (by decide) (qa_cons (qe_cP C__law_text hr (by decide) tk (qa_cons (qe_var 3) qa_nil)) (qa_cons (qe_cN C__law_bytes hr (by decide) tk (qa_cons (qe_var 3) qa_nil)) qa_nil)) rfl)
      (qss_cons (qs_expr (qe_bm PySem.F.plainAttrs_list PySem.F.slot_list_append PySem.F.type_list_append mt_append ms_append (qe_var 5) (qa_cons (qe_op op_mod os_mod (qe_callB (cr_sum rfl) cs_sum z_sum (by decide +kernel) (qa_cons (qe_var 5) qa_nil)) qe_int) qa_nil)))
      (qss_one (qs_for hp rfl (qi_range1 z_range (qa_cons qe_int qa_nil)) (qg_name (i := 6) sc_law.nd) (qss_cons (qs_set (i := 7) (qe_cN C_encode hr (by decide) tk (qa_cons (qe_var 4) qa_nil)) sc_law.nd)
      (qss_cons (qs_if (PW.pt (qw_or (qt_not (qt_val (qe_cO C__law_equal hr (by decide) tk (qa_cons (qe_var 7) (qa_cons (qe_var 5) qa_nil))))) (qw_or (qt_not (qt_val (qe_cO C__law_equal hr (by decide) tk (qa_cons (qe_cO C_decode hr (by decide) tk (qa_cons (qe_var 7) qa_nil)) (qa_cons (qe_var 4) qa_nil))))) (qw_or1 (qt_cmp (op_neD hr.units) os_ne (qe_var 7) (qe_var 5) (nomark _)))))) (qss_one (qs_ret qe_bl)) qss_nil)
      (qss_one (qs_expr (qe_bm PySem.F.plainAttrs_list PySem.F.slot_list_append PySem.F.type_list_append mt_append ms_append (qe_var 7) (qa_cons qe_int qa_nil))))))))))))
      (qss_one (qs_ret qe_bl))))

end
end G
/-! The end: the facts that the head tells, as the derivations want them. -/
namespace Cl
open PySem L2
/-- what is known of an error class with attributes -/
def oexB (K : PySem.W.Frag) (C : Addr) : Bool := match K.lookup C with
  | some ⟨.type t, _, .cls cd, sl⟩ => (match cd.mro, sl.toList with
    | .ref C' :: bm, [_, _, _, _, some (.builtin n), _] => t == "type" && (C' == C && (n == "ValueError.__new__" && (!cd.hasDel && (cd.hasDict && PySem.HandSPX.refsVE bm))))
    | _, _ => false)
  | _ => false
def errB (K : PySem.W.Frag) (x : Str) (fn : List Str) : Bool :=
  oexB K (He.ga K x) && (He.eqO (PySem.W.findIn K (.ref (He.ga K x)) "__setattr__") (some (some (.builtin "object.__setattr__"))) &&
    (decide (PySem.W.subIn K (.ref (He.ga K x)) (.type "BaseException") = some true) && (decide (PySem.W.typeIn K (.ref (He.ga K x)) = some (.type "type")) &&
      (PySem.W.keepIn K (.ref (He.ga K x)) && (He.eqO (PySem.W.findIn K (.ref (He.ga K x)) "__init__") (some (some (.ref (He.ma K (He.ga K x) "__init__")))) &&
        (decide (PySem.W.typeIn K (.ref (He.ma K (He.ga K x) "__init__")) = some (.type "function")) && fn.all fun f => He.eqO (PySem.W.findIn K (.ref (He.ga K x)) f) (some none)))))))
def ginB (K : PySem.W.Frag) (x : Str) : Bool :=
  He.eqO (PySem.W.specialIn K (.ref (He.ga K x)) "__getattribute__") (some (some (.builtin "type.__getattribute__"))) && (PySem.W.readsIn K (He.ga K x) (.type "type") &&
    (match PySem.W.findCls K (.ref (He.ga K x)) (.type "type") "__init__" with
    | some (.val v) => decide (v = .builtin "ValueError.__init__")
    | _ => false))
/-- the tables of lambdas are among tf -/
def lamB (K : PySem.W.Frag) (tf : List He.Defn) : Bool := lamOk K && lamDefs.all fun p => !hdB K p.1 || decide (p.1 ∈ tf)
theorem oexB_ok {K : PySem.W.Frag} {C : Addr} (h : oexB K C = true) : ∃ nm q N bs bm sn sub ab col dd k0 k1 k2 k3 k5, K.lookup C = some (PySem.excClassObj nm q C N bs bm true sn sub ab col dd k0 k1 k2 k3 k5 "ValueError.__new__") ∧ PySem.HandSPX.refsVE bm = true := by
  unfold oexB at h
  split at h
  · rename_i t dd cd sl ho
    split at h
    · rename_i C' bm k0 k1 k2 k3 n k5 hm hs
      simp only [Bool.and_eq_true, beq_iff_eq, Bool.not_eq_true'] at h
      obtain ⟨rfl, rfl, rfl, hdel, hdct, hr⟩ := h
      obtain ⟨nm, bs, mro, ns, qn, hd, sn, sub, ab, col, del⟩ := cd
      dsimp only at hm hdel hdct
      subst hm hdel hdct
      have hsl : sl = #[k0, k1, k2, k3, some (.builtin "ValueError.__new__"), k5] := by
        obtain ⟨l⟩ := sl
        simp only at hs
        rw [hs]
      subst hsl
      exact ⟨nm, qn, ns, bs, bm, sn, sub, ab, col, dd, k0, k1, k2, k3, k5, ho, hr⟩
    · cases h
  · cases h
structure ErrOk (K : PySem.W.Frag) (x : Str) (fn : List Str) : Prop where
  o : OexC K (He.ga K x)
  i : PySem.W.findIn K (.ref (He.ga K x)) "__init__" = some (some (.ref (He.ma K (He.ga K x) "__init__")))
  t : PySem.W.typeIn K (.ref (He.ma K (He.ga K x) "__init__")) = some (.type "function")
  n : ∀ f ∈ fn, PySem.W.findIn K (.ref (He.ga K x)) f = some none
theorem errB_ok {K : PySem.W.Frag} {x : Str} {fn : List Str} (h : errB K x fn = true) : ErrOk K x fn := by
  obtain ⟨h1, h⟩ := He.ba h
  obtain ⟨h2, h⟩ := He.ba h
  obtain ⟨h3, h⟩ := He.ba h
  obtain ⟨h4, h⟩ := He.ba h
  obtain ⟨h5, h⟩ := He.ba h
  obtain ⟨h6, h⟩ := He.ba h
  obtain ⟨h7, h8⟩ := He.ba h
  exact ⟨⟨oexB_ok h1, He.eqO_ok h2, of_decide_eq_true h3, of_decide_eq_true h4, h5⟩, He.eqO_ok h6, of_decide_eq_true h7, fun f hf => He.eqO_ok (List.all_eq_true.mp h8 f hf)⟩
theorem ginB_ok {K : PySem.W.Frag} {x : Str} (h : ginB K x = true) : GInit K (He.ga K x) := by
  obtain ⟨h1, h⟩ := He.ba h
  obtain ⟨h2, h3⟩ := He.ba h
  refine ⟨He.eqO_ok h1, h2, ?_⟩
  split at h3
  · rename_i v e
    rw [e, of_decide_eq_true h3]
  · cases h3
section
variable {P : Program} {w : World} {K : PySem.W.Frag} {h : Heap} {mg : Str → Option Value} {base : Heap} {fa : List He.Fa} {fn : List He.DefD} {tf : List He.Defn} {ex : PySem.W.Frag → Bool} {ts : List He.Tab}
theorem e_int (X : K.In h) (G : h.Ns mainGlobals mg) (c : He.SaysD fa fn K) {x : Str} {i : Int} (hm : He.Fa.int x i ∈ fa) : GInt mg x i := He.int_ok X G (c.facts hm)
theorem e_str (X : K.In h) (G : h.Ns mainGlobals mg) (c : He.SaysD fa fn K) {x z : Str} (hm : He.Fa.str x z ∈ fa) : GStr mg x z := He.str_ok X G (c.facts hm)
theorem e_free (X : K.In h) (G : h.Ns mainGlobals mg) (c : He.SaysD fa fn K) {x : Str} (hm : He.Fa.free x ∈ fa) : mg x = none := He.free_ok X G (c.facts hm)
theorem e_tup (X : K.In h) (G : h.Ns mainGlobals mg) (c : He.SaysD fa fn K) {x : Str} {zs : List Str} (hm : He.Fa.glo x ∈ fa) (t : He.tupB K x (zs.map He.Dv.str) = true) : GTupS K mg x zs := by
  refine ⟨_, He.glo_ok X G (c.facts hm), fun H => ?_⟩
  have := He.tupB_ok t H
  rw [List.map_map] at this
  exact this
theorem e_cls (X : K.In h) (G : h.Ns mainGlobals mg) (c : He.SaysD fa fn K) {n f : Str} (h1 : He.Fa.glo n ∈ fa) (h2 : He.Fa.cls n ∈ fa) (h3 : He.Fa.noat n f ∈ fa) : ClsF K mg [n] f := fun m hm C hC => by
  rw [List.mem_singleton.mp hm] at hC
  rw [He.glo_ok X G (c.facts h1)] at hC
  cases hC
  exact ⟨He.cls_ok (c.facts h2), He.noat_ok (c.facts h3)⟩
theorem e_cls2 {ns : List Str} {n f : Str} (h1 : ClsF K mg [n] f) (h2 : ClsF K mg ns f) : ClsF K mg (n :: ns) f := fun m hm C hC => by
  rcases List.mem_cons.mp hm with rfl | hm
  · exact h1 _ (List.mem_singleton.mpr rfl) C hC
  · exact h2 m hm C hC
theorem e_r0 (X : K.In h) (G : h.Ns mainGlobals mg) (c : He.SaysD fa fn K) {x : Str} (h1 : He.Fa.glo x ∈ fa) (h2 : He.Fa.exc x ∈ fa) : Raise0Ok K mg x := by
  obtain ⟨a1, a2, a3, a4⟩ := He.exc_ok (c.facts h2)
  exact ⟨_, a1, He.glo_ok X G (c.facts h1), a2, a3, a4⟩
variable {x cn qual : Str} {stm : Stmt} {fd : FuncData} {k n : Nat} {f : PF} {g : OF} {ps : List Str} {kws : List (Str × V)}
theorem e_callP (X : K.In h) (G : h.Ns mainGlobals mg) (c : He.SaysD fa fn K) (Fn : FunD K x qual (defArgs stm) (defBody stm) (defScope stm) [] kws (He.ga K x) fd) (hm : He.Fa.glo x ∈ fa) (hb : Binds K fd ps [])
    (ok : FnOk P w K mg base (L2.CX P w) k (He.ga K x) fd ps (spP K mg n f)) : CallPOk P w K mg base x k n [] f :=
  ⟨_, fd, ps, [], [], ok, He.glo_ok X G (c.facts hm), Fn.kp, hb, .nil, fun _ => .nil⟩
theorem e_callO (X : K.In h) (G : h.Ns mainGlobals mg) (c : He.SaysD fa fn K) (Fn : FunD K x qual (defArgs stm) (defBody stm) (defScope stm) [] kws (He.ga K x) fd) (hm : He.Fa.glo x ∈ fa) (hb : Binds K fd ps [])
    (ok : FnOk P w K mg base (L2.CX P w) k (He.ga K x) fd ps (spO K mg n g)) : CallOOk P w K mg base x k n [] g :=
  ⟨_, fd, ps, [], [], ok, He.glo_ok X G (c.facts hm), Fn.kp, hb, .nil, fun _ => .nil⟩
theorem e_call0 (X : K.In h) (G : h.Ns mainGlobals mg) (c : He.SaysD fa fn K) (Fn : FunD K x qual (defArgs stm) (defBody stm) (defScope stm) [] kws (He.ga K x) fd) (hm : He.Fa.glo x ∈ fa) (hb : Binds K fd ps []) : CallOOk P w K mg base x 0 n [] fun _ _ => none :=
  ⟨_, fd, ps, [], [], ⟨fun vs H Q E z => (by obtain ⟨B, F, rho, st, ss, _, _, _, z⟩ := z; exact z.elim), fun A outer s H args us vs Q E _ _ _ _ z => (by obtain ⟨B, F, rho, st, ss, _, _, _, z⟩ := z; exact z.elim)⟩, He.glo_ok X G (c.facts hm), Fn.kp, hb, .nil, fun _ => .nil⟩
theorem e_callN (X : K.In h) (G : h.Ns mainGlobals mg) (c : He.SaysD fa fn K) (Fn : FunD K x qual (defArgs stm) (defBody stm) (defScope stm) [] kws (He.ga K x) fd) (hm : He.Fa.glo x ∈ fa) (hb : Binds K fd ps [])
    (ok : FnOk P w K mg base (L2.CX P w) k (He.ga K x) fd ps (spN K mg n f)) : CallNOk P w K mg base x k n [] f :=
  ⟨_, fd, ps, [], [], ok, He.glo_ok X G (c.facts hm), Fn.kp, hb, .nil, fun _ => .nil⟩
theorem e_methP (X : K.In h) (G : h.Ns mainGlobals mg) (c : He.SaysD fa fn K) (h1 : He.Fa.glo cn ∈ fa) (h2 : He.Fa.cls cn ∈ fa) (h3 : He.Fa.meth cn x ∈ fa) (hb : Binds K fd ps [])
    (ok : FnOk P w K mg base (L2.CX P w) k (He.ma K (He.ga K cn) x) fd ps (spP K mg n f)) : MethPOk P w K mg base cn x k n [] f :=
  ⟨_, _, fd, ps, [], [], He.glo_ok X G (c.facts h1), He.cls_ok (c.facts h2), He.meth_ok (c.facts h3), ok, hb, .nil, fun _ => .nil⟩
theorem e_methO (X : K.In h) (G : h.Ns mainGlobals mg) (c : He.SaysD fa fn K) (h1 : He.Fa.glo cn ∈ fa) (h2 : He.Fa.cls cn ∈ fa) (h3 : He.Fa.meth cn x ∈ fa) (hb : Binds K fd ps [])
    (ok : FnOk P w K mg base (L2.CX P w) k (He.ma K (He.ga K cn) x) fd ps (spO K mg n g)) : MethOOk P w K mg base cn x k n [] g :=
  ⟨_, _, fd, ps, [], [], He.glo_ok X G (c.facts h1), He.cls_ok (c.facts h2), He.meth_ok (c.facts h3), ok, hb, .nil, fun _ => .nil⟩
theorem e_makeM (X : K.In h) (G : h.Ns mainGlobals mg) (c : He.SaysD fa fn K) (h1 : He.Fa.glo cn ∈ fa) (h2 : He.Fa.mkr cn ∈ fa) (hb : Binds K fd ps [])
    (ok : FnOk P w K mg base (L2.CX P w) k (He.ma K (He.ga K cn) "__init__") fd ps (spM K mg cn n f)) : MakeMOk P w K mg base cn k n [] f :=
  ⟨_, _, fd, ps, [], [], He.glo_ok X G (c.facts h1), He.mkr_ok (c.facts h2), ok, hb, .nil, fun _ => .nil⟩
theorem e_makeO (X : K.In h) (G : h.Ns mainGlobals mg) (c : He.SaysD fa fn K) (h1 : He.Fa.glo cn ∈ fa) (h2 : He.Fa.mkr cn ∈ fa) (hb : Binds K fd ps [])
    (ok : FnOk P w K mg base (L2.CX P w) k (He.ma K (He.ga K cn) "__init__") fd ps (spO K mg n g)) : MakeOOk P w K mg base cn k n [] g :=
  ⟨_, _, fd, ps, [], [], He.glo_ok X G (c.facts h1), He.mkr_ok (c.facts h2), ok, hb, .nil, fun _ => .nil⟩
theorem e_raise (X : K.In h) (G : h.Ns mainGlobals mg) (c : He.SaysD fa fn K) {fs : List Str} (h1 : He.Fa.glo cn ∈ fa) (T : ErrOk K cn fs) (hb : Binds K fd ps [])
    (ok : FnOk P w K mg base (L2.CX P w) k (He.ma K (He.ga K cn) "__init__") fd ps (spX (He.ga K cn) fs.length fun ws => backF fs ws)) : RaiseXOk P w K mg base cn fs k :=
  ⟨_, _, fd, ps, T.o, T.i, T.t, ok, hb, He.glo_ok X G (c.facts h1)⟩
/-- a def that makes lambdas -/
theorem e_lam {p : He.Defn} {dvs : List V} (lb : lamB K tf = true) (hd : ∀ p ∈ tf, PySem.W.codeHdIn K (He.cT K p).1 (He.cT K p).2 = true) (Fn : FunD K x qual (defArgs stm) (defBody stm) (defScope stm) dvs kws (He.fAd K p) fd)
    (TB : ∀ q ∈ tf.map (He.cT K), LamX.TabB base mg q.1 q.2) (hp : p ∈ tf) (hl : (p, (qual ++ ".<locals>.") ++ "<lambda>") ∈ lamDefs) : LamOk K mg base fd qual := by
  obtain ⟨oc, od, dV, kV, doc, pm, an, cdv, ct, osl, e, lk, hcd, _, _⟩ := Fn.ex
  obtain ⟨cc, hcc⟩ := He.codeIn_ref hcd
  have e1 : fd.code = .ref cc := by rw [e]; exact hcc
  have e2 : He.codeOf K p = cc := He.codeOf_eq lk e1
  refine ⟨(He.cT K p).1, (He.cT K p).2, by rw [e1, ← e2]; rfl, TB _ (List.mem_map.mpr ⟨p, hp, rfl⟩), (He.ba lb).1, _, hl, hd p hp, rfl, rfl⟩
/-- the tables are all among cs -/
theorem tabs_start (lb : lamB K tf = true) {H F : Hp} (hH : ∀ q ∈ tf.map (He.cT K), H q.2 = some (.tbl #[])) (hF : ∀ q ∈ tf.map (He.cT K), F q.2 = none) : Tabs K F H := fun PT q ⟨_, p, hp, hb, e, _⟩ => by
  have hm := List.all_eq_true.mp (He.ba lb).2 p hp
  rw [hb] at hm
  have hm2 : p.1 ∈ tf := of_decide_eq_true (by simpa using hm)
  have hq : He.cT K p.1 ∈ tf.map (He.cT K) := List.mem_map.mpr ⟨_, hm2, rfl⟩
  subst e
  exact ⟨hF _ hq, LamX.TabS.nil (hH _ hq)⟩
theorem reps_ints {F : Hp} : ∀ (ns : List Int), Reps K mg F (ns.map V.int) (ns.map D.int)
  | [] => .nil
  | z :: zs => .cons (.int z) (reps_ints zs)
/-- the law's promise -/
theorem law_sp (lb : lamB K tf = true) {H : Hp} {a : Addr} {ns : List Int} {F_law : PF} (hH : ∀ q ∈ tf.map (He.cT K), H q.2 = some (.tbl #[])) (hS : SqL K H a (ns.map V.int)) (hl : F_law [.scr (ns.map D.int)] = some (.ok (.bl true))) :
    spP K mg 1 F_law [.ref a] H (fun v _ => v = .bl true) fun _ _ _ => False := by
  have key : ∀ F : Hp, Same F H → Tabs K F H → SqL K F a (ns.map V.int) → spP K mg 1 F_law [.ref a] H (fun v _ => v = .bl true) fun _ _ _ => False := fun F hs ht hq => by
    refine ⟨F, [.scr (ns.map D.int)], hs, ht, .cons (.scr hq (reps_ints ns)) .nil, rfl, ?_⟩
    rw [hl]
    intro F' H' _ _ _ _ _ v hv
    cases hv
    rfl
  have pick : ∀ u : HO, H a = some u → (∀ ps, u ≠ .tbl ps) → SqL K (fun b => if b = a then H a else none) a (ns.map V.int) → spP K mg 1 F_law [.ref a] H (fun v _ => v = .bl true) fun _ _ _ => False := fun u hu hn hq => by
    refine key (fun b => if b = a then H a else none) (fun b o e => ?_) (tabs_start lb hH fun q hq => ?_) hq
    · by_cases z : b = a
      · subst z; simpa using e
      · simp [z] at e
    · have : q.2 ≠ a := fun z => by
        have := hH q hq
        rw [z, hu] at this
        exact hn _ (Option.some.inj this)
      simp [this]
  rcases hS with (hS | ⟨o, hS⟩) | hS
  · exact pick _ hS (fun ps z => by cases z) (.inl (.inl (by simpa using hS)))
  · exact pick _ hS (fun ps z => by cases z) (.inl (.inr ⟨o, by simpa using hS⟩))
  · exact key (fun _ => none) (fun b o e => by cases e) (tabs_start lb hH fun q hq => rfl) (.inr hS)
end
/-! ### the head's facts, with the statics -/
def rootsY (g : Addr → Option Obj) (n : Nat) : List Addr := cStatics :: He.asD g n
def partY (n : Nat) (g : Addr → Option Obj) : PySem.W.Frag := He.frT g (rootsY g n)
def toldY (n : Nat) (fa : List He.Fa) (fn : List He.DefD) (tf : List He.Defn) (ex : PySem.W.Frag → Bool) (g : Addr → Option Obj) : He.AlX :=
  (He.obsT fa fn [] (partY n g), ex (partY n g) && He.tabsB g tf (partY n g))
theorem told_says {n : Nat} {fa : List He.Fa} {fn : List He.DefD} {tf : List He.Defn} {ex : PySem.W.Frag → Bool} {w : World} {h : Heap}
    (e : toldY n fa fn tf ex h.get? = He.valX fn [] w) : He.SaysX fa fn [] tf ex w h (partY n h.get?) := by
  have both := Prod.ext_iff.mp e
  have more : ex (partY n h.get?) = true ∧ He.tabsB h.get? tf (partY n h.get?) = true := He.ba both.2
  have each : ∀ p ∈ tf, PySem.W.codeHdIn (partY n h.get?) (He.cT (partY n h.get?) p).1 (He.cT (partY n h.get?) p).2 = true ∧
      ∃ o, h.get? (He.cT (partY n h.get?) p).2 = some o ∧ He.emptyTab o = true := by
    intro p hp
    have both := He.ba (List.all_eq_true.mp more.2 p hp)
    generalize h.get? (He.cT (partY n h.get?) p).2 = found at both ⊢
    match found, both with
    | some o, both => exact ⟨both.1, o, rfl, both.2⟩
    | none, both => exact absurd both.2 Bool.false_ne_true
  constructor
  · exact both.1
  · exact more.1
  · exact fun p hp => (each p hp).1
  · intro p hp
    obtain ⟨o, ho, empty⟩ := (each p hp).2
    exact He.frT_none ho empty
  · intro p hp
    obtain ⟨o, ho, empty⟩ := (each p hp).2
    exact ho.trans (congrArg some (He.emptyTab_eq empty))
def hookY (n : Nat) (fa : List He.Fa) (fn : List He.DefD) (tf : List He.Defn) (ex : PySem.W.Frag → Bool) : PySem.W.Hook where
  α := He.AlX
  obs := fun state => toldY n fa fn tf ex state.heap.get?
  val := fun w => He.valX fn [] w
  says := fun w h => ∃ K : PySem.W.Frag, K.In h ∧ He.SaysX fa fn [] tf ex w h K
  of := by
    intro _ _ e
    exact ⟨_, He.frT_in, told_says e⟩
  keeps := by
    rintro _ _ _ ⟨K, inside, told⟩ stays
    refine ⟨K, PySem.W.Frag.In.keeps inside stays, told.t, told.more, told.hd, told.out, ?_⟩
    intro p hp
    exact stays _ _ (told.empty p hp)
theorem told_same {n : Nat} {fa : List He.Fa} {fn : List He.DefD} {tf : List He.Defn} {ex : PySem.W.Frag → Bool} {g : Addr → Option Obj} {state : Shared}
    (same : ∀ a, g a = state.heap.get? a) : toldY n fa fn tf ex g = (hookY n fa fn tf ex).obs state := by
  obtain rfl : g = state.heap.get? := funext same
  rfl
end Cl
namespace G
open PySem L2 Cl
section
variable {P : Program} {w : World} {K : PySem.W.Frag} {mg : Str → Option Value} {base : Heap}
theorem sc_InvalidCode_init : FnScope ["self", "place"] ["self", "place"] (defScope (inClass (top 5) 0)) := ⟨rfl, rfl, rfl, by decide +kernel, rfl, by decide +kernel, by decide +kernel⟩
theorem ok_InvalidCode_init {f : Addr} {fd : FuncData} {dvs : List V} {kws : List (Str × V)} {Gd : Addr} (Fn : FunD K "__init__" "InvalidCode.__init__" (defArgs (inClass (top 5) 0)) (defBody (inClass (top 5) 0)) (defScope (inClass (top 5) 0)) dvs kws f fd) (gG : mg "GardenError" = some (.ref Gd)) (TG : GInit K Gd) (T : ErrOk K "InvalidCode" ["place"]) : FnOk P w K mg base (L2.CX P w) 1 f fd ["self", "place"] (spX (He.ga K "InvalidCode") 1 fun ws => backF ["place"] ws) :=
  fn_X (fn := ["place"]) Fn sc_InvalidCode_init rfl (tSeq (tDrop (tVeI K (tCons (tVar 0) (tCons (tVar 1) tNil)))) (tOst K "place" (tVar 0) (tVar 1))) (fun cdv A outer s H E hr => pss_cons (ps_expr (pe_geinit gG TG (pa_cons (pv 0) (pa_cons (pv 1) pa_nil)))) (pss_one (ps_ost (pv 0) (pv 1)))) fun a ws H Nd hl ha k => match ws, hl with | [_], _ => xinit1 T.o (T.n "place" (by simp)) ha k
theorem sc_SyntaxFault_init : FnScope ["self", "line", "column"] ["self", "line", "column"] (defScope (inClass (top 3) 0)) := ⟨rfl, rfl, rfl, by decide +kernel, rfl, by decide +kernel, by decide +kernel⟩
theorem ok_SyntaxFault_init {f : Addr} {fd : FuncData} {dvs : List V} {kws : List (Str × V)} {Gd : Addr} (Fn : FunD K "__init__" "SyntaxFault.__init__" (defArgs (inClass (top 3) 0)) (defBody (inClass (top 3) 0)) (defScope (inClass (top 3) 0)) dvs kws f fd) (gG : mg "GardenError" = some (.ref Gd)) (TG : GInit K Gd) (T : ErrOk K "SyntaxFault" ["line", "column"]) : FnOk P w K mg base (L2.CX P w) 1 f fd ["self", "line", "column"] (spX (He.ga K "SyntaxFault") 2 fun ws => backF ["line", "column"] ws) :=
  fn_X (fn := ["line", "column"]) Fn sc_SyntaxFault_init rfl (tSeq (tDrop (tVeI K (tCons (tVar 0) (tCons (tVar 1) (tCons (tVar 2) tNil))))) (tSeq (tOst K "line" (tVar 0) (tVar 1)) (tOst K "column" (tVar 0) (tVar 2)))) (fun cdv A outer s H E hr => pss_cons (ps_expr (pe_geinit gG TG (pa_cons (pv 0) (pa_cons (pv 1) (pa_cons (pv 2) pa_nil))))) (pss_cons (ps_ost (pv 0) (pv 1)) (pss_one (ps_ost (pv 0) (pv 2))))) fun a ws H Nd hl ha k => match ws, hl with | [_, _], _ => xinit2 T.o (T.n "line" (by simp)) (T.n "column" (by simp)) ha k
end
def fnE : List He.DefD := [⟨("InvalidCode", some "__init__"), "__init__", "InvalidCode.__init__", defArgs (inClass (top 5) 0), defBody (inClass (top 5) 0), defScope (inClass (top 5) 0), [], []⟩,
  ⟨("SyntaxFault", some "__init__"), "__init__", "SyntaxFault.__init__", defArgs (inClass (top 3) 0), defBody (inClass (top 3) 0), defScope (inClass (top 3) 0), [], []⟩,
  ⟨("Plan", some "__init__"), "__init__", "Plan.__init__", defArgs (inClass (top 29) 0), defBody (inClass (top 29) 0), defScope (inClass (top 29) 0), [], []⟩,
  ⟨("runs_of", none), "runs_of", "runs_of", defArgs (top 33), defBody (top 33), defScope (top 33), [], []⟩,
  ⟨("format_parsed", none), "format_parsed", "format_parsed", defArgs (top 34), defBody (top 34), defScope (top 34), [], []⟩,
  ⟨("is_int_in", none), "is_int_in", "is_int_in", defArgs (top 36), defBody (top 36), defScope (top 36), [], []⟩,
  ⟨("Reader", some "read_byte"), "read_byte", "Reader.read_byte", defArgs (inClass (top 41) 2), defBody (inClass (top 41) 2), defScope (inClass (top 41) 2), [], []⟩,
  ⟨("Reader", some "read_paused"), "read_paused", "Reader.read_paused", defArgs (inClass (top 41) 6), defBody (inClass (top 41) 6), defScope (inClass (top 41) 6), [], []⟩,
  ⟨("Reader", some "read_starts"), "read_starts", "Reader.read_starts", defArgs (inClass (top 41) 5), defBody (inClass (top 41) 5), defScope (inClass (top 41) 5), [], []⟩,
  ⟨("Reader", some "fail"), "fail", "Reader.fail", defArgs (inClass (top 41) 1), defBody (inClass (top 41) 1), defScope (inClass (top 41) 1), [], []⟩,
  ⟨("Reader", some "read_ranks"), "read_ranks", "Reader.read_ranks", defArgs (inClass (top 41) 4), defBody (inClass (top 41) 4), defScope (inClass (top 41) 4), [], []⟩,
  ⟨("Reader", some "read_name"), "read_name", "Reader.read_name", defArgs (inClass (top 41) 3), defBody (inClass (top 41) 3), defScope (inClass (top 41) 3), [], []⟩,
  ⟨("Reader", some "__init__"), "__init__", "Reader.__init__", defArgs (inClass (top 41) 0), defBody (inClass (top 41) 0), defScope (inClass (top 41) 0), [], []⟩,
  ⟨("decode", none), "decode", "decode", defArgs (top 42), defBody (top 42), defScope (top 42), [], []⟩,
  ⟨("_law_equal", none), "_law_equal", "_law_equal", defArgs (top 52), defBody (top 52), defScope (top 52), [], []⟩,
  ⟨("Token", some "__init__"), "__init__", "Token.__init__", defArgs (inClass (top 19) 0), defBody (inClass (top 19) 0), defScope (inClass (top 19) 0), [], []⟩,
  ⟨("run_end", none), "run_end", "run_end", defArgs (top 20), defBody (top 20), defScope (top 20), [], []⟩,
  ⟨("read_token", none), "read_token", "read_token", defArgs (top 21), defBody (top 21), defScope (top 21), [], []⟩,
  ⟨("tokenize", none), "tokenize", "tokenize", defArgs (top 22), defBody (top 22), defScope (top 22), [], []⟩,
  ⟨("Parser", some "__init__"), "__init__", "Parser.__init__", defArgs (inClass (top 30) 0), defBody (inClass (top 30) 0), defScope (inClass (top 30) 0), [], []⟩,
  ⟨("Parser", some "peek"), "peek", "Parser.peek", defArgs (inClass (top 30) 1), defBody (inClass (top 30) 1), defScope (inClass (top 30) 1), [], []⟩,
  ⟨("Parser", some "fail"), "fail", "Parser.fail", defArgs (inClass (top 30) 2), defBody (inClass (top 30) 2), defScope (inClass (top 30) 2), [], []⟩,
  ⟨("Parser", some "found"), "found", "Parser.found", defArgs (inClass (top 30) 3), defBody (inClass (top 30) 3), defScope (inClass (top 30) 3), [], []⟩,
  ⟨("Parser", some "take_word"), "take_word", "Parser.take_word", defArgs (inClass (top 30) 5), defBody (inClass (top 30) 5), defScope (inClass (top 30) 5), [], []⟩,
  ⟨("Parser", some "take"), "take", "Parser.take", defArgs (inClass (top 30) 4), defBody (inClass (top 30) 4), defScope (inClass (top 30) 4), [], []⟩,
  ⟨("Parser", some "take_names"), "take_names", "Parser.take_names", defArgs (inClass (top 30) 6), defBody (inClass (top 30) 6), defScope (inClass (top 30) 6), [], []⟩,
  ⟨("Parser", some "valve"), "valve", "Parser.valve", defArgs (inClass (top 30) 7), defBody (inClass (top 30) 7), defScope (inClass (top 30) 7), [], []⟩,
  ⟨("Parser", some "parse_rank"), "parse_rank", "Parser.parse_rank", defArgs (inClass (top 30) 12), defBody (inClass (top 30) 12), defScope (inClass (top 30) 12), [], []⟩,
  ⟨("Parser", some "parse_pause"), "parse_pause", "Parser.parse_pause", defArgs (inClass (top 30) 11), defBody (inClass (top 30) 11), defScope (inClass (top 30) 11), [], []⟩,
  ⟨("Parser", some "parse_start"), "parse_start", "Parser.parse_start", defArgs (inClass (top 30) 10), defBody (inClass (top 30) 10), defScope (inClass (top 30) 10), [], []⟩,
  ⟨("Parser", some "parse_valves"), "parse_valves", "Parser.parse_valves", defArgs (inClass (top 30) 9), defBody (inClass (top 30) 9), defScope (inClass (top 30) 9), [], []⟩,
  ⟨("Parser", some "parse_number"), "parse_number", "Parser.parse_number", defArgs (inClass (top 30) 8), defBody (inClass (top 30) 8), defScope (inClass (top 30) 8), [], []⟩,
  ⟨("Parser", some "parse_plan"), "parse_plan", "Parser.parse_plan", defArgs (inClass (top 30) 13), defBody (inClass (top 30) 13), defScope (inClass (top 30) 13), [], []⟩,
  ⟨("load", none), "load", "load", defArgs (top 31), defBody (top 31), defScope (top 31), [], []⟩,
  ⟨("encode", none), "encode", "encode", defArgs (top 40), defBody (top 40), defScope (top 40), [], []⟩,
  ⟨("_law_runs", none), "_law_runs", "_law_runs", defArgs (top 48), defBody (top 48), defScope (top 48), [], []⟩,
  ⟨("_law_word_bytes", none), "_law_word_bytes", "_law_word_bytes", defArgs (top 50), defBody (top 50), defScope (top 50), [], []⟩,
  ⟨("_law_bytes", none), "_law_bytes", "_law_bytes", defArgs (top 51), defBody (top 51), defScope (top 51), [], []⟩,
  ⟨("_law_text", none), "_law_text", "_law_text", defArgs (top 49), defBody (top 49), defScope (top 49), [], []⟩,
  ⟨("_law_below", none), "_law_below", "_law_below", defArgs (top 45), defBody (top 45), defScope (top 45), [], []⟩,
  ⟨("_law_shuffled", none), "_law_shuffled", "_law_shuffled", defArgs (top 46), defBody (top 46), defScope (top 46), [], []⟩,
  ⟨("_law_wide", none), "_law_wide", "_law_wide", defArgs (top 47), defBody (top 47), defScope (top 47), [], []⟩,
  ⟨("_law_random", none), "_law_random", "_law_random", defArgs (top 44), defBody (top 44), defScope (top 44), [], []⟩,
  ⟨("law", none), "law", "law", defArgs (top 53), defBody (top 53), defScope (top 53), [], []⟩]
def faE : List He.Fa := [.glo "GardenError", .glo "Plan", .cls "Plan", .noat "Plan" "ranks", .noat "Plan" "paused", .noat "Plan" "starts", .noat "Plan" "names", .noat "Plan" "most", .noat "Plan" "length", .free "enumerate", .glo "runs_of", .free "str", .free "list", .free "len", .free "range", .free "isinstance", .free "bool", .free "int", .glo "Reader", .cls "Reader", .noat "Reader" "code", .noat "Reader" "place", .glo "is_int_in", .glo "InvalidCode", .meth "Reader" "read_byte", .int "MAX_STARTS" 20, .int "MAX_LENGTH" 30, .meth "Reader" "fail", .glo "KEYWORDS", .str "LETTERS" "abcdefghijklmnopqrstuvwxyz", .int "MAX_LETTERS" 8, .free "tuple", .mkr "Plan", .glo "format_parsed", .free "sum", .int "BYTE" 256, .meth "Reader" "read_paused", .meth "Reader" "read_starts", .meth "Reader" "read_ranks", .int "MAX_VALVES" 8, .meth "Reader" "read_name", .int "MAX_OPEN" 9, .int "MAX_ROUND" 60, .int "TAG" 87, .mkr "Reader", .free "all", .glo "_law_equal", .glo "Token", .cls "Token", .noat "Token" "column", .noat "Token" "line", .noat "Token" "text", .noat "Token" "kind", .str "NAME" "name", .mkr "Token", .glo "SyntaxFault", .str "KEYWORD" "keyword", .glo "run_end", .str "DIGITS" "0123456789", .str "NUMBER" "number", .int "MAX_DIGITS" 2, .str "END_SIGN" ";", .str "SIGN" "sign", .str "END" "end", .str "SPACES" " \n", .glo "read_token", .glo "Parser", .cls "Parser", .noat "Parser" "ranks", .noat "Parser" "pauses", .noat "Parser" "starts", .noat "Parser" "names", .noat "Parser" "faults", .noat "Parser" "at", .noat "Parser" "tokens", .meth "Parser" "peek", .meth "Parser" "fail", .meth "Parser" "take_word", .meth "Parser" "take", .meth "Parser" "found", .meth "Parser" "take_names", .meth "Parser" "valve", .free "sorted", .free "any", .meth "Parser" "parse_rank", .meth "Parser" "parse_pause", .meth "Parser" "parse_start", .meth "Parser" "parse_valves", .meth "Parser" "parse_number", .glo "tokenize", .mkr "Parser", .meth "Parser" "parse_plan", .glo "load", .glo "_law_runs", .glo "_law_word_bytes", .glo "_law_below", .glo "_law_shuffled", .free "abs", .glo "decode", .glo "encode", .glo "_law_bytes", .glo "_law_text", .glo "_law_wide", .glo "_law_random", .glo "law"]
def tfE : List He.Defn := [("Parser", some "parse_plan"), ("law", none)]
def exE (K : PySem.W.Frag) : Bool := lamB K tfE && (He.tupB K "KEYWORDS" ((["round", "open", "valves", "start", "for", "pause", "rank"] : List Str).map He.Dv.str) && (errB K "InvalidCode" ["place"] && (errB K "SyntaxFault" ["line", "column"] && (ginB K "GardenError"))))
theorem all_ok {P : Program} {w : World} {K : PySem.W.Frag} {h : Heap} {mg : Str → Option Value} (X : K.In h) (G : h.Ns mainGlobals mg) (cX : He.SaysX faE fnE [] tfE exE w h K) :
    ∃ fd : FuncData, (∀ (s : Shared) (u : Value), BindsTo s fd ⟨[u], []⟩ [("_law_script", u)]) ∧ ∀ base : Heap, (∀ q ∈ tfE.map (He.cT K), LamX.TabB base mg q.1 q.2) → FnOk P w K mg base (L2.CX P w) 10 (He.ga K "law") fd ["_law_script"] (spP K mg 1 F_law) := by
  have c := cX.t.d
  have cx := cX.more
  unfold exE at cx
  obtain ⟨lb, cx⟩ := He.ba cx
  obtain ⟨t_KEYWORDS, cx⟩ := He.ba cx
  obtain ⟨T_InvalidCode, cx⟩ := He.ba cx
  have T_InvalidCode := errB_ok T_InvalidCode
  obtain ⟨T_SyntaxFault, cx⟩ := He.ba cx
  have T_SyntaxFault := errB_ok T_SyntaxFault
  have TG := cx
  have TG := ginB_ok TG
  have gG := He.glo_ok X G (c.facts (List.mem_of_getElem? (i := 0) (l := faE) rfl))
  obtain ⟨fd_InvalidCode_init, D_InvalidCode_init⟩ := c.def_ 0 (d := ⟨("InvalidCode", some "__init__"), "__init__", "InvalidCode.__init__", defArgs (inClass (top 5) 0), defBody (inClass (top 5) 0), defScope (inClass (top 5) 0), [], []⟩) rfl
  have D_InvalidCode_init : FunD K "__init__" "InvalidCode.__init__" (defArgs (inClass (top 5) 0)) (defBody (inClass (top 5) 0)) (defScope (inClass (top 5) 0)) [] [] (He.ma K (He.ga K "InvalidCode") "__init__") fd_InvalidCode_init := D_InvalidCode_init
  have b_InvalidCode_init_ : Binds K fd_InvalidCode_init ["self", "place"] [] := D_InvalidCode_init.bindsN fun _ _ _ _ _ _ us hl => match us, hl with | [_, _], _ => rfl
  have o_InvalidCode_init : ∀ base : Heap, (∀ q ∈ tfE.map (He.cT K), LamX.TabB base mg q.1 q.2) → FnOk P w K mg base (L2.CX P w) 1 (He.ma K (He.ga K "InvalidCode") "__init__") fd_InvalidCode_init ["self", "place"] (spX (He.ga K "InvalidCode") 1 fun ws => backF ["place"] ws) := fun base TB => ok_InvalidCode_init D_InvalidCode_init gG TG T_InvalidCode
  obtain ⟨fd_SyntaxFault_init, D_SyntaxFault_init⟩ := c.def_ 1 (d := ⟨("SyntaxFault", some "__init__"), "__init__", "SyntaxFault.__init__", defArgs (inClass (top 3) 0), defBody (inClass (top 3) 0), defScope (inClass (top 3) 0), [], []⟩) rfl
  have D_SyntaxFault_init : FunD K "__init__" "SyntaxFault.__init__" (defArgs (inClass (top 3) 0)) (defBody (inClass (top 3) 0)) (defScope (inClass (top 3) 0)) [] [] (He.ma K (He.ga K "SyntaxFault") "__init__") fd_SyntaxFault_init := D_SyntaxFault_init
  have b_SyntaxFault_init_ : Binds K fd_SyntaxFault_init ["self", "line", "column"] [] := D_SyntaxFault_init.bindsN fun _ _ _ _ _ _ us hl => match us, hl with | [_, _, _], _ => rfl
  have o_SyntaxFault_init : ∀ base : Heap, (∀ q ∈ tfE.map (He.cT K), LamX.TabB base mg q.1 q.2) → FnOk P w K mg base (L2.CX P w) 1 (He.ma K (He.ga K "SyntaxFault") "__init__") fd_SyntaxFault_init ["self", "line", "column"] (spX (He.ga K "SyntaxFault") 2 fun ws => backF ["line", "column"] ws) := fun base TB => ok_SyntaxFault_init D_SyntaxFault_init gG TG T_SyntaxFault
  obtain ⟨fd_Plan_init, D_Plan_init⟩ := c.def_ 2 (d := ⟨("Plan", some "__init__"), "__init__", "Plan.__init__", defArgs (inClass (top 29) 0), defBody (inClass (top 29) 0), defScope (inClass (top 29) 0), [], []⟩) rfl
  have D_Plan_init : FunD K "__init__" "Plan.__init__" (defArgs (inClass (top 29) 0)) (defBody (inClass (top 29) 0)) (defScope (inClass (top 29) 0)) [] [] (He.ma K (He.ga K "Plan") "__init__") fd_Plan_init := D_Plan_init
  have b_Plan_init_ : Binds K fd_Plan_init ["self", "length", "most", "names", "starts", "paused", "ranks"] [] := D_Plan_init.bindsN fun _ _ _ _ _ _ us hl => match us, hl with | [_, _, _, _, _, _, _], _ => rfl
  have u0_c_Plan_ranks : ClsF K mg ["Plan"] "ranks" := (e_cls X G c (List.mem_of_getElem? (i := 1) (l := faE) rfl) (List.mem_of_getElem? (i := 2) (l := faE) rfl) (List.mem_of_getElem? (i := 3) (l := faE) rfl))
  have u1_c_Plan_paused : ClsF K mg ["Plan"] "paused" := (e_cls X G c (List.mem_of_getElem? (i := 1) (l := faE) rfl) (List.mem_of_getElem? (i := 2) (l := faE) rfl) (List.mem_of_getElem? (i := 4) (l := faE) rfl))
  have u2_c_Plan_starts : ClsF K mg ["Plan"] "starts" := (e_cls X G c (List.mem_of_getElem? (i := 1) (l := faE) rfl) (List.mem_of_getElem? (i := 2) (l := faE) rfl) (List.mem_of_getElem? (i := 5) (l := faE) rfl))
  have u3_c_Plan_names : ClsF K mg ["Plan"] "names" := (e_cls X G c (List.mem_of_getElem? (i := 1) (l := faE) rfl) (List.mem_of_getElem? (i := 2) (l := faE) rfl) (List.mem_of_getElem? (i := 6) (l := faE) rfl))
  have u4_c_Plan_most : ClsF K mg ["Plan"] "most" := (e_cls X G c (List.mem_of_getElem? (i := 1) (l := faE) rfl) (List.mem_of_getElem? (i := 2) (l := faE) rfl) (List.mem_of_getElem? (i := 7) (l := faE) rfl))
  have u5_c_Plan_length : ClsF K mg ["Plan"] "length" := (e_cls X G c (List.mem_of_getElem? (i := 1) (l := faE) rfl) (List.mem_of_getElem? (i := 2) (l := faE) rfl) (List.mem_of_getElem? (i := 8) (l := faE) rfl))
  have o_Plan_init : ∀ base : Heap, (∀ q ∈ tfE.map (He.cT K), LamX.TabB base mg q.1 q.2) → FnOk P w K mg base (L2.CX P w) 1 (He.ma K (He.ga K "Plan") "__init__") fd_Plan_init ["self", "length", "most", "names", "starts", "paused", "ranks"] (spM K mg "Plan" 7 F_Plan_init) := fun base TB => ok_Plan_init D_Plan_init u0_c_Plan_ranks u1_c_Plan_paused u2_c_Plan_starts u3_c_Plan_names u4_c_Plan_most u5_c_Plan_length
  obtain ⟨fd_runs_of, D_runs_of⟩ := c.def_ 3 (d := ⟨("runs_of", none), "runs_of", "runs_of", defArgs (top 33), defBody (top 33), defScope (top 33), [], []⟩) rfl
  have D_runs_of : FunD K "runs_of" "runs_of" (defArgs (top 33)) (defBody (top 33)) (defScope (top 33)) [] [] (He.ga K "runs_of") fd_runs_of := D_runs_of
  have b_runs_of_ : Binds K fd_runs_of ["paused"] [] := D_runs_of.bindsN fun _ _ _ _ _ _ us hl => match us, hl with | [_], _ => rfl
  have u6_z_enumerate : mg "enumerate" = none := e_free X G c (List.mem_of_getElem? (i := 9) (l := faE) rfl)
  have o_runs_of : ∀ base : Heap, (∀ q ∈ tfE.map (He.cT K), LamX.TabB base mg q.1 q.2) → FnOk P w K mg base (L2.CX P w) 1 (He.ga K "runs_of") fd_runs_of ["paused"] (spP K mg 1 F_runs_of) := fun base TB => ok_runs_of D_runs_of u6_z_enumerate
  obtain ⟨fd_format_parsed, D_format_parsed⟩ := c.def_ 4 (d := ⟨("format_parsed", none), "format_parsed", "format_parsed", defArgs (top 34), defBody (top 34), defScope (top 34), [], []⟩) rfl
  have D_format_parsed : FunD K "format_parsed" "format_parsed" (defArgs (top 34)) (defBody (top 34)) (defScope (top 34)) [] [] (He.ga K "format_parsed") fd_format_parsed := D_format_parsed
  have b_format_parsed_ : Binds K fd_format_parsed ["parsed"] [] := D_format_parsed.bindsN fun _ _ _ _ _ _ us hl => match us, hl with | [_], _ => rfl
  have u7_C_runs_of : ∀ base : Heap, (∀ q ∈ tfE.map (He.cT K), LamX.TabB base mg q.1 q.2) → CallPOk P w K mg base "runs_of" 1 1 [] F_runs_of := fun base TB => e_callP X G c D_runs_of (List.mem_of_getElem? (i := 10) (l := faE) rfl) (b_runs_of_) (o_runs_of base TB)
  have u8_z_str : mg "str" = none := e_free X G c (List.mem_of_getElem? (i := 11) (l := faE) rfl)
  have u9_z_list : mg "list" = none := e_free X G c (List.mem_of_getElem? (i := 12) (l := faE) rfl)
  have u10_z_len : mg "len" = none := e_free X G c (List.mem_of_getElem? (i := 13) (l := faE) rfl)
  have u11_z_range : mg "range" = none := e_free X G c (List.mem_of_getElem? (i := 14) (l := faE) rfl)
  have o_format_parsed : ∀ base : Heap, (∀ q ∈ tfE.map (He.cT K), LamX.TabB base mg q.1 q.2) → FnOk P w K mg base (L2.CX P w) 2 (He.ga K "format_parsed") fd_format_parsed ["parsed"] (spP K mg 1 F_format_parsed) := fun base TB => ok_format_parsed D_format_parsed u1_c_Plan_paused (u7_C_runs_of base TB) u8_z_str u2_c_Plan_starts u0_c_Plan_ranks u9_z_list u10_z_len u11_z_range u4_c_Plan_most u5_c_Plan_length u3_c_Plan_names
  obtain ⟨fd_is_int_in, D_is_int_in⟩ := c.def_ 5 (d := ⟨("is_int_in", none), "is_int_in", "is_int_in", defArgs (top 36), defBody (top 36), defScope (top 36), [], []⟩) rfl
  have D_is_int_in : FunD K "is_int_in" "is_int_in" (defArgs (top 36)) (defBody (top 36)) (defScope (top 36)) [] [] (He.ga K "is_int_in") fd_is_int_in := D_is_int_in
  have b_is_int_in_ : Binds K fd_is_int_in ["value", "low", "high"] [] := D_is_int_in.bindsN fun _ _ _ _ _ _ us hl => match us, hl with | [_, _, _], _ => rfl
  have u12_z_isinstance : mg "isinstance" = none := e_free X G c (List.mem_of_getElem? (i := 15) (l := faE) rfl)
  have u13_z_bool : mg "bool" = none := e_free X G c (List.mem_of_getElem? (i := 16) (l := faE) rfl)
  have u14_z_int : mg "int" = none := e_free X G c (List.mem_of_getElem? (i := 17) (l := faE) rfl)
  have o_is_int_in : ∀ base : Heap, (∀ q ∈ tfE.map (He.cT K), LamX.TabB base mg q.1 q.2) → FnOk P w K mg base (L2.CX P w) 1 (He.ga K "is_int_in") fd_is_int_in ["value", "low", "high"] (spP K mg 3 F_is_int_in) := fun base TB => ok_is_int_in D_is_int_in u12_z_isinstance u13_z_bool u14_z_int
  obtain ⟨fd_Reader_read_byte, D_Reader_read_byte⟩ := c.def_ 6 (d := ⟨("Reader", some "read_byte"), "read_byte", "Reader.read_byte", defArgs (inClass (top 41) 2), defBody (inClass (top 41) 2), defScope (inClass (top 41) 2), [], []⟩) rfl
  have D_Reader_read_byte : FunD K "read_byte" "Reader.read_byte" (defArgs (inClass (top 41) 2)) (defBody (inClass (top 41) 2)) (defScope (inClass (top 41) 2)) [] [] (He.ma K (He.ga K "Reader") "read_byte") fd_Reader_read_byte := D_Reader_read_byte
  have b_Reader_read_byte_ : Binds K fd_Reader_read_byte ["self", "low", "high"] [] := D_Reader_read_byte.bindsN fun _ _ _ _ _ _ us hl => match us, hl with | [_, _, _], _ => rfl
  have u15_c_Reader_code : ClsF K mg ["Reader"] "code" := (e_cls X G c (List.mem_of_getElem? (i := 18) (l := faE) rfl) (List.mem_of_getElem? (i := 19) (l := faE) rfl) (List.mem_of_getElem? (i := 20) (l := faE) rfl))
  have u16_c_Reader_place : ClsF K mg ["Reader"] "place" := (e_cls X G c (List.mem_of_getElem? (i := 18) (l := faE) rfl) (List.mem_of_getElem? (i := 19) (l := faE) rfl) (List.mem_of_getElem? (i := 21) (l := faE) rfl))
  have u17_C_is_int_in : ∀ base : Heap, (∀ q ∈ tfE.map (He.cT K), LamX.TabB base mg q.1 q.2) → CallPOk P w K mg base "is_int_in" 1 3 [] F_is_int_in := fun base TB => e_callP X G c D_is_int_in (List.mem_of_getElem? (i := 22) (l := faE) rfl) (b_is_int_in_) (o_is_int_in base TB)
  have u18_R_InvalidCode : ∀ base : Heap, (∀ q ∈ tfE.map (He.cT K), LamX.TabB base mg q.1 q.2) → RaiseXOk P w K mg base "InvalidCode" ["place"] 1 := fun base TB => e_raise X G c (List.mem_of_getElem? (i := 23) (l := faE) rfl) T_InvalidCode (b_InvalidCode_init_) (o_InvalidCode_init base TB)
  have o_Reader_read_byte : ∀ base : Heap, (∀ q ∈ tfE.map (He.cT K), LamX.TabB base mg q.1 q.2) → FnOk P w K mg base (L2.CX P w) 3 (He.ma K (He.ga K "Reader") "read_byte") fd_Reader_read_byte ["self", "low", "high"] (spO K mg 3 F_Reader_read_byte) := fun base TB => ok_Reader_read_byte D_Reader_read_byte u15_c_Reader_code u16_c_Reader_place (u17_C_is_int_in base TB) u10_z_len (u18_R_InvalidCode base TB)
  obtain ⟨fd_Reader_read_paused, D_Reader_read_paused⟩ := c.def_ 7 (d := ⟨("Reader", some "read_paused"), "read_paused", "Reader.read_paused", defArgs (inClass (top 41) 6), defBody (inClass (top 41) 6), defScope (inClass (top 41) 6), [], []⟩) rfl
  have D_Reader_read_paused : FunD K "read_paused" "Reader.read_paused" (defArgs (inClass (top 41) 6)) (defBody (inClass (top 41) 6)) (defScope (inClass (top 41) 6)) [] [] (He.ma K (He.ga K "Reader") "read_paused") fd_Reader_read_paused := D_Reader_read_paused
  have b_Reader_read_paused_ : Binds K fd_Reader_read_paused ["self", "length"] [] := D_Reader_read_paused.bindsN fun _ _ _ _ _ _ us hl => match us, hl with | [_, _], _ => rfl
  have u19_M_Reader_read_byte : ∀ base : Heap, (∀ q ∈ tfE.map (He.cT K), LamX.TabB base mg q.1 q.2) → MethOOk P w K mg base "Reader" "read_byte" 3 3 [] F_Reader_read_byte := fun base TB => e_methO X G c (List.mem_of_getElem? (i := 18) (l := faE) rfl) (List.mem_of_getElem? (i := 19) (l := faE) rfl) (List.mem_of_getElem? (i := 24) (l := faE) rfl) (b_Reader_read_byte_) (o_Reader_read_byte base TB)
  have o_Reader_read_paused : ∀ base : Heap, (∀ q ∈ tfE.map (He.cT K), LamX.TabB base mg q.1 q.2) → FnOk P w K mg base (L2.CX P w) 4 (He.ma K (He.ga K "Reader") "read_paused") fd_Reader_read_paused ["self", "length"] (spO K mg 2 F_Reader_read_paused) := fun base TB => ok_Reader_read_paused D_Reader_read_paused (u19_M_Reader_read_byte base TB) u11_z_range u6_z_enumerate
  obtain ⟨fd_Reader_read_starts, D_Reader_read_starts⟩ := c.def_ 8 (d := ⟨("Reader", some "read_starts"), "read_starts", "Reader.read_starts", defArgs (inClass (top 41) 5), defBody (inClass (top 41) 5), defScope (inClass (top 41) 5), [], []⟩) rfl
  have D_Reader_read_starts : FunD K "read_starts" "Reader.read_starts" (defArgs (inClass (top 41) 5)) (defBody (inClass (top 41) 5)) (defScope (inClass (top 41) 5)) [] [] (He.ma K (He.ga K "Reader") "read_starts") fd_Reader_read_starts := D_Reader_read_starts
  have b_Reader_read_starts_ : Binds K fd_Reader_read_starts ["self", "length", "count"] [] := D_Reader_read_starts.bindsN fun _ _ _ _ _ _ us hl => match us, hl with | [_, _, _], _ => rfl
  have u20_g_MAX_STARTS : GInt mg "MAX_STARTS" 20 := e_int X G c (List.mem_of_getElem? (i := 25) (l := faE) rfl)
  have u21_g_MAX_LENGTH : GInt mg "MAX_LENGTH" 30 := e_int X G c (List.mem_of_getElem? (i := 26) (l := faE) rfl)
  have o_Reader_read_starts : ∀ base : Heap, (∀ q ∈ tfE.map (He.cT K), LamX.TabB base mg q.1 q.2) → FnOk P w K mg base (L2.CX P w) 4 (He.ma K (He.ga K "Reader") "read_starts") fd_Reader_read_starts ["self", "length", "count"] (spO K mg 3 F_Reader_read_starts) := fun base TB => ok_Reader_read_starts D_Reader_read_starts (u19_M_Reader_read_byte base TB) u20_g_MAX_STARTS u11_z_range u21_g_MAX_LENGTH
  obtain ⟨fd_Reader_fail, D_Reader_fail⟩ := c.def_ 9 (d := ⟨("Reader", some "fail"), "fail", "Reader.fail", defArgs (inClass (top 41) 1), defBody (inClass (top 41) 1), defScope (inClass (top 41) 1), [], []⟩) rfl
  have D_Reader_fail : FunD K "fail" "Reader.fail" (defArgs (inClass (top 41) 1)) (defBody (inClass (top 41) 1)) (defScope (inClass (top 41) 1)) [] [] (He.ma K (He.ga K "Reader") "fail") fd_Reader_fail := D_Reader_fail
  have b_Reader_fail_ : Binds K fd_Reader_fail ["self", "place"] [] := D_Reader_fail.bindsN fun _ _ _ _ _ _ us hl => match us, hl with | [_, _], _ => rfl
  have o_Reader_fail : ∀ base : Heap, (∀ q ∈ tfE.map (He.cT K), LamX.TabB base mg q.1 q.2) → FnOk P w K mg base (L2.CX P w) 3 (He.ma K (He.ga K "Reader") "fail") fd_Reader_fail ["self", "place"] (spO K mg 2 F_Reader_fail) := fun base TB => ok_Reader_fail D_Reader_fail (u18_R_InvalidCode base TB)
  obtain ⟨fd_Reader_read_ranks, D_Reader_read_ranks⟩ := c.def_ 10 (d := ⟨("Reader", some "read_ranks"), "read_ranks", "Reader.read_ranks", defArgs (inClass (top 41) 4), defBody (inClass (top 41) 4), defScope (inClass (top 41) 4), [], []⟩) rfl
  have D_Reader_read_ranks : FunD K "read_ranks" "Reader.read_ranks" (defArgs (inClass (top 41) 4)) (defBody (inClass (top 41) 4)) (defScope (inClass (top 41) 4)) [] [] (He.ma K (He.ga K "Reader") "read_ranks") fd_Reader_read_ranks := D_Reader_read_ranks
  have b_Reader_read_ranks_ : Binds K fd_Reader_read_ranks ["self", "count"] [] := D_Reader_read_ranks.bindsN fun _ _ _ _ _ _ us hl => match us, hl with | [_, _], _ => rfl
  have u22_M_Reader_fail : ∀ base : Heap, (∀ q ∈ tfE.map (He.cT K), LamX.TabB base mg q.1 q.2) → MethOOk P w K mg base "Reader" "fail" 3 2 [] F_Reader_fail := fun base TB => e_methO X G c (List.mem_of_getElem? (i := 18) (l := faE) rfl) (List.mem_of_getElem? (i := 19) (l := faE) rfl) (List.mem_of_getElem? (i := 27) (l := faE) rfl) (b_Reader_fail_) (o_Reader_fail base TB)
  have o_Reader_read_ranks : ∀ base : Heap, (∀ q ∈ tfE.map (He.cT K), LamX.TabB base mg q.1 q.2) → FnOk P w K mg base (L2.CX P w) 4 (He.ma K (He.ga K "Reader") "read_ranks") fd_Reader_read_ranks ["self", "count"] (spO K mg 2 F_Reader_read_ranks) := fun base TB => ok_Reader_read_ranks D_Reader_read_ranks u11_z_range (u22_M_Reader_fail base TB) u16_c_Reader_place (u19_M_Reader_read_byte base TB)
  obtain ⟨fd_Reader_read_name, D_Reader_read_name⟩ := c.def_ 11 (d := ⟨("Reader", some "read_name"), "read_name", "Reader.read_name", defArgs (inClass (top 41) 3), defBody (inClass (top 41) 3), defScope (inClass (top 41) 3), [], []⟩) rfl
  have D_Reader_read_name : FunD K "read_name" "Reader.read_name" (defArgs (inClass (top 41) 3)) (defBody (inClass (top 41) 3)) (defScope (inClass (top 41) 3)) [] [] (He.ma K (He.ga K "Reader") "read_name") fd_Reader_read_name := D_Reader_read_name
  have b_Reader_read_name_ : Binds K fd_Reader_read_name ["self", "names"] [] := D_Reader_read_name.bindsN fun _ _ _ _ _ _ us hl => match us, hl with | [_, _], _ => rfl
  have u23_g_KEYWORDS : GTupS K mg "KEYWORDS" ["round", "open", "valves", "start", "for", "pause", "rank"] := e_tup X G c (List.mem_of_getElem? (i := 28) (l := faE) rfl) t_KEYWORDS
  have u24_g_LETTERS : GStr mg "LETTERS" "abcdefghijklmnopqrstuvwxyz" := e_str X G c (List.mem_of_getElem? (i := 29) (l := faE) rfl)
  have u25_g_MAX_LETTERS : GInt mg "MAX_LETTERS" 8 := e_int X G c (List.mem_of_getElem? (i := 30) (l := faE) rfl)
  have o_Reader_read_name : ∀ base : Heap, (∀ q ∈ tfE.map (He.cT K), LamX.TabB base mg q.1 q.2) → FnOk P w K mg base (L2.CX P w) 4 (He.ma K (He.ga K "Reader") "read_name") fd_Reader_read_name ["self", "names"] (spO K mg 2 F_Reader_read_name) := fun base TB => ok_Reader_read_name D_Reader_read_name u23_g_KEYWORDS (u22_M_Reader_fail base TB) u11_z_range u24_g_LETTERS (u19_M_Reader_read_byte base TB) u10_z_len u25_g_MAX_LETTERS u16_c_Reader_place
  obtain ⟨fd_Reader_init, D_Reader_init⟩ := c.def_ 12 (d := ⟨("Reader", some "__init__"), "__init__", "Reader.__init__", defArgs (inClass (top 41) 0), defBody (inClass (top 41) 0), defScope (inClass (top 41) 0), [], []⟩) rfl
  have D_Reader_init : FunD K "__init__" "Reader.__init__" (defArgs (inClass (top 41) 0)) (defBody (inClass (top 41) 0)) (defScope (inClass (top 41) 0)) [] [] (He.ma K (He.ga K "Reader") "__init__") fd_Reader_init := D_Reader_init
  have b_Reader_init_ : Binds K fd_Reader_init ["self", "code"] [] := D_Reader_init.bindsN fun _ _ _ _ _ _ us hl => match us, hl with | [_, _], _ => rfl
  have o_Reader_init : ∀ base : Heap, (∀ q ∈ tfE.map (He.cT K), LamX.TabB base mg q.1 q.2) → FnOk P w K mg base (L2.CX P w) 1 (He.ma K (He.ga K "Reader") "__init__") fd_Reader_init ["self", "code"] (spO K mg 2 F_Reader_init) := fun base TB => ok_Reader_init D_Reader_init u16_c_Reader_place u15_c_Reader_code
  obtain ⟨fd_decode, D_decode⟩ := c.def_ 13 (d := ⟨("decode", none), "decode", "decode", defArgs (top 42), defBody (top 42), defScope (top 42), [], []⟩) rfl
  have D_decode : FunD K "decode" "decode" (defArgs (top 42)) (defBody (top 42)) (defScope (top 42)) [] [] (He.ga K "decode") fd_decode := D_decode
  have b_decode_ : Binds K fd_decode ["code"] [] := D_decode.bindsN fun _ _ _ _ _ _ us hl => match us, hl with | [_], _ => rfl
  have u26_z_tuple : mg "tuple" = none := e_free X G c (List.mem_of_getElem? (i := 31) (l := faE) rfl)
  have u27_K_Plan : ∀ base : Heap, (∀ q ∈ tfE.map (He.cT K), LamX.TabB base mg q.1 q.2) → MakeMOk P w K mg base "Plan" 1 7 [] F_Plan_init := fun base TB => e_makeM X G c (List.mem_of_getElem? (i := 1) (l := faE) rfl) (List.mem_of_getElem? (i := 32) (l := faE) rfl) (b_Plan_init_) (o_Plan_init base TB)
  have u28_C_format_parsed : ∀ base : Heap, (∀ q ∈ tfE.map (He.cT K), LamX.TabB base mg q.1 q.2) → CallPOk P w K mg base "format_parsed" 2 1 [] F_format_parsed := fun base TB => e_callP X G c D_format_parsed (List.mem_of_getElem? (i := 33) (l := faE) rfl) (b_format_parsed_) (o_format_parsed base TB)
  have u29_z_sum : mg "sum" = none := e_free X G c (List.mem_of_getElem? (i := 34) (l := faE) rfl)
  have u30_g_BYTE : GInt mg "BYTE" 256 := e_int X G c (List.mem_of_getElem? (i := 35) (l := faE) rfl)
  have u31_M_Reader_read_paused : ∀ base : Heap, (∀ q ∈ tfE.map (He.cT K), LamX.TabB base mg q.1 q.2) → MethOOk P w K mg base "Reader" "read_paused" 4 2 [] F_Reader_read_paused := fun base TB => e_methO X G c (List.mem_of_getElem? (i := 18) (l := faE) rfl) (List.mem_of_getElem? (i := 19) (l := faE) rfl) (List.mem_of_getElem? (i := 36) (l := faE) rfl) (b_Reader_read_paused_) (o_Reader_read_paused base TB)
  have u32_M_Reader_read_starts : ∀ base : Heap, (∀ q ∈ tfE.map (He.cT K), LamX.TabB base mg q.1 q.2) → MethOOk P w K mg base "Reader" "read_starts" 4 3 [] F_Reader_read_starts := fun base TB => e_methO X G c (List.mem_of_getElem? (i := 18) (l := faE) rfl) (List.mem_of_getElem? (i := 19) (l := faE) rfl) (List.mem_of_getElem? (i := 37) (l := faE) rfl) (b_Reader_read_starts_) (o_Reader_read_starts base TB)
  have u33_M_Reader_read_ranks : ∀ base : Heap, (∀ q ∈ tfE.map (He.cT K), LamX.TabB base mg q.1 q.2) → MethOOk P w K mg base "Reader" "read_ranks" 4 2 [] F_Reader_read_ranks := fun base TB => e_methO X G c (List.mem_of_getElem? (i := 18) (l := faE) rfl) (List.mem_of_getElem? (i := 19) (l := faE) rfl) (List.mem_of_getElem? (i := 38) (l := faE) rfl) (b_Reader_read_ranks_) (o_Reader_read_ranks base TB)
  have u34_g_MAX_VALVES : GInt mg "MAX_VALVES" 8 := e_int X G c (List.mem_of_getElem? (i := 39) (l := faE) rfl)
  have u35_M_Reader_read_name : ∀ base : Heap, (∀ q ∈ tfE.map (He.cT K), LamX.TabB base mg q.1 q.2) → MethOOk P w K mg base "Reader" "read_name" 4 2 [] F_Reader_read_name := fun base TB => e_methO X G c (List.mem_of_getElem? (i := 18) (l := faE) rfl) (List.mem_of_getElem? (i := 19) (l := faE) rfl) (List.mem_of_getElem? (i := 40) (l := faE) rfl) (b_Reader_read_name_) (o_Reader_read_name base TB)
  have u36_g_MAX_OPEN : GInt mg "MAX_OPEN" 9 := e_int X G c (List.mem_of_getElem? (i := 41) (l := faE) rfl)
  have u37_g_MAX_ROUND : GInt mg "MAX_ROUND" 60 := e_int X G c (List.mem_of_getElem? (i := 42) (l := faE) rfl)
  have u38_g_TAG : GInt mg "TAG" 87 := e_int X G c (List.mem_of_getElem? (i := 43) (l := faE) rfl)
  have u39_K_Reader : ∀ base : Heap, (∀ q ∈ tfE.map (He.cT K), LamX.TabB base mg q.1 q.2) → MakeOOk P w K mg base "Reader" 1 2 [] F_Reader_init := fun base TB => e_makeO X G c (List.mem_of_getElem? (i := 18) (l := faE) rfl) (List.mem_of_getElem? (i := 44) (l := faE) rfl) (b_Reader_init_) (o_Reader_init base TB)
  have o_decode : ∀ base : Heap, (∀ q ∈ tfE.map (He.cT K), LamX.TabB base mg q.1 q.2) → FnOk P w K mg base (L2.CX P w) 5 (He.ga K "decode") fd_decode ["code"] (spO K mg 1 F_decode) := fun base TB => ok_decode D_decode u26_z_tuple (u27_K_Plan base TB) (u28_C_format_parsed base TB) u16_c_Reader_place u10_z_len (u18_R_InvalidCode base TB) (u19_M_Reader_read_byte base TB) u29_z_sum u30_g_BYTE (u31_M_Reader_read_paused base TB) (u32_M_Reader_read_starts base TB) (u33_M_Reader_read_ranks base TB) u34_g_MAX_VALVES u11_z_range (u35_M_Reader_read_name base TB) u36_g_MAX_OPEN u37_g_MAX_ROUND u38_g_TAG (u39_K_Reader base TB) u12_z_isinstance u9_z_list
  obtain ⟨fd__law_equal, D__law_equal⟩ := c.def_ 14 (d := ⟨("_law_equal", none), "_law_equal", "_law_equal", defArgs (top 52), defBody (top 52), defScope (top 52), [], []⟩) rfl
  have D__law_equal : FunD K "_law_equal" "_law_equal" (defArgs (top 52)) (defBody (top 52)) (defScope (top 52)) [] [] (He.ga K "_law_equal") fd__law_equal := D__law_equal
  have b__law_equal_ : Binds K fd__law_equal ["_law_actual", "_law_expected"] [] := D__law_equal.bindsN fun _ _ _ _ _ _ us hl => match us, hl with | [_, _], _ => rfl
  have u40_z_all : mg "all" = none := e_free X G c (List.mem_of_getElem? (i := 45) (l := faE) rfl)
  have o__law_equal : ∀ base : Heap, (∀ q ∈ tfE.map (He.cT K), LamX.TabB base mg q.1 q.2) → ∀ n : Nat, CallOOk P w K mg base "_law_equal" (n + 1) 2 [] (F__law_equal (n + 1)) := fun base TB n => by
    induction n with
    | zero => exact e_callO X G c D__law_equal (List.mem_of_getElem? (i := 46) (l := faE) rfl) b__law_equal_ (ok__law_equal (lv := 0) (F__law_equal := F__law_equal 0) D__law_equal u40_z_all u10_z_len u11_z_range (e_call0 X G c D__law_equal (List.mem_of_getElem? (i := 46) (l := faE) rfl) b__law_equal_) u12_z_isinstance u9_z_list u26_z_tuple u8_z_str u14_z_int u13_z_bool)
    | succ n ih => exact e_callO X G c D__law_equal (List.mem_of_getElem? (i := 46) (l := faE) rfl) b__law_equal_ (ok__law_equal (lv := n + 1) (F__law_equal := F__law_equal (n + 1)) D__law_equal u40_z_all u10_z_len u11_z_range ih u12_z_isinstance u9_z_list u26_z_tuple u8_z_str u14_z_int u13_z_bool)
  have r__law_equal_6 : ∀ base : Heap, (∀ q ∈ tfE.map (He.cT K), LamX.TabB base mg q.1 q.2) → CallOOk P w K mg base "_law_equal" 6 2 [] (F__law_equal 6) := fun base TB => o__law_equal base TB 5
  obtain ⟨fd_Token_init, D_Token_init⟩ := c.def_ 15 (d := ⟨("Token", some "__init__"), "__init__", "Token.__init__", defArgs (inClass (top 19) 0), defBody (inClass (top 19) 0), defScope (inClass (top 19) 0), [], []⟩) rfl
  have D_Token_init : FunD K "__init__" "Token.__init__" (defArgs (inClass (top 19) 0)) (defBody (inClass (top 19) 0)) (defScope (inClass (top 19) 0)) [] [] (He.ma K (He.ga K "Token") "__init__") fd_Token_init := D_Token_init
  have b_Token_init_ : Binds K fd_Token_init ["self", "kind", "text", "line", "column"] [] := D_Token_init.bindsN fun _ _ _ _ _ _ us hl => match us, hl with | [_, _, _, _, _], _ => rfl
  have u41_c_Token_column : ClsF K mg ["Token"] "column" := (e_cls X G c (List.mem_of_getElem? (i := 47) (l := faE) rfl) (List.mem_of_getElem? (i := 48) (l := faE) rfl) (List.mem_of_getElem? (i := 49) (l := faE) rfl))
  have u42_c_Token_line : ClsF K mg ["Token"] "line" := (e_cls X G c (List.mem_of_getElem? (i := 47) (l := faE) rfl) (List.mem_of_getElem? (i := 48) (l := faE) rfl) (List.mem_of_getElem? (i := 50) (l := faE) rfl))
  have u43_c_Token_text : ClsF K mg ["Token"] "text" := (e_cls X G c (List.mem_of_getElem? (i := 47) (l := faE) rfl) (List.mem_of_getElem? (i := 48) (l := faE) rfl) (List.mem_of_getElem? (i := 51) (l := faE) rfl))
  have u44_c_Token_kind : ClsF K mg ["Token"] "kind" := (e_cls X G c (List.mem_of_getElem? (i := 47) (l := faE) rfl) (List.mem_of_getElem? (i := 48) (l := faE) rfl) (List.mem_of_getElem? (i := 52) (l := faE) rfl))
  have o_Token_init : ∀ base : Heap, (∀ q ∈ tfE.map (He.cT K), LamX.TabB base mg q.1 q.2) → FnOk P w K mg base (L2.CX P w) 1 (He.ma K (He.ga K "Token") "__init__") fd_Token_init ["self", "kind", "text", "line", "column"] (spM K mg "Token" 5 F_Token_init) := fun base TB => ok_Token_init D_Token_init u41_c_Token_column u42_c_Token_line u43_c_Token_text u44_c_Token_kind
  obtain ⟨fd_run_end, D_run_end⟩ := c.def_ 16 (d := ⟨("run_end", none), "run_end", "run_end", defArgs (top 20), defBody (top 20), defScope (top 20), [], []⟩) rfl
  have D_run_end : FunD K "run_end" "run_end" (defArgs (top 20)) (defBody (top 20)) (defScope (top 20)) [] [] (He.ga K "run_end") fd_run_end := D_run_end
  have b_run_end_ : Binds K fd_run_end ["row", "start", "letters"] [] := D_run_end.bindsN fun _ _ _ _ _ _ us hl => match us, hl with | [_, _, _], _ => rfl
  have o_run_end : ∀ base : Heap, (∀ q ∈ tfE.map (He.cT K), LamX.TabB base mg q.1 q.2) → FnOk P w K mg base (L2.CX P w) 1 (He.ga K "run_end") fd_run_end ["row", "start", "letters"] (spP K mg 3 F_run_end) := fun base TB => ok_run_end D_run_end u10_z_len
  obtain ⟨fd_read_token, D_read_token⟩ := c.def_ 17 (d := ⟨("read_token", none), "read_token", "read_token", defArgs (top 21), defBody (top 21), defScope (top 21), [], []⟩) rfl
  have D_read_token : FunD K "read_token" "read_token" (defArgs (top 21)) (defBody (top 21)) (defScope (top 21)) [] [] (He.ga K "read_token") fd_read_token := D_read_token
  have b_read_token_ : Binds K fd_read_token ["row", "line", "column"] [] := D_read_token.bindsN fun _ _ _ _ _ _ us hl => match us, hl with | [_, _, _], _ => rfl
  have u45_g_NAME : GStr mg "NAME" "name" := e_str X G c (List.mem_of_getElem? (i := 53) (l := faE) rfl)
  have u46_K_Token : ∀ base : Heap, (∀ q ∈ tfE.map (He.cT K), LamX.TabB base mg q.1 q.2) → MakeMOk P w K mg base "Token" 1 5 [] F_Token_init := fun base TB => e_makeM X G c (List.mem_of_getElem? (i := 47) (l := faE) rfl) (List.mem_of_getElem? (i := 54) (l := faE) rfl) (b_Token_init_) (o_Token_init base TB)
  have u47_R_SyntaxFault : ∀ base : Heap, (∀ q ∈ tfE.map (He.cT K), LamX.TabB base mg q.1 q.2) → RaiseXOk P w K mg base "SyntaxFault" ["line", "column"] 1 := fun base TB => e_raise X G c (List.mem_of_getElem? (i := 55) (l := faE) rfl) T_SyntaxFault (b_SyntaxFault_init_) (o_SyntaxFault_init base TB)
  have u48_g_KEYWORD : GStr mg "KEYWORD" "keyword" := e_str X G c (List.mem_of_getElem? (i := 56) (l := faE) rfl)
  have u49_C_run_end : ∀ base : Heap, (∀ q ∈ tfE.map (He.cT K), LamX.TabB base mg q.1 q.2) → CallPOk P w K mg base "run_end" 1 3 [] F_run_end := fun base TB => e_callP X G c D_run_end (List.mem_of_getElem? (i := 57) (l := faE) rfl) (b_run_end_) (o_run_end base TB)
  have u50_g_DIGITS : GStr mg "DIGITS" "0123456789" := e_str X G c (List.mem_of_getElem? (i := 58) (l := faE) rfl)
  have u51_g_NUMBER : GStr mg "NUMBER" "number" := e_str X G c (List.mem_of_getElem? (i := 59) (l := faE) rfl)
  have u52_g_MAX_DIGITS : GInt mg "MAX_DIGITS" 2 := e_int X G c (List.mem_of_getElem? (i := 60) (l := faE) rfl)
  have u53_g_END_SIGN : GStr mg "END_SIGN" ";" := e_str X G c (List.mem_of_getElem? (i := 61) (l := faE) rfl)
  have u54_g_SIGN : GStr mg "SIGN" "sign" := e_str X G c (List.mem_of_getElem? (i := 62) (l := faE) rfl)
  have o_read_token : ∀ base : Heap, (∀ q ∈ tfE.map (He.cT K), LamX.TabB base mg q.1 q.2) → FnOk P w K mg base (L2.CX P w) 3 (He.ga K "read_token") fd_read_token ["row", "line", "column"] (spP K mg 3 F_read_token) := fun base TB => ok_read_token D_read_token u45_g_NAME (u46_K_Token base TB) u10_z_len u25_g_MAX_LETTERS (u47_R_SyntaxFault base TB) u23_g_KEYWORDS u48_g_KEYWORD u24_g_LETTERS (u49_C_run_end base TB) u50_g_DIGITS u51_g_NUMBER u52_g_MAX_DIGITS u53_g_END_SIGN u54_g_SIGN
  obtain ⟨fd_tokenize, D_tokenize⟩ := c.def_ 18 (d := ⟨("tokenize", none), "tokenize", "tokenize", defArgs (top 22), defBody (top 22), defScope (top 22), [], []⟩) rfl
  have D_tokenize : FunD K "tokenize" "tokenize" (defArgs (top 22)) (defBody (top 22)) (defScope (top 22)) [] [] (He.ga K "tokenize") fd_tokenize := D_tokenize
  have b_tokenize_ : Binds K fd_tokenize ["source"] [] := D_tokenize.bindsN fun _ _ _ _ _ _ us hl => match us, hl with | [_], _ => rfl
  have u55_g_END : GStr mg "END" "end" := e_str X G c (List.mem_of_getElem? (i := 63) (l := faE) rfl)
  have u56_g_SPACES : GStr mg "SPACES" " \n" := e_str X G c (List.mem_of_getElem? (i := 64) (l := faE) rfl)
  have u57_C_read_token : ∀ base : Heap, (∀ q ∈ tfE.map (He.cT K), LamX.TabB base mg q.1 q.2) → CallPOk P w K mg base "read_token" 3 3 [] F_read_token := fun base TB => e_callP X G c D_read_token (List.mem_of_getElem? (i := 65) (l := faE) rfl) (b_read_token_) (o_read_token base TB)
  have o_tokenize : ∀ base : Heap, (∀ q ∈ tfE.map (He.cT K), LamX.TabB base mg q.1 q.2) → FnOk P w K mg base (L2.CX P w) 4 (He.ga K "tokenize") fd_tokenize ["source"] (spP K mg 1 F_tokenize) := fun base TB => ok_tokenize D_tokenize u10_z_len u55_g_END (u46_K_Token base TB) u6_z_enumerate u56_g_SPACES u43_c_Token_text (u57_C_read_token base TB)
  obtain ⟨fd_Parser_init, D_Parser_init⟩ := c.def_ 19 (d := ⟨("Parser", some "__init__"), "__init__", "Parser.__init__", defArgs (inClass (top 30) 0), defBody (inClass (top 30) 0), defScope (inClass (top 30) 0), [], []⟩) rfl
  have D_Parser_init : FunD K "__init__" "Parser.__init__" (defArgs (inClass (top 30) 0)) (defBody (inClass (top 30) 0)) (defScope (inClass (top 30) 0)) [] [] (He.ma K (He.ga K "Parser") "__init__") fd_Parser_init := D_Parser_init
  have b_Parser_init_ : Binds K fd_Parser_init ["self", "tokens"] [] := D_Parser_init.bindsN fun _ _ _ _ _ _ us hl => match us, hl with | [_, _], _ => rfl
  have u58_c_Parser_ranks : ClsF K mg ["Parser"] "ranks" := (e_cls X G c (List.mem_of_getElem? (i := 66) (l := faE) rfl) (List.mem_of_getElem? (i := 67) (l := faE) rfl) (List.mem_of_getElem? (i := 68) (l := faE) rfl))
  have u59_c_Parser_pauses : ClsF K mg ["Parser"] "pauses" := (e_cls X G c (List.mem_of_getElem? (i := 66) (l := faE) rfl) (List.mem_of_getElem? (i := 67) (l := faE) rfl) (List.mem_of_getElem? (i := 69) (l := faE) rfl))
  have u60_c_Parser_starts : ClsF K mg ["Parser"] "starts" := (e_cls X G c (List.mem_of_getElem? (i := 66) (l := faE) rfl) (List.mem_of_getElem? (i := 67) (l := faE) rfl) (List.mem_of_getElem? (i := 70) (l := faE) rfl))
  have u61_c_Parser_names : ClsF K mg ["Parser"] "names" := (e_cls X G c (List.mem_of_getElem? (i := 66) (l := faE) rfl) (List.mem_of_getElem? (i := 67) (l := faE) rfl) (List.mem_of_getElem? (i := 71) (l := faE) rfl))
  have u62_c_Parser_faults : ClsF K mg ["Parser"] "faults" := (e_cls X G c (List.mem_of_getElem? (i := 66) (l := faE) rfl) (List.mem_of_getElem? (i := 67) (l := faE) rfl) (List.mem_of_getElem? (i := 72) (l := faE) rfl))
  have u63_c_Parser_at : ClsF K mg ["Parser"] "at" := (e_cls X G c (List.mem_of_getElem? (i := 66) (l := faE) rfl) (List.mem_of_getElem? (i := 67) (l := faE) rfl) (List.mem_of_getElem? (i := 73) (l := faE) rfl))
  have u64_c_Parser_tokens : ClsF K mg ["Parser"] "tokens" := (e_cls X G c (List.mem_of_getElem? (i := 66) (l := faE) rfl) (List.mem_of_getElem? (i := 67) (l := faE) rfl) (List.mem_of_getElem? (i := 74) (l := faE) rfl))
  have o_Parser_init : ∀ base : Heap, (∀ q ∈ tfE.map (He.cT K), LamX.TabB base mg q.1 q.2) → FnOk P w K mg base (L2.CX P w) 1 (He.ma K (He.ga K "Parser") "__init__") fd_Parser_init ["self", "tokens"] (spO K mg 2 F_Parser_init) := fun base TB => ok_Parser_init D_Parser_init u58_c_Parser_ranks u59_c_Parser_pauses u60_c_Parser_starts u61_c_Parser_names u62_c_Parser_faults u63_c_Parser_at u64_c_Parser_tokens
  obtain ⟨fd_Parser_peek, D_Parser_peek⟩ := c.def_ 20 (d := ⟨("Parser", some "peek"), "peek", "Parser.peek", defArgs (inClass (top 30) 1), defBody (inClass (top 30) 1), defScope (inClass (top 30) 1), [], []⟩) rfl
  have D_Parser_peek : FunD K "peek" "Parser.peek" (defArgs (inClass (top 30) 1)) (defBody (inClass (top 30) 1)) (defScope (inClass (top 30) 1)) [] [] (He.ma K (He.ga K "Parser") "peek") fd_Parser_peek := D_Parser_peek
  have b_Parser_peek_ : Binds K fd_Parser_peek ["self"] [] := D_Parser_peek.bindsN fun _ _ _ _ _ _ us hl => match us, hl with | [_], _ => rfl
  have o_Parser_peek : ∀ base : Heap, (∀ q ∈ tfE.map (He.cT K), LamX.TabB base mg q.1 q.2) → FnOk P w K mg base (L2.CX P w) 1 (He.ma K (He.ga K "Parser") "peek") fd_Parser_peek ["self"] (spO K mg 1 F_Parser_peek) := fun base TB => ok_Parser_peek D_Parser_peek u64_c_Parser_tokens u63_c_Parser_at
  obtain ⟨fd_Parser_fail, D_Parser_fail⟩ := c.def_ 21 (d := ⟨("Parser", some "fail"), "fail", "Parser.fail", defArgs (inClass (top 30) 2), defBody (inClass (top 30) 2), defScope (inClass (top 30) 2), [], []⟩) rfl
  have D_Parser_fail : FunD K "fail" "Parser.fail" (defArgs (inClass (top 30) 2)) (defBody (inClass (top 30) 2)) (defScope (inClass (top 30) 2)) [] [] (He.ma K (He.ga K "Parser") "fail") fd_Parser_fail := D_Parser_fail
  have b_Parser_fail_ : Binds K fd_Parser_fail ["self"] [] := D_Parser_fail.bindsN fun _ _ _ _ _ _ us hl => match us, hl with | [_], _ => rfl
  have u65_M_Parser_peek : ∀ base : Heap, (∀ q ∈ tfE.map (He.cT K), LamX.TabB base mg q.1 q.2) → MethOOk P w K mg base "Parser" "peek" 1 1 [] F_Parser_peek := fun base TB => e_methO X G c (List.mem_of_getElem? (i := 66) (l := faE) rfl) (List.mem_of_getElem? (i := 67) (l := faE) rfl) (List.mem_of_getElem? (i := 75) (l := faE) rfl) (b_Parser_peek_) (o_Parser_peek base TB)
  have o_Parser_fail : ∀ base : Heap, (∀ q ∈ tfE.map (He.cT K), LamX.TabB base mg q.1 q.2) → FnOk P w K mg base (L2.CX P w) 3 (He.ma K (He.ga K "Parser") "fail") fd_Parser_fail ["self"] (spO K mg 1 F_Parser_fail) := fun base TB => ok_Parser_fail D_Parser_fail u41_c_Token_column u42_c_Token_line (u47_R_SyntaxFault base TB) (u65_M_Parser_peek base TB)
  obtain ⟨fd_Parser_found, D_Parser_found⟩ := c.def_ 22 (d := ⟨("Parser", some "found"), "found", "Parser.found", defArgs (inClass (top 30) 3), defBody (inClass (top 30) 3), defScope (inClass (top 30) 3), [], []⟩) rfl
  have D_Parser_found : FunD K "found" "Parser.found" (defArgs (inClass (top 30) 3)) (defBody (inClass (top 30) 3)) (defScope (inClass (top 30) 3)) [] [] (He.ma K (He.ga K "Parser") "found") fd_Parser_found := D_Parser_found
  have b_Parser_found_ : Binds K fd_Parser_found ["self", "reason", "token"] [] := D_Parser_found.bindsN fun _ _ _ _ _ _ us hl => match us, hl with | [_, _, _], _ => rfl
  have o_Parser_found : ∀ base : Heap, (∀ q ∈ tfE.map (He.cT K), LamX.TabB base mg q.1 q.2) → FnOk P w K mg base (L2.CX P w) 1 (He.ma K (He.ga K "Parser") "found") fd_Parser_found ["self", "reason", "token"] (spO K mg 3 F_Parser_found) := fun base TB => ok_Parser_found D_Parser_found u62_c_Parser_faults u10_z_len u41_c_Token_column u42_c_Token_line
  obtain ⟨fd_Parser_take_word, D_Parser_take_word⟩ := c.def_ 23 (d := ⟨("Parser", some "take_word"), "take_word", "Parser.take_word", defArgs (inClass (top 30) 5), defBody (inClass (top 30) 5), defScope (inClass (top 30) 5), [], []⟩) rfl
  have D_Parser_take_word : FunD K "take_word" "Parser.take_word" (defArgs (inClass (top 30) 5)) (defBody (inClass (top 30) 5)) (defScope (inClass (top 30) 5)) [] [] (He.ma K (He.ga K "Parser") "take_word") fd_Parser_take_word := D_Parser_take_word
  have b_Parser_take_word_ : Binds K fd_Parser_take_word ["self", "word"] [] := D_Parser_take_word.bindsN fun _ _ _ _ _ _ us hl => match us, hl with | [_, _], _ => rfl
  have u66_M_Parser_fail : ∀ base : Heap, (∀ q ∈ tfE.map (He.cT K), LamX.TabB base mg q.1 q.2) → MethOOk P w K mg base "Parser" "fail" 3 1 [] F_Parser_fail := fun base TB => e_methO X G c (List.mem_of_getElem? (i := 66) (l := faE) rfl) (List.mem_of_getElem? (i := 67) (l := faE) rfl) (List.mem_of_getElem? (i := 76) (l := faE) rfl) (b_Parser_fail_) (o_Parser_fail base TB)
  have o_Parser_take_word : ∀ base : Heap, (∀ q ∈ tfE.map (He.cT K), LamX.TabB base mg q.1 q.2) → FnOk P w K mg base (L2.CX P w) 4 (He.ma K (He.ga K "Parser") "take_word") fd_Parser_take_word ["self", "word"] (spO K mg 2 F_Parser_take_word) := fun base TB => ok_Parser_take_word D_Parser_take_word u63_c_Parser_at (u65_M_Parser_peek base TB) u43_c_Token_text (u66_M_Parser_fail base TB)
  obtain ⟨fd_Parser_take, D_Parser_take⟩ := c.def_ 24 (d := ⟨("Parser", some "take"), "take", "Parser.take", defArgs (inClass (top 30) 4), defBody (inClass (top 30) 4), defScope (inClass (top 30) 4), [], []⟩) rfl
  have D_Parser_take : FunD K "take" "Parser.take" (defArgs (inClass (top 30) 4)) (defBody (inClass (top 30) 4)) (defScope (inClass (top 30) 4)) [] [] (He.ma K (He.ga K "Parser") "take") fd_Parser_take := D_Parser_take
  have b_Parser_take_ : Binds K fd_Parser_take ["self", "kind"] [] := D_Parser_take.bindsN fun _ _ _ _ _ _ us hl => match us, hl with | [_, _], _ => rfl
  have o_Parser_take : ∀ base : Heap, (∀ q ∈ tfE.map (He.cT K), LamX.TabB base mg q.1 q.2) → FnOk P w K mg base (L2.CX P w) 4 (He.ma K (He.ga K "Parser") "take") fd_Parser_take ["self", "kind"] (spO K mg 2 F_Parser_take) := fun base TB => ok_Parser_take D_Parser_take u63_c_Parser_at u44_c_Token_kind (u66_M_Parser_fail base TB) (u65_M_Parser_peek base TB)
  obtain ⟨fd_Parser_take_names, D_Parser_take_names⟩ := c.def_ 25 (d := ⟨("Parser", some "take_names"), "take_names", "Parser.take_names", defArgs (inClass (top 30) 6), defBody (inClass (top 30) 6), defScope (inClass (top 30) 6), [], []⟩) rfl
  have D_Parser_take_names : FunD K "take_names" "Parser.take_names" (defArgs (inClass (top 30) 6)) (defBody (inClass (top 30) 6)) (defScope (inClass (top 30) 6)) [] [] (He.ma K (He.ga K "Parser") "take_names") fd_Parser_take_names := D_Parser_take_names
  have b_Parser_take_names_ : Binds K fd_Parser_take_names ["self"] [] := D_Parser_take_names.bindsN fun _ _ _ _ _ _ us hl => match us, hl with | [_], _ => rfl
  have u67_M_Parser_take_word : ∀ base : Heap, (∀ q ∈ tfE.map (He.cT K), LamX.TabB base mg q.1 q.2) → MethOOk P w K mg base "Parser" "take_word" 4 2 [] F_Parser_take_word := fun base TB => e_methO X G c (List.mem_of_getElem? (i := 66) (l := faE) rfl) (List.mem_of_getElem? (i := 67) (l := faE) rfl) (List.mem_of_getElem? (i := 77) (l := faE) rfl) (b_Parser_take_word_) (o_Parser_take_word base TB)
  have u68_M_Parser_take : ∀ base : Heap, (∀ q ∈ tfE.map (He.cT K), LamX.TabB base mg q.1 q.2) → MethOOk P w K mg base "Parser" "take" 4 2 [] F_Parser_take := fun base TB => e_methO X G c (List.mem_of_getElem? (i := 66) (l := faE) rfl) (List.mem_of_getElem? (i := 67) (l := faE) rfl) (List.mem_of_getElem? (i := 78) (l := faE) rfl) (b_Parser_take_) (o_Parser_take base TB)
  have o_Parser_take_names : ∀ base : Heap, (∀ q ∈ tfE.map (He.cT K), LamX.TabB base mg q.1 q.2) → FnOk P w K mg base (L2.CX P w) 5 (He.ma K (He.ga K "Parser") "take_names") fd_Parser_take_names ["self"] (spO K mg 1 F_Parser_take_names) := fun base TB => ok_Parser_take_names D_Parser_take_names (u67_M_Parser_take_word base TB) u53_g_END_SIGN (u65_M_Parser_peek base TB) u44_c_Token_kind u45_g_NAME (u68_M_Parser_take base TB)
  obtain ⟨fd_Parser_valve, D_Parser_valve⟩ := c.def_ 26 (d := ⟨("Parser", some "valve"), "valve", "Parser.valve", defArgs (inClass (top 30) 7), defBody (inClass (top 30) 7), defScope (inClass (top 30) 7), [], []⟩) rfl
  have D_Parser_valve : FunD K "valve" "Parser.valve" (defArgs (inClass (top 30) 7)) (defBody (inClass (top 30) 7)) (defScope (inClass (top 30) 7)) [] [] (He.ma K (He.ga K "Parser") "valve") fd_Parser_valve := D_Parser_valve
  have b_Parser_valve_ : Binds K fd_Parser_valve ["self", "token"] [] := D_Parser_valve.bindsN fun _ _ _ _ _ _ us hl => match us, hl with | [_, _], _ => rfl
  have u69_M_Parser_found : ∀ base : Heap, (∀ q ∈ tfE.map (He.cT K), LamX.TabB base mg q.1 q.2) → MethOOk P w K mg base "Parser" "found" 1 3 [] F_Parser_found := fun base TB => e_methO X G c (List.mem_of_getElem? (i := 66) (l := faE) rfl) (List.mem_of_getElem? (i := 67) (l := faE) rfl) (List.mem_of_getElem? (i := 79) (l := faE) rfl) (b_Parser_found_) (o_Parser_found base TB)
  have o_Parser_valve : ∀ base : Heap, (∀ q ∈ tfE.map (He.cT K), LamX.TabB base mg q.1 q.2) → FnOk P w K mg base (L2.CX P w) 2 (He.ma K (He.ga K "Parser") "valve") fd_Parser_valve ["self", "token"] (spO K mg 2 F_Parser_valve) := fun base TB => ok_Parser_valve D_Parser_valve (u69_M_Parser_found base TB) u43_c_Token_text u61_c_Parser_names
  obtain ⟨fd_Parser_parse_rank, D_Parser_parse_rank⟩ := c.def_ 27 (d := ⟨("Parser", some "parse_rank"), "parse_rank", "Parser.parse_rank", defArgs (inClass (top 30) 12), defBody (inClass (top 30) 12), defScope (inClass (top 30) 12), [], []⟩) rfl
  have D_Parser_parse_rank : FunD K "parse_rank" "Parser.parse_rank" (defArgs (inClass (top 30) 12)) (defBody (inClass (top 30) 12)) (defScope (inClass (top 30) 12)) [] [] (He.ma K (He.ga K "Parser") "parse_rank") fd_Parser_parse_rank := D_Parser_parse_rank
  have b_Parser_parse_rank_ : Binds K fd_Parser_parse_rank ["self"] [] := D_Parser_parse_rank.bindsN fun _ _ _ _ _ _ us hl => match us, hl with | [_], _ => rfl
  have u70_M_Parser_take_names : ∀ base : Heap, (∀ q ∈ tfE.map (He.cT K), LamX.TabB base mg q.1 q.2) → MethOOk P w K mg base "Parser" "take_names" 5 1 [] F_Parser_take_names := fun base TB => e_methO X G c (List.mem_of_getElem? (i := 66) (l := faE) rfl) (List.mem_of_getElem? (i := 67) (l := faE) rfl) (List.mem_of_getElem? (i := 80) (l := faE) rfl) (b_Parser_take_names_) (o_Parser_take_names base TB)
  have u71_M_Parser_valve : ∀ base : Heap, (∀ q ∈ tfE.map (He.cT K), LamX.TabB base mg q.1 q.2) → MethOOk P w K mg base "Parser" "valve" 2 2 [] F_Parser_valve := fun base TB => e_methO X G c (List.mem_of_getElem? (i := 66) (l := faE) rfl) (List.mem_of_getElem? (i := 67) (l := faE) rfl) (List.mem_of_getElem? (i := 81) (l := faE) rfl) (b_Parser_valve_) (o_Parser_valve base TB)
  have o_Parser_parse_rank : ∀ base : Heap, (∀ q ∈ tfE.map (He.cT K), LamX.TabB base mg q.1 q.2) → FnOk P w K mg base (L2.CX P w) 6 (He.ma K (He.ga K "Parser") "parse_rank") fd_Parser_parse_rank ["self"] (spO K mg 1 F_Parser_parse_rank) := fun base TB => ok_Parser_parse_rank D_Parser_parse_rank u58_c_Parser_ranks (u69_M_Parser_found base TB) (u70_M_Parser_take_names base TB) u43_c_Token_text u61_c_Parser_names (u71_M_Parser_valve base TB) (u67_M_Parser_take_word base TB) (u65_M_Parser_peek base TB)
  obtain ⟨fd_Parser_parse_pause, D_Parser_parse_pause⟩ := c.def_ 28 (d := ⟨("Parser", some "parse_pause"), "parse_pause", "Parser.parse_pause", defArgs (inClass (top 30) 11), defBody (inClass (top 30) 11), defScope (inClass (top 30) 11), [], []⟩) rfl
  have D_Parser_parse_pause : FunD K "parse_pause" "Parser.parse_pause" (defArgs (inClass (top 30) 11)) (defBody (inClass (top 30) 11)) (defScope (inClass (top 30) 11)) [] [] (He.ma K (He.ga K "Parser") "parse_pause") fd_Parser_parse_pause := D_Parser_parse_pause
  have b_Parser_parse_pause_ : Binds K fd_Parser_parse_pause ["self", "length"] [] := D_Parser_parse_pause.bindsN fun _ _ _ _ _ _ us hl => match us, hl with | [_, _], _ => rfl
  have o_Parser_parse_pause : ∀ base : Heap, (∀ q ∈ tfE.map (He.cT K), LamX.TabB base mg q.1 q.2) → FnOk P w K mg base (L2.CX P w) 5 (He.ma K (He.ga K "Parser") "parse_pause") fd_Parser_parse_pause ["self", "length"] (spO K mg 2 F_Parser_parse_pause) := fun base TB => ok_Parser_parse_pause D_Parser_parse_pause u59_c_Parser_pauses u14_z_int u43_c_Token_text (u69_M_Parser_found base TB) (u67_M_Parser_take_word base TB) u53_g_END_SIGN (u68_M_Parser_take base TB) u51_g_NUMBER
  obtain ⟨fd_Parser_parse_start, D_Parser_parse_start⟩ := c.def_ 29 (d := ⟨("Parser", some "parse_start"), "parse_start", "Parser.parse_start", defArgs (inClass (top 30) 10), defBody (inClass (top 30) 10), defScope (inClass (top 30) 10), [], []⟩) rfl
  have D_Parser_parse_start : FunD K "parse_start" "Parser.parse_start" (defArgs (inClass (top 30) 10)) (defBody (inClass (top 30) 10)) (defScope (inClass (top 30) 10)) [] [] (He.ma K (He.ga K "Parser") "parse_start") fd_Parser_parse_start := D_Parser_parse_start
  have b_Parser_parse_start_ : Binds K fd_Parser_parse_start ["self", "length"] [] := D_Parser_parse_start.bindsN fun _ _ _ _ _ _ us hl => match us, hl with | [_, _], _ => rfl
  have o_Parser_parse_start : ∀ base : Heap, (∀ q ∈ tfE.map (He.cT K), LamX.TabB base mg q.1 q.2) → FnOk P w K mg base (L2.CX P w) 5 (He.ma K (He.ga K "Parser") "parse_start") fd_Parser_parse_start ["self", "length"] (spO K mg 2 F_Parser_parse_start) := fun base TB => ok_Parser_parse_start D_Parser_parse_start u60_c_Parser_starts u14_z_int u43_c_Token_text u10_z_len u20_g_MAX_STARTS (u69_M_Parser_found base TB) u21_g_MAX_LENGTH (u67_M_Parser_take_word base TB) u53_g_END_SIGN (u68_M_Parser_take base TB) u51_g_NUMBER (u71_M_Parser_valve base TB) u45_g_NAME (u65_M_Parser_peek base TB)
  obtain ⟨fd_Parser_parse_valves, D_Parser_parse_valves⟩ := c.def_ 30 (d := ⟨("Parser", some "parse_valves"), "parse_valves", "Parser.parse_valves", defArgs (inClass (top 30) 9), defBody (inClass (top 30) 9), defScope (inClass (top 30) 9), [], []⟩) rfl
  have D_Parser_parse_valves : FunD K "parse_valves" "Parser.parse_valves" (defArgs (inClass (top 30) 9)) (defBody (inClass (top 30) 9)) (defScope (inClass (top 30) 9)) [] [] (He.ma K (He.ga K "Parser") "parse_valves") fd_Parser_parse_valves := D_Parser_parse_valves
  have b_Parser_parse_valves_ : Binds K fd_Parser_parse_valves ["self"] [] := D_Parser_parse_valves.bindsN fun _ _ _ _ _ _ us hl => match us, hl with | [_], _ => rfl
  have o_Parser_parse_valves : ∀ base : Heap, (∀ q ∈ tfE.map (He.cT K), LamX.TabB base mg q.1 q.2) → FnOk P w K mg base (L2.CX P w) 6 (He.ma K (He.ga K "Parser") "parse_valves") fd_Parser_parse_valves ["self"] (spO K mg 1 F_Parser_parse_valves) := fun base TB => ok_Parser_parse_valves D_Parser_parse_valves (u70_M_Parser_take_names base TB) u43_c_Token_text u61_c_Parser_names (u69_M_Parser_found base TB) u10_z_len u34_g_MAX_VALVES (u67_M_Parser_take_word base TB)
  obtain ⟨fd_Parser_parse_number, D_Parser_parse_number⟩ := c.def_ 31 (d := ⟨("Parser", some "parse_number"), "parse_number", "Parser.parse_number", defArgs (inClass (top 30) 8), defBody (inClass (top 30) 8), defScope (inClass (top 30) 8), [], []⟩) rfl
  have D_Parser_parse_number : FunD K "parse_number" "Parser.parse_number" (defArgs (inClass (top 30) 8)) (defBody (inClass (top 30) 8)) (defScope (inClass (top 30) 8)) [] [] (He.ma K (He.ga K "Parser") "parse_number") fd_Parser_parse_number := D_Parser_parse_number
  have b_Parser_parse_number_ : Binds K fd_Parser_parse_number ["self", "word", "high"] [] := D_Parser_parse_number.bindsN fun _ _ _ _ _ _ us hl => match us, hl with | [_, _, _], _ => rfl
  have o_Parser_parse_number : ∀ base : Heap, (∀ q ∈ tfE.map (He.cT K), LamX.TabB base mg q.1 q.2) → FnOk P w K mg base (L2.CX P w) 5 (He.ma K (He.ga K "Parser") "parse_number") fd_Parser_parse_number ["self", "word", "high"] (spO K mg 3 F_Parser_parse_number) := fun base TB => ok_Parser_parse_number D_Parser_parse_number u14_z_int u43_c_Token_text (u69_M_Parser_found base TB) (u67_M_Parser_take_word base TB) u53_g_END_SIGN (u68_M_Parser_take base TB) u51_g_NUMBER
  obtain ⟨fd_Parser_parse_plan, D_Parser_parse_plan⟩ := c.def_ 32 (d := ⟨("Parser", some "parse_plan"), "parse_plan", "Parser.parse_plan", defArgs (inClass (top 30) 13), defBody (inClass (top 30) 13), defScope (inClass (top 30) 13), [], []⟩) rfl
  have D_Parser_parse_plan : FunD K "parse_plan" "Parser.parse_plan" (defArgs (inClass (top 30) 13)) (defBody (inClass (top 30) 13)) (defScope (inClass (top 30) 13)) [] [] (He.ma K (He.ga K "Parser") "parse_plan") fd_Parser_parse_plan := D_Parser_parse_plan
  have b_Parser_parse_plan_ : Binds K fd_Parser_parse_plan ["self"] [] := D_Parser_parse_plan.bindsN fun _ _ _ _ _ _ us hl => match us, hl with | [_], _ => rfl
  have u72_z_sorted : mg "sorted" = none := e_free X G c (List.mem_of_getElem? (i := 82) (l := faE) rfl)
  have u73_z_any : mg "any" = none := e_free X G c (List.mem_of_getElem? (i := 83) (l := faE) rfl)
  have u74_M_Parser_parse_rank : ∀ base : Heap, (∀ q ∈ tfE.map (He.cT K), LamX.TabB base mg q.1 q.2) → MethOOk P w K mg base "Parser" "parse_rank" 6 1 [] F_Parser_parse_rank := fun base TB => e_methO X G c (List.mem_of_getElem? (i := 66) (l := faE) rfl) (List.mem_of_getElem? (i := 67) (l := faE) rfl) (List.mem_of_getElem? (i := 84) (l := faE) rfl) (b_Parser_parse_rank_) (o_Parser_parse_rank base TB)
  have u75_M_Parser_parse_pause : ∀ base : Heap, (∀ q ∈ tfE.map (He.cT K), LamX.TabB base mg q.1 q.2) → MethOOk P w K mg base "Parser" "parse_pause" 5 2 [] F_Parser_parse_pause := fun base TB => e_methO X G c (List.mem_of_getElem? (i := 66) (l := faE) rfl) (List.mem_of_getElem? (i := 67) (l := faE) rfl) (List.mem_of_getElem? (i := 85) (l := faE) rfl) (b_Parser_parse_pause_) (o_Parser_parse_pause base TB)
  have u76_M_Parser_parse_start : ∀ base : Heap, (∀ q ∈ tfE.map (He.cT K), LamX.TabB base mg q.1 q.2) → MethOOk P w K mg base "Parser" "parse_start" 5 2 [] F_Parser_parse_start := fun base TB => e_methO X G c (List.mem_of_getElem? (i := 66) (l := faE) rfl) (List.mem_of_getElem? (i := 67) (l := faE) rfl) (List.mem_of_getElem? (i := 86) (l := faE) rfl) (b_Parser_parse_start_) (o_Parser_parse_start base TB)
  have u77_M_Parser_parse_valves : ∀ base : Heap, (∀ q ∈ tfE.map (He.cT K), LamX.TabB base mg q.1 q.2) → MethOOk P w K mg base "Parser" "parse_valves" 6 1 [] F_Parser_parse_valves := fun base TB => e_methO X G c (List.mem_of_getElem? (i := 66) (l := faE) rfl) (List.mem_of_getElem? (i := 67) (l := faE) rfl) (List.mem_of_getElem? (i := 87) (l := faE) rfl) (b_Parser_parse_valves_) (o_Parser_parse_valves base TB)
  have u78_M_Parser_parse_number : ∀ base : Heap, (∀ q ∈ tfE.map (He.cT K), LamX.TabB base mg q.1 q.2) → MethOOk P w K mg base "Parser" "parse_number" 5 3 [] F_Parser_parse_number := fun base TB => e_methO X G c (List.mem_of_getElem? (i := 66) (l := faE) rfl) (List.mem_of_getElem? (i := 67) (l := faE) rfl) (List.mem_of_getElem? (i := 88) (l := faE) rfl) (b_Parser_parse_number_) (o_Parser_parse_number base TB)
  have o_Parser_parse_plan : ∀ base : Heap, (∀ q ∈ tfE.map (He.cT K), LamX.TabB base mg q.1 q.2) → FnOk P w K mg base (L2.CX P w) 7 (He.ma K (He.ga K "Parser") "parse_plan") fd_Parser_parse_plan ["self"] (spO K mg 1 F_Parser_parse_plan) := fun base TB => ok_Parser_parse_plan D_Parser_parse_plan (e_lam (p := ("Parser", some "parse_plan")) lb cX.hd D_Parser_parse_plan TB (List.mem_of_getElem? (i := 0) (l := tfE) rfl) (List.mem_of_getElem? (i := 0) (l := lamDefs) rfl)) u26_z_tuple u61_c_Parser_names (u27_K_Plan base TB) u72_z_sorted u60_c_Parser_starts u10_z_len u11_z_range u58_c_Parser_ranks u73_z_any u59_c_Parser_pauses u62_c_Parser_faults (u65_M_Parser_peek base TB) u44_c_Token_kind u55_g_END u43_c_Token_text (u66_M_Parser_fail base TB) (u74_M_Parser_parse_rank base TB) (u75_M_Parser_parse_pause base TB) (u76_M_Parser_parse_start base TB) (u77_M_Parser_parse_valves base TB) (u78_M_Parser_parse_number base TB) u36_g_MAX_OPEN u37_g_MAX_ROUND
  obtain ⟨fd_load, D_load⟩ := c.def_ 33 (d := ⟨("load", none), "load", "load", defArgs (top 31), defBody (top 31), defScope (top 31), [], []⟩) rfl
  have D_load : FunD K "load" "load" (defArgs (top 31)) (defBody (top 31)) (defScope (top 31)) [] [] (He.ga K "load") fd_load := D_load
  have b_load_ : Binds K fd_load ["plan"] [] := D_load.bindsN fun _ _ _ _ _ _ us hl => match us, hl with | [_], _ => rfl
  have u79_C_tokenize : ∀ base : Heap, (∀ q ∈ tfE.map (He.cT K), LamX.TabB base mg q.1 q.2) → CallPOk P w K mg base "tokenize" 4 1 [] F_tokenize := fun base TB => e_callP X G c D_tokenize (List.mem_of_getElem? (i := 89) (l := faE) rfl) (b_tokenize_) (o_tokenize base TB)
  have u80_K_Parser : ∀ base : Heap, (∀ q ∈ tfE.map (He.cT K), LamX.TabB base mg q.1 q.2) → MakeOOk P w K mg base "Parser" 1 2 [] F_Parser_init := fun base TB => e_makeO X G c (List.mem_of_getElem? (i := 66) (l := faE) rfl) (List.mem_of_getElem? (i := 90) (l := faE) rfl) (b_Parser_init_) (o_Parser_init base TB)
  have u81_M_Parser_parse_plan : ∀ base : Heap, (∀ q ∈ tfE.map (He.cT K), LamX.TabB base mg q.1 q.2) → MethOOk P w K mg base "Parser" "parse_plan" 7 1 [] F_Parser_parse_plan := fun base TB => e_methO X G c (List.mem_of_getElem? (i := 66) (l := faE) rfl) (List.mem_of_getElem? (i := 67) (l := faE) rfl) (List.mem_of_getElem? (i := 91) (l := faE) rfl) (b_Parser_parse_plan_) (o_Parser_parse_plan base TB)
  have o_load : ∀ base : Heap, (∀ q ∈ tfE.map (He.cT K), LamX.TabB base mg q.1 q.2) → FnOk P w K mg base (L2.CX P w) 8 (He.ga K "load") fd_load ["plan"] (spP K mg 1 F_load) := fun base TB => ok_load D_load (u79_C_tokenize base TB) (u80_K_Parser base TB) (u81_M_Parser_parse_plan base TB)
  obtain ⟨fd_encode, D_encode⟩ := c.def_ 34 (d := ⟨("encode", none), "encode", "encode", defArgs (top 40), defBody (top 40), defScope (top 40), [], []⟩) rfl
  have D_encode : FunD K "encode" "encode" (defArgs (top 40)) (defBody (top 40)) (defScope (top 40)) [] [] (He.ga K "encode") fd_encode := D_encode
  have b_encode_ : Binds K fd_encode ["plan"] [] := D_encode.bindsN fun _ _ _ _ _ _ us hl => match us, hl with | [_], _ => rfl
  have u82_C_load : ∀ base : Heap, (∀ q ∈ tfE.map (He.cT K), LamX.TabB base mg q.1 q.2) → CallPOk P w K mg base "load" 8 1 [] F_load := fun base TB => e_callP X G c D_load (List.mem_of_getElem? (i := 92) (l := faE) rfl) (b_load_) (o_load base TB)
  have o_encode : ∀ base : Heap, (∀ q ∈ tfE.map (He.cT K), LamX.TabB base mg q.1 q.2) → FnOk P w K mg base (L2.CX P w) 9 (He.ga K "encode") fd_encode ["plan"] (spN K mg 1 F_encode) := fun base TB => ok_encode D_encode u29_z_sum u30_g_BYTE u10_z_len u1_c_Plan_paused (u7_C_runs_of base TB) u2_c_Plan_starts u9_z_list u0_c_Plan_ranks u3_c_Plan_names u24_g_LETTERS u4_c_Plan_most u5_c_Plan_length u38_g_TAG (u82_C_load base TB)
  obtain ⟨fd__law_runs, D__law_runs⟩ := c.def_ 35 (d := ⟨("_law_runs", none), "_law_runs", "_law_runs", defArgs (top 48), defBody (top 48), defScope (top 48), [], []⟩) rfl
  have D__law_runs : FunD K "_law_runs" "_law_runs" (defArgs (top 48)) (defBody (top 48)) (defScope (top 48)) [] [] (He.ga K "_law_runs") fd__law_runs := D__law_runs
  have b__law_runs_ : Binds K fd__law_runs ["_law_paused"] [] := D__law_runs.bindsN fun _ _ _ _ _ _ us hl => match us, hl with | [_], _ => rfl
  have o__law_runs : ∀ base : Heap, (∀ q ∈ tfE.map (He.cT K), LamX.TabB base mg q.1 q.2) → FnOk P w K mg base (L2.CX P w) 1 (He.ga K "_law_runs") fd__law_runs ["_law_paused"] (spP K mg 1 F__law_runs) := fun base TB => ok__law_runs D__law_runs 
  obtain ⟨fd__law_word_bytes, D__law_word_bytes⟩ := c.def_ 36 (d := ⟨("_law_word_bytes", none), "_law_word_bytes", "_law_word_bytes", defArgs (top 50), defBody (top 50), defScope (top 50), [], []⟩) rfl
  have D__law_word_bytes : FunD K "_law_word_bytes" "_law_word_bytes" (defArgs (top 50)) (defBody (top 50)) (defScope (top 50)) [] [] (He.ga K "_law_word_bytes") fd__law_word_bytes := D__law_word_bytes
  have b__law_word_bytes_ : Binds K fd__law_word_bytes ["_law_word"] [] := D__law_word_bytes.bindsN fun _ _ _ _ _ _ us hl => match us, hl with | [_], _ => rfl
  have o__law_word_bytes : ∀ base : Heap, (∀ q ∈ tfE.map (He.cT K), LamX.TabB base mg q.1 q.2) → FnOk P w K mg base (L2.CX P w) 1 (He.ga K "_law_word_bytes") fd__law_word_bytes ["_law_word"] (spP K mg 1 F__law_word_bytes) := fun base TB => ok__law_word_bytes D__law_word_bytes u10_z_len
  obtain ⟨fd__law_bytes, D__law_bytes⟩ := c.def_ 37 (d := ⟨("_law_bytes", none), "_law_bytes", "_law_bytes", defArgs (top 51), defBody (top 51), defScope (top 51), [], []⟩) rfl
  have D__law_bytes : FunD K "_law_bytes" "_law_bytes" (defArgs (top 51)) (defBody (top 51)) (defScope (top 51)) [] [] (He.ga K "_law_bytes") fd__law_bytes := D__law_bytes
  have b__law_bytes_ : Binds K fd__law_bytes ["_law_plan"] [] := D__law_bytes.bindsN fun _ _ _ _ _ _ us hl => match us, hl with | [_], _ => rfl
  have u83_C__law_runs : ∀ base : Heap, (∀ q ∈ tfE.map (He.cT K), LamX.TabB base mg q.1 q.2) → CallPOk P w K mg base "_law_runs" 1 1 [] F__law_runs := fun base TB => e_callP X G c D__law_runs (List.mem_of_getElem? (i := 93) (l := faE) rfl) (b__law_runs_) (o__law_runs base TB)
  have u84_C__law_word_bytes : ∀ base : Heap, (∀ q ∈ tfE.map (He.cT K), LamX.TabB base mg q.1 q.2) → CallPOk P w K mg base "_law_word_bytes" 1 1 [] F__law_word_bytes := fun base TB => e_callP X G c D__law_word_bytes (List.mem_of_getElem? (i := 94) (l := faE) rfl) (b__law_word_bytes_) (o__law_word_bytes base TB)
  have o__law_bytes : ∀ base : Heap, (∀ q ∈ tfE.map (He.cT K), LamX.TabB base mg q.1 q.2) → FnOk P w K mg base (L2.CX P w) 2 (He.ga K "_law_bytes") fd__law_bytes ["_law_plan"] (spN K mg 1 F__law_bytes) := fun base TB => ok__law_bytes D__law_bytes u9_z_list u10_z_len (u83_C__law_runs base TB) (u84_C__law_word_bytes base TB)
  obtain ⟨fd__law_text, D__law_text⟩ := c.def_ 38 (d := ⟨("_law_text", none), "_law_text", "_law_text", defArgs (top 49), defBody (top 49), defScope (top 49), [], []⟩) rfl
  have D__law_text : FunD K "_law_text" "_law_text" (defArgs (top 49)) (defBody (top 49)) (defScope (top 49)) [] [] (He.ga K "_law_text") fd__law_text := D__law_text
  have b__law_text_ : Binds K fd__law_text ["_law_plan"] [] := D__law_text.bindsN fun _ _ _ _ _ _ us hl => match us, hl with | [_], _ => rfl
  have o__law_text : ∀ base : Heap, (∀ q ∈ tfE.map (He.cT K), LamX.TabB base mg q.1 q.2) → FnOk P w K mg base (L2.CX P w) 2 (He.ga K "_law_text") fd__law_text ["_law_plan"] (spP K mg 1 F__law_text) := fun base TB => ok__law_text D__law_text (u83_C__law_runs base TB) u8_z_str u9_z_list u10_z_len u11_z_range
  obtain ⟨fd__law_below, D__law_below⟩ := c.def_ 39 (d := ⟨("_law_below", none), "_law_below", "_law_below", defArgs (top 45), defBody (top 45), defScope (top 45), [], []⟩) rfl
  have D__law_below : FunD K "_law_below" "_law_below" (defArgs (top 45)) (defBody (top 45)) (defScope (top 45)) [] [] (He.ga K "_law_below") fd__law_below := D__law_below
  have b__law_below_ : Binds K fd__law_below ["_law_d", "_law_limit"] [] := D__law_below.bindsN fun _ _ _ _ _ _ us hl => match us, hl with | [_, _], _ => rfl
  have o__law_below : ∀ base : Heap, (∀ q ∈ tfE.map (He.cT K), LamX.TabB base mg q.1 q.2) → FnOk P w K mg base (L2.CX P w) 1 (He.ga K "_law_below") fd__law_below ["_law_d", "_law_limit"] (spO K mg 2 F__law_below) := fun base TB => ok__law_below D__law_below u10_z_len
  obtain ⟨fd__law_shuffled, D__law_shuffled⟩ := c.def_ 40 (d := ⟨("_law_shuffled", none), "_law_shuffled", "_law_shuffled", defArgs (top 46), defBody (top 46), defScope (top 46), [], []⟩) rfl
  have D__law_shuffled : FunD K "_law_shuffled" "_law_shuffled" (defArgs (top 46)) (defBody (top 46)) (defScope (top 46)) [] [] (He.ga K "_law_shuffled") fd__law_shuffled := D__law_shuffled
  have b__law_shuffled_ : Binds K fd__law_shuffled ["_law_d", "_law_items"] [] := D__law_shuffled.bindsN fun _ _ _ _ _ _ us hl => match us, hl with | [_, _], _ => rfl
  have u85_C__law_below : ∀ base : Heap, (∀ q ∈ tfE.map (He.cT K), LamX.TabB base mg q.1 q.2) → CallOOk P w K mg base "_law_below" 1 2 [] F__law_below := fun base TB => e_callO X G c D__law_below (List.mem_of_getElem? (i := 95) (l := faE) rfl) (b__law_below_) (o__law_below base TB)
  have o__law_shuffled : ∀ base : Heap, (∀ q ∈ tfE.map (He.cT K), LamX.TabB base mg q.1 q.2) → FnOk P w K mg base (L2.CX P w) 2 (He.ga K "_law_shuffled") fd__law_shuffled ["_law_d", "_law_items"] (spO K mg 2 F__law_shuffled) := fun base TB => ok__law_shuffled D__law_shuffled u10_z_len (u85_C__law_below base TB) u9_z_list
  obtain ⟨fd__law_wide, D__law_wide⟩ := c.def_ 41 (d := ⟨("_law_wide", none), "_law_wide", "_law_wide", defArgs (top 47), defBody (top 47), defScope (top 47), [], []⟩) rfl
  have D__law_wide : FunD K "_law_wide" "_law_wide" (defArgs (top 47)) (defBody (top 47)) (defScope (top 47)) [] [] (He.ga K "_law_wide") fd__law_wide := D__law_wide
  have b__law_wide_ : Binds K fd__law_wide ["_law_d", "_law_most"] [] := D__law_wide.bindsN fun _ _ _ _ _ _ us hl => match us, hl with | [_, _], _ => rfl
  have u86_C__law_shuffled : ∀ base : Heap, (∀ q ∈ tfE.map (He.cT K), LamX.TabB base mg q.1 q.2) → CallOOk P w K mg base "_law_shuffled" 2 2 [] F__law_shuffled := fun base TB => e_callO X G c D__law_shuffled (List.mem_of_getElem? (i := 96) (l := faE) rfl) (b__law_shuffled_) (o__law_shuffled base TB)
  have o__law_wide : ∀ base : Heap, (∀ q ∈ tfE.map (He.cT K), LamX.TabB base mg q.1 q.2) → FnOk P w K mg base (L2.CX P w) 3 (He.ga K "_law_wide") fd__law_wide ["_law_d", "_law_most"] (spO K mg 2 F__law_wide) := fun base TB => ok__law_wide D__law_wide (u85_C__law_below base TB) u72_z_sorted u10_z_len u11_z_range u9_z_list (u86_C__law_shuffled base TB) u26_z_tuple
  obtain ⟨fd__law_random, D__law_random⟩ := c.def_ 42 (d := ⟨("_law_random", none), "_law_random", "_law_random", defArgs (top 44), defBody (top 44), defScope (top 44), [], []⟩) rfl
  have D__law_random : FunD K "_law_random" "_law_random" (defArgs (top 44)) (defBody (top 44)) (defScope (top 44)) [] [] (He.ga K "_law_random") fd__law_random := D__law_random
  have b__law_random_ : Binds K fd__law_random ["_law_script", "_law_salt"] [] := D__law_random.bindsN fun _ _ _ _ _ _ us hl => match us, hl with | [_, _], _ => rfl
  have u87_z_abs : mg "abs" = none := e_free X G c (List.mem_of_getElem? (i := 97) (l := faE) rfl)
  have o__law_random : ∀ base : Heap, (∀ q ∈ tfE.map (He.cT K), LamX.TabB base mg q.1 q.2) → FnOk P w K mg base (L2.CX P w) 1 (He.ga K "_law_random") fd__law_random ["_law_script", "_law_salt"] (spN K mg 2 F__law_random) := fun base TB => ok__law_random D__law_random u87_z_abs
  obtain ⟨fd_law, D_law⟩ := c.def_ 43 (d := ⟨("law", none), "law", "law", defArgs (top 53), defBody (top 53), defScope (top 53), [], []⟩) rfl
  have D_law : FunD K "law" "law" (defArgs (top 53)) (defBody (top 53)) (defScope (top 53)) [] [] (He.ga K "law") fd_law := D_law
  have b_law_ : Binds K fd_law ["_law_script"] [] := D_law.bindsN fun _ _ _ _ _ _ us hl => match us, hl with | [_], _ => rfl
  have u88_C_decode : ∀ base : Heap, (∀ q ∈ tfE.map (He.cT K), LamX.TabB base mg q.1 q.2) → CallOOk P w K mg base "decode" 5 1 [] F_decode := fun base TB => e_callO X G c D_decode (List.mem_of_getElem? (i := 98) (l := faE) rfl) (b_decode_) (o_decode base TB)
  have u90_C_encode : ∀ base : Heap, (∀ q ∈ tfE.map (He.cT K), LamX.TabB base mg q.1 q.2) → CallNOk P w K mg base "encode" 9 1 [] F_encode := fun base TB => e_callN X G c D_encode (List.mem_of_getElem? (i := 99) (l := faE) rfl) (b_encode_) (o_encode base TB)
  have u91_C__law_bytes : ∀ base : Heap, (∀ q ∈ tfE.map (He.cT K), LamX.TabB base mg q.1 q.2) → CallNOk P w K mg base "_law_bytes" 2 1 [] F__law_bytes := fun base TB => e_callN X G c D__law_bytes (List.mem_of_getElem? (i := 100) (l := faE) rfl) (b__law_bytes_) (o__law_bytes base TB)
  have u92_C__law_text : ∀ base : Heap, (∀ q ∈ tfE.map (He.cT K), LamX.TabB base mg q.1 q.2) → CallPOk P w K mg base "_law_text" 2 1 [] F__law_text := fun base TB => e_callP X G c D__law_text (List.mem_of_getElem? (i := 101) (l := faE) rfl) (b__law_text_) (o__law_text base TB)
  have u93_C__law_wide : ∀ base : Heap, (∀ q ∈ tfE.map (He.cT K), LamX.TabB base mg q.1 q.2) → CallOOk P w K mg base "_law_wide" 3 2 [] F__law_wide := fun base TB => e_callO X G c D__law_wide (List.mem_of_getElem? (i := 102) (l := faE) rfl) (b__law_wide_) (o__law_wide base TB)
  have u94_C__law_random : ∀ base : Heap, (∀ q ∈ tfE.map (He.cT K), LamX.TabB base mg q.1 q.2) → CallNOk P w K mg base "_law_random" 1 2 [] F__law_random := fun base TB => e_callN X G c D__law_random (List.mem_of_getElem? (i := 103) (l := faE) rfl) (b__law_random_) (o__law_random base TB)
  have o_law : ∀ base : Heap, (∀ q ∈ tfE.map (He.cT K), LamX.TabB base mg q.1 q.2) → FnOk P w K mg base (L2.CX P w) 10 (He.ga K "law") fd_law ["_law_script"] (spP K mg 1 F_law) := fun base TB => ok_law D_law u11_z_range (u88_C_decode base TB) (r__law_equal_6 base TB) (u90_C_encode base TB) u29_z_sum (u91_C__law_bytes base TB) (u92_C__law_text base TB) (u93_C__law_wide base TB) (u94_C__law_random base TB)
  exact ⟨fd_law, fun s u => FunD.bindsA (ps := ["_law_script"]) D_law (fun _ _ _ _ _ _ us hl => match us, hl with | [_], _ => rfl) s [u] rfl, o_law⟩
abbrev RE : PySem.W.OpenRow := PySem.W.OpenLaw.row PySem.Challenge.rw_watervalves_k15_encoded_plans
abbrev hkE : PySem.W.Hook := hookY 6 faE fnE tfE exE
def obE (s : PySem.W.SharedT) : He.AlX := toldY 6 faE fnE tfE exE (HandSHeadRun.getT s)
theorem obE_eq (s : PySem.W.SharedT) : obE s = hkE.obs s.abs := told_same (HandSHeadRun.getT_eq s)
def ls0 : List Str := ["_wall", "GardenError", "SyntaxFault", "CheckFault", "InvalidCode", "KEYWORDS", "LETTERS", "DIGITS", "SPACES", "END_SIGN", "MAX_LETTERS", "MAX_DIGITS", "NAME", "NUMBER", "KEYWORD", "SIGN", "END", "Token", "run_end", "read_token", "tokenize", "MAX_ROUND", "MAX_OPEN", "MAX_VALVES", "MAX_LENGTH", "MAX_STARTS", "Plan", "Parser", "load", "runs_of"]
def ls1 : List Str := ["format_parsed", "is_int_in", "TAG", "BYTE", "encode", "Reader", "decode", "_law_random", "_law_below", "_law_shuffled", "_law_wide", "_law_runs", "_law_text", "_law_word_bytes", "_law_bytes", "_law_equal"]
def lsE : List Str := ls0 ++ ls1
theorem runE (w : World) : HandSHeadRun.RunEq RE (PySem.W.view RE.prog [53]) hkE obE 20000 lsE w := by
  intro os
  kernel_rfl
end G
open PySem PySem.W PySem.Calls PyProof.Rows
theorem PySem.Challenge.cw_watervalves_k15_encoded_plans_holds : PySem.Challenge.rw_watervalves_k15_encoded_plans.Holds := by
  w_on; o_law
  refine HandSHeadRun.head_any (r := OpenLaw.row PySem.Challenge.rw_watervalves_k15_encoded_plans) (q := view (OpenLaw.row PySem.Challenge.rw_watervalves_k15_encoded_plans).prog [53]) (H := G.hkE) (ob := G.obE) (M := 20000) (loose := G.lsE) (d := HandSHeadRun.topDef (OpenLaw.row PySem.Challenge.rw_watervalves_k15_encoded_plans).prog 53) (kwd := []) G.obE_eq
    (by kernel_rfl) (fun s => by kernel_rfl) G.runE (by kernel_rfl) (by kernel_rfl) (by kernel_rfl) (by rfl) (by first | assumption | decide +kernel) (by decide +kernel) ⟨rfl, rfl, rfl, rfl, rfl, by decide +kernel⟩ ?hw ?hc
  case hw => w_witness2
  case hc =>
    refine LamX.walk_ofTsE (l := PySem.Challenge.rw_watervalves_k15_encoded_plans) (n := 63) (k := 10) (x := "_law_script") (CX := fun w => L2.CX (PySem.Challenge.rw_watervalves_k15_encoded_plans).prog w) rfl (by decide) (by kernel_rfl) ⟨rfl, by decide, by decide⟩ ?F ?C
    case C => exact fun _ _ _ _ _ ⟨_, _, _, _, _, _, _, _, _, _, _, _, z⟩ => z
    intro w mg fa h Y Gs hmg0
    obtain ⟨K, KX, c⟩ := Y
    have hmg : mg ("law" : PySem.Str) = some (.ref fa) := by
      have e : (HandSHeadRun.topDef (OpenLaw.row PySem.Challenge.rw_watervalves_k15_encoded_plans).prog 53).name = ("law" : PySem.Str) := by kernel_rfl
      rw [← e]
      exact hmg0
    have e := hmg.symm.trans (He.glo_ok KX Gs (c.t.d.facts (List.mem_of_getElem? (i := 104) (l := G.faE) rfl)))
    cases e
    obtain ⟨fd, hb, hF⟩ := G.all_ok (P := (PySem.Challenge.rw_watervalves_k15_encoded_plans).prog) (w := w) KX Gs c
    refine ⟨K, KX, fd, G.tfE.map (He.cT K), Cl.spP K mg 1 G.F_law, fun q hq => ?_, fun q hq => ?_, fun q hq => ?_, hb, fun H a ns hl hz hH hS => ?_, fun base _ _ TB => hF base TB⟩
    · obtain ⟨p, hp, rfl⟩ := List.mem_map.mp hq
      exact c.empty p hp
    · obtain ⟨p, hp, rfl⟩ := List.mem_map.mp hq
      exact c.out p hp
    · obtain ⟨p, hp, rfl⟩ := List.mem_map.mp hq
      exact PySem.W.codeHd_of_K KX (c.hd p hp)
    · exact Cl.law_sp (He.ba c.more).1 hH hS (G.law_true ns hl hz)
