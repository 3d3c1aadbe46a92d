import PyProof.Rows.All
import Wide.All
import OpenK.AllK
import Wide.FinOn
import HandS.ForMost
import HandS.ForExc
import HandS.TryMany
import HandS.Deep
import HandS.IsInst
import HandS.TupAny
import HandS.Conv
import HandS.Style
import HandS.Evl
import HandS.Flow
import HandS.Text
import HandS.More
import HandS.Strs
import HandS.Dict
import HandS.Iter
import KE.KDictPairs
import HandS.Sort
import KE.GoesEnum
import HandS.Codes
import KE.KStateDown
import HandS.Ends
import HandS.Defaults
import HandS.Head0
import HandS.Head1
import HandS.Head2
import HandS.HeadEnd
import HandS.HeadHook1
import HandS.HeadHook2
import HandS.HeadHook3
import HandS.HeadHook4
import HandS.SortRule
import KE.SortCalls
import KE.DataMinMax
import KE.KDictSum
import KE.KRevSl
import KE.DataCmp
import HandS.Small
import PySem.Challenge.RW_farbook_k14_odd_facts
set_option Elab.async false
set_option linter.all false
set_option maxRecDepth 100000
set_option maxHeartbeats 4000000
/-! FbA: a layer of my own over HandS: every piece of syntax has one canonical reading (wE, wT, ..); what is pure is told by data alone: Pv X e r d: in an environment of data r the expression e gives the datum d, and the heap only grows. -/
namespace Fb
open PySem L2 Evl

/-! ### canonical readings -/
section
variable {X : Cx} {e : Expr} {es : List Expr} {st : Stmt} {sts : List Stmt} {s : L2.St} {H : Hp}
def wE (X : Cx) (e : Expr) : TE := fun σ H Q => ∀ (pins : List (Addr × Obj)) (s : Shared), L2.Inv X pins σ H s → wpAny (model X.prog X.w) X.A (eval e X.env) (EP X pins σ Q) X.xe s
def wT (X : Cx) (e : Expr) : TT := fun σ H Q => ∀ (pins : List (Addr × Obj)) (s : Shared), L2.Inv X pins σ H s → wpAny (model X.prog X.w) X.A (isTrue e X.env (eval e X.env)) (TP X pins σ Q) X.xe s
def wW (X : Cx) (e : Expr) : TT := fun σ H Q => ∀ (whole : Sem Value) (pins : List (Addr × Obj)) (s : Shared), L2.Inv X pins σ H s → wpAny (model X.prog X.w) X.A (isTrue e X.env whole) (TP X pins σ Q) X.xe s
def wA (X : Cx) (es : List Expr) : TA := fun σ H Q => ∀ (pos : Pos) (pins : List (Addr × Obj)) (s : Shared), L2.Inv X pins σ H s → wpAny (model X.prog X.w) X.A (spliced (backTo pos (starEach es X.env))) (AP X pins σ Q) X.xe s
def wS (X : Cx) (st : Stmt) : TS := fun D σ H => ∀ (pins : List (Addr × Obj)) (s : Shared), L2.Inv X pins σ H s → wpAny (model X.prog X.w) X.A (exec st X.env) (SP X pins D) X.xe s
def wSs (X : Cx) (sts : List Stmt) : TS := fun D σ H => ∀ (pins : List (Addr × Obj)) (s : Shared), L2.Inv X pins σ H s → wpAny (model X.prog X.w) X.A (execs sts X.env) (SP X pins D) X.xe s
theorem pe_w : PE X e (wE X e) := ⟨fun pins s _ _ _ I h => h pins s I⟩
theorem pt_w : PT X e (wT X e) := ⟨fun pins s _ _ _ I h => h pins s I⟩
theorem pw_w : PW X e (wW X e) := ⟨fun wh pins s _ _ _ I h => h wh pins s I⟩
theorem pa_w : PA X es (wA X es) := ⟨fun pos pins s _ _ _ I h => h pos pins s I⟩
theorem ps_w : PS X st (wS X st) := ⟨fun pins s _ _ _ I h => h pins s I⟩
theorem pss_w : PSs X sts (wSs X sts) := ⟨fun pins s _ _ _ I h => h pins s I⟩
theorem wE_of {t : TE} {Q : VK} (h : PE X e t) (q : t s H Q) : wE X e s H Q := fun pins sh I => h.run pins sh s H Q I q
theorem wT_of {t : TT} {Q : Bool → Hp → Prop} (h : PT X e t) (q : t s H Q) : wT X e s H Q := fun pins sh I => h.run pins sh s H Q I q
theorem wW_of {t : TT} {Q : Bool → Hp → Prop} (h : PW X e t) (q : t s H Q) : wW X e s H Q := fun wh pins sh I => h.run wh pins sh s H Q I q
theorem wA_of {t : TA} {Q : List V → Hp → Prop} (h : PA X es t) (q : t s H Q) : wA X es s H Q := fun pos pins sh I => h.run pos pins sh s H Q I q
theorem wS_of {t : TS} {D : Ends} (h : PS X st t) (q : t D s H) : wS X st D s H := fun pins sh I => h.run pins sh s H D I q
theorem wSs_of {t : TS} {D : Ends} (h : PSs X sts t) (q : t D s H) : wSs X sts D s H := fun pins sh I => h.run pins sh s H D I q
theorem wE_imp {Q Q' : VK} (h : wE X e s H Q) (k : ∀ v H', Q v H' → Q' v H') : wE X e s H Q' := fun pins sh I => thn (h pins sh I) fun _ _ ⟨v, H', I', r, q⟩ => ⟨v, H', I', r, k v H' q⟩
theorem wT_imp {Q Q' : Bool → Hp → Prop} (h : wT X e s H Q) (k : ∀ v H', Q v H' → Q' v H') : wT X e s H Q' := fun pins sh I => thn (h pins sh I) fun _ _ ⟨H', I', q⟩ => ⟨H', I', k _ H' q⟩
theorem wW_imp {Q Q' : Bool → Hp → Prop} (h : wW X e s H Q) (k : ∀ v H', Q v H' → Q' v H') : wW X e s H Q' := fun wh pins sh I => thn (h wh pins sh I) fun _ _ ⟨H', I', q⟩ => ⟨H', I', k _ H' q⟩
theorem wA_imp {Q Q' : List V → Hp → Prop} (h : wA X es s H Q) (k : ∀ v H', Q v H' → Q' v H') : wA X es s H Q' := fun pos pins sh I => thn (h pos pins sh I) fun _ _ ⟨v, H', I', r, q⟩ => ⟨v, H', I', r, k v H' q⟩
theorem wSs_imp {D D' : Ends} (h : wSs X sts D s H) (kn : ∀ σ H', D.nx σ H' → D'.nx σ H') (kr : ∀ v H', D.rt v H' → D'.rt v H') (kb : ∀ σ H', D.bk σ H' → D'.bk σ H') (kc : ∀ σ H', D.ct σ H' → D'.ct σ H') : wSs X sts D' s H := fun pins sh I =>
  thn (h pins sh I) fun f s1 q => by
    cases f with
    | next => obtain ⟨σ', H', I', z⟩ := q; exact ⟨σ', H', I', kn _ _ z⟩
    | brk => obtain ⟨σ', H', I', z⟩ := q; exact ⟨σ', H', I', kb _ _ z⟩
    | cont => obtain ⟨σ', H', I', z⟩ := q; exact ⟨σ', H', I', kc _ _ z⟩
    | ret u => obtain ⟨v, σ', H', I', r, z⟩ := q; exact ⟨v, σ', H', I', r, kr _ _ z⟩
end

/-! ### what a value tells -/
/-- an attribute: a datum, or a dict with tuple keys -/
inductive Fd where
  | d (x : PyData)
  | t (kvs : List (List Key × PyData))
/-- a datum; a dict with tuple keys; a dict with plain keys; that very value; the instance at p of the class at C and its attributes; the script -/
inductive Dn where
  | d (x : PyData)
  | t (kvs : List (List Key × PyData))
  | k (kvs : List (Key × PyData))
  | v (x : V)
  | ob (p C : Addr) (fs : List (Str × Fd))
  | sc (ns : List Int)
  | z (kvs : List (List Key × PyData))
  | os (l : List (Addr × Addr × List (Str × Fd)))
def Fd.dn : Fd → Dn
  | .d x => .d x
  | .t kvs => .t kvs

def isStr0 : PyData → Bool
  | .str _ => true
  | _ => false
/-- a tuple: tracked, or a written one of texts alone -/
def TupAt (K : PySem.W.Frag) (H : Hp) (a : Addr) (xs : List V) (ds : List PyData) : Prop := H a = some (.tup xs) ∨ (SqT K H a xs ∧ ds.all isStr0 = true)
theorem TupAt.sq {K : PySem.W.Frag} {H : Hp} {a : Addr} {xs : List V} {ds : List PyData} (h : TupAt K H a xs ds) : SqT K H a xs := h.elim st_of (·.1)
theorem TupAt.up {K : PySem.W.Frag} {H H' : Hp} (e : Ex H H') {a : Addr} {xs : List V} {ds : List PyData} (h : TupAt K H a xs ds) : TupAt K H' a xs ds := h.imp (e _ _) fun z => ⟨ex_t e z.1, z.2⟩
mutual
/-- a datum that stands in the heap: lists are tracked or locked, tuples may be written ones too -/
inductive Dp (K : PySem.W.Frag) (H : Hp) : V → PyData → Prop
  | non : Dp K H .non .none
  | bl (b : Bool) : Dp K H (.bl b) (.bool b)
  | int (i : Int) : Dp K H (.int i) (.int i)
  | str (x : Str) : Dp K H (.str x) (.str x)
  | lst {a : Addr} {xs : List V} {ds : List PyData} : Rd H a (.lst xs) → DpAll K H xs ds → Dp K H (.ref a) (.list ds)
  | tup {a : Addr} {xs : List V} {ds : List PyData} : TupAt K H a xs ds → DpAll K H xs ds → Dp K H (.ref a) (.tuple ds)
inductive DpAll (K : PySem.W.Frag) (H : Hp) : List V → List PyData → Prop
  | nil : DpAll K H [] []
  | cons {v : V} {vs : List V} {d : PyData} {ds : List PyData} : Dp K H v d → DpAll K H vs ds → DpAll K H (v :: vs) (d :: ds)
end
section
variable {K : PySem.W.Frag} {H H' : Hp}
mutual
theorem Dp.l2 : ∀ (d : PyData) (v : V), Dp K H v d → L2.Dp K H v d
  | .none, _, h => by cases h; exact .non
  | .bool _, _, h => by cases h; exact .bl _
  | .int _, _, h => by cases h; exact .int _
  | .str _, _, h => by cases h; exact .str _
  | .list ds, _, h => by
    cases h with
    | lst h1 h2 => exact .lst (.inl h1) (DpAll.l2 ds _ h2)
  | .tuple ds, _, h => by
    cases h with
    | tup h1 h2 => exact .tup h1.sq (DpAll.l2 ds _ h2)
  | .dict _, _, h => nomatch h
theorem DpAll.l2 : ∀ (ds : List PyData) (vs : List V), DpAll K H vs ds → L2.DpAll K H vs ds
  | [], _, h => by cases h; exact .nil
  | d :: ds, _, h => by
    cases h with
    | cons h1 h2 => exact .cons (Dp.l2 d _ h1) (DpAll.l2 ds _ h2)
end
mutual
theorem dp_up (e : Ex H H') : ∀ (d : PyData) (v : V), Dp K H v d → Dp K H' v d
  | .none, _, h => by cases h; exact .non
  | .bool _, _, h => by cases h; exact .bl _
  | .int _, _, h => by cases h; exact .int _
  | .str _, _, h => by cases h; exact .str _
  | .list ds, _, h => by
    cases h with
    | lst h1 h2 => exact .lst (ex_rd e h1) (dpAll_up e ds _ h2)
  | .tuple ds, _, h => by
    cases h with
    | tup h1 h2 => exact .tup (h1.up e) (dpAll_up e ds _ h2)
  | .dict _, _, h => nomatch h
theorem dpAll_up (e : Ex H H') : ∀ (ds : List PyData) (vs : List V), DpAll K H vs ds → DpAll K H' vs ds
  | [], _, h => by cases h; exact .nil
  | d :: ds, _, h => by
    cases h with
    | cons h1 h2 => exact .cons (dp_up e d _ h1) (dpAll_up e ds _ h2)
end

theorem DpAll.len : ∀ {vs : List V} {ds : List PyData}, DpAll K H vs ds → vs.length = ds.length
  | _, _, .nil => rfl
  | _, _, .cons _ t => by rw [List.length_cons, List.length_cons, DpAll.len t]
theorem DpAll.get : ∀ {vs : List V} {ds : List PyData} {i : Nat} {d : PyData}, DpAll K H vs ds → ds[i]? = some d → ∃ v, vs[i]? = some v ∧ Dp K H v d
  | _, _, _, _, .nil, e => by simp at e
  | _, _, 0, _, .cons h _, e => by simp at e; subst e; exact ⟨_, rfl, h⟩
  | _, _, i + 1, d, .cons _ t, e => by
    obtain ⟨v, h1, h2⟩ := DpAll.get (i := i) (d := d) t (by simpa using e)
    exact ⟨v, by simpa using h1, h2⟩
theorem DpAll.back : ∀ {vs : List V} {ds : List PyData} {i : Nat} {v : V}, DpAll K H vs ds → vs[i]? = some v → ∃ d, ds[i]? = some d ∧ Dp K H v d
  | _, _, _, _, .nil, e => by simp at e
  | _, _, 0, _, .cons h _, e => by simp at e; subst e; exact ⟨_, rfl, h⟩
  | _, _, i + 1, v, .cons _ t, e => by
    obtain ⟨d, h1, h2⟩ := DpAll.back (i := i) (v := v) t (by simpa using e)
    exact ⟨d, by simpa using h1, h2⟩
theorem DpAll.app : ∀ {vs ws : List V} {ds es : List PyData}, DpAll K H vs ds → DpAll K H ws es → DpAll K H (vs ++ ws) (ds ++ es)
  | _, _, _, _, .nil, s => s
  | _, _, _, _, .cons h t, s => .cons h (DpAll.app t s)
theorem DpAll.take : ∀ {vs : List V} {ds : List PyData} (n : Nat), DpAll K H vs ds → DpAll K H (vs.take n) (ds.take n)
  | _, _, 0, _ => .nil
  | _, _, _ + 1, .nil => .nil
  | _, _, n + 1, .cons h t => .cons h (DpAll.take n t)
theorem DpAll.drop : ∀ {vs : List V} {ds : List PyData} (n : Nat), DpAll K H vs ds → DpAll K H (vs.drop n) (ds.drop n)
  | _, _, 0, r => r
  | _, _, _ + 1, .nil => .nil
  | _, _, n + 1, .cons _ t => DpAll.drop n t

def DenF (K : PySem.W.Frag) (H : Hp) (x : V) : Fd → Prop
  | .d y => Dp K H x y
  | .t kvs => ∃ a ws, x = .ref a ∧ Rd H a (.dT ws) ∧ Paired (fun (p : List Key × V) (q : List Key × PyData) => p.1 = q.1 ∧ Dp K H p.2 q.2) ws kvs
theorem DenF.up (e : Ex H H') {x : V} : ∀ {d : Fd}, DenF K H x d → DenF K H' x d
  | .d y, h => dp_up e y x h
  | .t kvs, ⟨a, ws, h1, h2, h3⟩ => ⟨a, ws, h1, ex_rd e h2, L2.Paired.mapP h3 fun _ _ z => ⟨z.1, dp_up e _ _ z.2⟩⟩
def Den (K : PySem.W.Frag) (H : Hp) (x : V) : Dn → Prop
  | .d y => Dp K H x y
  | .t kvs => ∃ a ws, x = .ref a ∧ Rd H a (.dT ws) ∧ Paired (fun (p : List Key × V) (q : List Key × PyData) => p.1 = q.1 ∧ Dp K H p.2 q.2) ws kvs
  | .ob p C fs => ∃ dx ws, x = .ref p ∧ H p = some (.ins C dx ws) ∧ Paired (fun (p : Str × V) (q : Str × Fd) => p.1 = q.1 ∧ DenF K H p.2 q.2) ws fs
  | .k kvs => ∃ a ws, x = .ref a ∧ Rd H a (.dK ws) ∧ Paired (fun (p : Key × V) (q : Key × PyData) => p.1 = q.1 ∧ Dp K H p.2 q.2) ws kvs
  | .v y => x = y
  | .sc ns => ∃ a, x = .ref a ∧ SqL K H a (ns.map V.int)
  | .z kvs => ∃ a o ws, x = .ref a ∧ H a = some (.frz o (.dT ws)) ∧ Paired (fun (p : List Key × V) (q : List Key × PyData) => p.1 = q.1 ∧ Dp K H p.2 q.2) ws kvs
  | .os l => ∃ a, x = .ref a ∧ Rd H a (.lst (l.map fun o => V.ref o.1)) ∧ ∀ o, o ∈ l → ∃ dx ws, H o.1 = some (.ins o.2.1 dx ws) ∧ Paired (fun (p : Str × V) (q : Str × Fd) => p.1 = q.1 ∧ DenF K H p.2 q.2) ws o.2.2
theorem Den.up (e : Ex H H') {x : V} : ∀ {d : Dn}, Den K H x d → Den K H' x d
  | .d y, h => dp_up e y x h
  | .t kvs, ⟨a, ws, h1, h2, h3⟩ => ⟨a, ws, h1, ex_rd e h2, L2.Paired.mapP h3 fun _ _ z => ⟨z.1, dp_up e _ _ z.2⟩⟩
  | .k kvs, ⟨a, ws, h1, h2, h3⟩ => ⟨a, ws, h1, ex_rd e h2, L2.Paired.mapP h3 fun _ _ z => ⟨z.1, dp_up e _ _ z.2⟩⟩
  | .v y, h => h
  | .sc ns, ⟨a, h1, h2⟩ => ⟨a, h1, ex_l e h2⟩
  | .z kvs, ⟨a, o, ws, h1, h2, h3⟩ => ⟨a, o, ws, h1, e _ _ h2, L2.Paired.mapP h3 fun _ _ z => ⟨z.1, dp_up e _ _ z.2⟩⟩
  | .os l, ⟨a, h1, h2, h3⟩ => ⟨a, h1, ex_rd e h2, fun o ho => by
    obtain ⟨dx, ws, h4, h5⟩ := h3 o ho
    exact ⟨dx, ws, e _ _ h4, L2.Paired.mapP h5 fun _ _ z => ⟨z.1, DenF.up e z.2⟩⟩⟩
  | .ob p C fs, ⟨dx, ws, h1, h2, h3⟩ => ⟨dx, ws, h1, e _ _ h2, L2.Paired.mapP h3 fun _ _ z => ⟨z.1, DenF.up e z.2⟩⟩
abbrev Dens (K : PySem.W.Frag) (H : Hp) : List V → List Dn → Prop := Paired (Den K H)
theorem Dens.up (e : Ex H H') {vs : List V} {ds : List Dn} (h : Dens K H vs ds) : Dens K H' vs ds := L2.Paired.mapP h fun _ _ z => Den.up e z
theorem Dens.dp : ∀ {vs : List V} {ds : List PyData}, Dens K H vs (ds.map Dn.d) → DpAll K H vs ds
  | _, [], h => by cases h; exact .nil
  | _, d :: ds, h => by
    cases h with
    | cons h1 h2 => exact .cons h1 (Dens.dp h2)
theorem Dens.of : ∀ {vs : List V} {ds : List PyData}, DpAll K H vs ds → Dens K H vs (ds.map Dn.d)
  | _, _, .nil => .nil
  | _, _, .cons h t => .cons h (Dens.of t)
end

/-! ### the environment: what each slot tells -/
abbrev Rho := List (Option Dn)
structure En (K : PySem.W.Frag) (H : Hp) (σ : L2.St) (r : Rho) : Prop where
  len : σ.length = r.length
  at_ : ∀ (i : Nat) (d : Dn), r[i]? = some (some d) → ∃ v, σ[i]? = some (some v) ∧ Den K H v d
section
variable {K : PySem.W.Frag} {H H' : Hp} {σ : L2.St} {r : Rho}
theorem En.up (e : Ex H H') (n : En K H σ r) : En K H' σ r := ⟨n.len, fun i d h => let ⟨v, a, b⟩ := n.at_ i d h; ⟨v, a, b.up e⟩⟩
theorem En.set (n : En K H σ r) (i : Nat) {v : V} {d : Dn} (h : Den K H v d) : En K H (σ.set i (some v)) (r.set i (some d)) := by
  refine ⟨by rw [List.length_set, List.length_set]; exact n.len, fun j e hj => ?_⟩
  by_cases hij : i = j
  · subst hij
    have hl : i < r.length := by
      obtain ⟨q, _⟩ := List.getElem?_eq_some_iff.mp hj
      simpa using q
    rw [List.getElem?_set_self hl] at hj
    cases hj
    exact ⟨v, List.getElem?_set_self (by rw [n.len]; exact hl), h⟩
  · rw [List.getElem?_set_ne hij] at hj
    obtain ⟨u, a, b⟩ := n.at_ j e hj
    exact ⟨u, by rw [List.getElem?_set_ne hij]; exact a, b⟩
/-- a slot's word forgotten -/
theorem En.drop (n : En K H σ r) (i : Nat) (o : Option V) : En K H (σ.set i o) (r.set i none) := by
  refine ⟨by rw [List.length_set, List.length_set]; exact n.len, fun j e hj => ?_⟩
  by_cases hij : i = j
  · subst hij
    by_cases hl : i < r.length
    · rw [List.getElem?_set_self hl] at hj
      cases hj
    · rw [List.getElem?_eq_none (by simpa using hl)] at hj
      cases hj
  · rw [List.getElem?_set_ne hij] at hj
    obtain ⟨u, a, b⟩ := n.at_ j e hj
    exact ⟨u, by rw [List.getElem?_set_ne hij]; exact a, b⟩
def wipeR (r : Rho) : List Nat → Rho
  | [] => r
  | v :: vs => (wipeR r vs).set v none
theorem En.wipe (n : En K H σ r) : ∀ vs : List Nat, En K H (L2.wipe σ vs) (wipeR r vs)
  | [] => n
  | v :: vs => (En.wipe n vs).drop v none
theorem En.start {N : List Str} {vs : List V} {ds : List Dn} (h : Dens K H vs ds) : En K H (L2.start N vs) (ds.map some ++ List.replicate (N.length - vs.length) none) := by
  have hl := Paired.length h
  refine ⟨?_, fun i d hi => ?_⟩
  · unfold L2.start
    simp [hl]
  · unfold L2.start
    by_cases hlt : i < ds.length
    · rw [List.getElem?_append_left (by simpa using hlt), List.getElem?_map] at hi
      rw [List.getElem?_append_left (by simp; omega), List.getElem?_map]
      have : ∀ {vs : List V} {ds : List Dn} (i : Nat) (d : Dn), Dens K H vs ds → ds[i]? = some d → ∃ v, vs[i]? = some v ∧ Den K H v d := by
        intro vs ds i d h
        induction h generalizing i with
        | nil => intro e; simp at e
        | cons h1 _ ih =>
          cases i with
          | zero => intro e; simp at e; subst e; exact ⟨_, rfl, h1⟩
          | succ i => intro e; obtain ⟨v, a, b⟩ := ih i (by simpa using e); exact ⟨v, by simpa using a, b⟩
      cases hd : ds[i]? with
      | none => rw [hd] at hi; cases hi
      | some d' =>
        rw [hd] at hi
        cases hi
        obtain ⟨v, a, b⟩ := this i d h hd
        exact ⟨v, by rw [a]; rfl, b⟩
    · rw [List.getElem?_append_right (by simp; omega)] at hi
      rw [List.getElem?_replicate] at hi
      split at hi <;> cases hi
end

/-! ### the judgements by data: G is the part of the heap that the environment leans on, H the whole; both grow, and what is new in G is new in H -/
/-- nothing stands there, or a tuple -/
def Fr (H : Hp) (a : Addr) : Prop := ∀ o, H a = some o → ∃ xs, o = .tup xs
theorem Fr.of {H : Hp} {a : Addr} (h : H a = none) : Fr H a := fun o q => by rw [h] at q; cases q
theorem Fr.back {H H' : Hp} {a : Addr} (e : Ex H H') (h : Fr H' a) : Fr H a := fun o q => h o (e _ _ q)
/-- something stands there that is no tuple -/
def NT (H : Hp) (a : Addr) : Prop := ∃ o, H a = some o ∧ ∀ xs, o ≠ .tup xs
theorem some_nt {H : Hp} {a : Addr} {o : HO} (h : H a = some o) (ho : ∀ xs, o ≠ .tup xs := by intro xs z; nomatch z) : NT H a := ⟨o, h, ho⟩
theorem NT.no {H : Hp} {a : Addr} (h : NT H a) (f : Fr H a) : False := let ⟨o, h1, h2⟩ := h; let ⟨xs, e⟩ := f o h1; h2 xs e
theorem NT.up {H H' : Hp} {a : Addr} (e : Ex H H') (h : NT H a) : NT H' a := let ⟨o, h1, h2⟩ := h; ⟨o, e _ _ h1, h2⟩
structure Gr (G H G2 H2 : Hp) : Prop where
  g : Ex G G2
  s : Ex G2 H2
  h : Ex H H2
  f : ∀ a, G a = none → G2 a ≠ none → Fr H a
section
variable {G H G1 H1 G2 H2 : Hp}
theorem Gr.refl (e : Ex G H) : Gr G H G H := ⟨Ex.refl G, e, Ex.refl H, fun a h1 h2 => absurd h1 h2⟩
theorem Gr.trans (a : Gr G H G1 H1) (b : Gr G1 H1 G2 H2) : Gr G H G2 H2 := ⟨a.g.trans b.g, b.s, a.h.trans b.h, fun x h1 h2 => by
  cases q : G1 x with
  | none => exact (b.f x q h2).back a.h
  | some o => exact a.f x h1 (by rw [q]; exact fun z => nomatch z)⟩
theorem Gr.new {p : Addr} {o : HO} (e : Ex G H) (hp : H p = none) : Gr G H (upd G p o) (upd H p o) := by
  refine ⟨Ex.new (fresh_back e hp), fun a u h => ?_, Ex.new hp, fun a h1 h2 => ?_⟩
  · by_cases ha : a = p
    · subst ha; rw [upd_same] at h ⊢; exact h
    · rw [upd_ne ha] at h ⊢; exact e a u h
  · by_cases ha : a = p
    · rw [ha]; exact .of hp
    · rw [upd_ne ha] at h2; exact absurd h1 h2
/-- a tuple that stands is leaned on -/
theorem Gr.tup {p : Addr} {xs : List V} (e : Ex G H) (hp : H p = some (.tup xs)) : ∃ G2, Gr G H G2 H ∧ G2 p = some (.tup xs) := by
  cases q : G p with
  | some o =>
    have := e _ _ q
    rw [hp] at this
    cases this
    exact ⟨G, Gr.refl e, q⟩
  | none =>
    refine ⟨upd G p (.tup xs), ⟨Ex.new q, fun a u h => ?_, Ex.refl H, fun a h1 h2 => ?_⟩, upd_same⟩
    · by_cases ha : a = p
      · subst ha; rw [upd_same] at h; rw [hp]; exact h
      · rw [upd_ne ha] at h; exact e a u h
    · by_cases ha : a = p
      · subst ha
        intro o ho
        rw [hp] at ho
        cases ho
        exact ⟨_, rfl⟩
      · rw [upd_ne ha] at h2; exact absurd h1 h2
end
/-- e tells d -/
def Pv (X : Cx) (e : Expr) (r : Rho) (d : Dn) : Prop := ∀ σ G H, Ex G H → En X.K G σ r → wE X e σ H fun v H2 => ∃ G2, Gr G H G2 H2 ∧ Den X.K G2 v d
def Pt (X : Cx) (e : Expr) (r : Rho) (b : Bool) : Prop := ∀ σ G H, Ex G H → En X.K G σ r → wT X e σ H fun c H2 => ∃ G2, Gr G H G2 H2 ∧ c = b
def Pw (X : Cx) (e : Expr) (r : Rho) (b : Bool) : Prop := ∀ σ G H, Ex G H → En X.K G σ r → wW X e σ H fun c H2 => ∃ G2, Gr G H G2 H2 ∧ c = b
def Pa (X : Cx) (es : List Expr) (r : Rho) (ds : List Dn) : Prop := ∀ σ G H, Ex G H → En X.K G σ r → wA X es σ H fun vs H2 => ∃ G2, Gr G H G2 H2 ∧ Dens X.K G2 vs ds

section
variable {X : Cx} {a b c e : Expr} {es : List Expr} {r : Rho} {d d1 d2 d3 : Dn} {pos : Pos}
theorem Pv.is (h : Pv X e r d) {d' : Dn} (q : d = d') : Pv X e r d' := q ▸ h
theorem Pt.is {b b' : Bool} (h : Pt X e r b) (q : b = b') : Pt X e r b' := q ▸ h
theorem Pw.is {b b' : Bool} (h : Pw X e r b) (q : b = b') : Pw X e r b' := q ▸ h
theorem Pw.pt {b : Bool} (h : Pw X e r b) : Pt X e r b := fun σ G H g n => fun pins s I => h σ G H g n _ pins s I

/-! #### names and constants -/
theorem pv_var (i : Nat) {x : Str} (hN : X.N[i]? = some x := by rfl) (hv : Vis X.env.scope x := by first | exact Or.inl rfl | exact Or.inr (Or.inl rfl) | exact Or.inr (Or.inr rfl)) (h : r[i]? = some (some d) := by rfl)
    (hd : (x == ("__debug__" : Str)) = false := by decide) (hcd : (x == ("__classdict__" : Str)) = false := by decide) : Pv X (.Name x pos) r d := fun σ G H g n =>
  let ⟨v, a, q⟩ := n.at_ i d h
  wE_of (pe_var hN hv hd hcd) ⟨v, a, G, Gr.refl g, q⟩
theorem pv_int {i : Int} {j : Nat} : Pv X (.Constant (.int i) j pos) r (.d (.int i)) := fun σ G H g _ => wE_of pe_int ⟨G, Gr.refl g, Dp.int i⟩
theorem pv_bool {i : Bool} {j : Nat} : Pv X (.Constant (.bool i) j pos) r (.d (.bool i)) := fun σ G H g _ => wE_of pe_bl ⟨G, Gr.refl g, Dp.bl i⟩
theorem pv_none {j : Nat} : Pv X (.Constant .none j pos) r (.d .none) := fun σ G H g _ => wE_of pe_non ⟨G, Gr.refl g, Dp.non⟩
theorem pv_str {i : Str} {j : Nat} : Pv X (.Constant (.str i) j pos) r (.d (.str i)) := fun σ G H g _ => wE_of pe_str ⟨G, Gr.refl g, Dp.str i⟩
theorem pv_glob {x : Str} {v : V} {u : Value} (hm : X.mg x = some u) (rv : RelV v u) (hd : ∀ H, Den X.K H v d) (hg : Gl X x := by rfl) (hdb : (x == ("__debug__" : Str)) = false := by decide) : Pv X (.Name x pos) r d := fun σ G H g _ =>
  wE_of (pe_glob hg hm rv hdb) ⟨G, Gr.refl g, hd G⟩

/-! #### arguments -/
theorem pa_nil : Pa X [] r [] := fun σ G H g _ => wA_of L2.pa_nil ⟨G, Gr.refl g, .nil⟩
theorem pa_cons {ds : List Dn} (ha : Pv X e r d) (hr : Pa X es r ds) (hs : starEach (e :: es) X.env = (false, eval e X.env) :: starEach es X.env := by rfl) : Pa X (e :: es) r (d :: ds) := fun σ G H g n =>
  wA_of (L2.pa_cons pe_w pa_w hs) (wE_imp (ha σ G H g n) fun v H1 ⟨G1, k1, q1⟩ => wA_imp (hr σ G1 H1 k1.s (n.up k1.g)) fun vs H2 ⟨G2, k2, q2⟩ => ⟨G2, k1.trans k2, .cons (q1.up k2.g) q2⟩)

/-! #### operators -/
/-- an operation by data -/
abbrev Op2 (K : PySem.W.Frag) (f : R2) (d1 d2 d : Dn) : Prop := ∀ x y G H (Q : VK), Ex G H → Den K G x d1 → Den K G y d2 → (∀ v G' H', Gr G H G' H' → Den K G' v d → Q v H') → f x y H Q
theorem pv_bin {op : Operator} {f : R2} (ho : OpR X (binaryOp op) f) (ha : Pv X a r d1) (hb : Pv X b r d2) (hr : Op2 X.K f d1 d2 d) : Pv X (.BinOp a op b pos) r d := fun σ G H g n =>
  wE_of (pe_op ho pe_w pe_w) (wE_imp (ha σ G H g n) fun x H1 ⟨G1, k1, q1⟩ => wE_imp (hb σ G1 H1 k1.s (n.up k1.g)) fun y H2 ⟨G2, k2, q2⟩ => hr x y G2 H2 _ k2.s (q1.up k2.g) q2 fun v G3 H3 k3 q3 => ⟨G3, (k1.trans k2).trans k3, q3⟩)
theorem pv_cmp {op : CmpOp} {f : R2} (ho : OpR X (compareOp op) f) (ha : Pv X a r d1) (hb : Pv X b r d2) (hr : Op2 X.K f d1 d2 d) (hm : behindInMarks op b = false) : Pv X (.Compare a [op] [b] pos) r d := fun σ G H g n =>
  wE_of (pe_cmpR ho pe_w pe_w hm) (wE_imp (ha σ G H g n) fun x H1 ⟨G1, k1, q1⟩ => wE_imp (hb σ G1 H1 k1.s (n.up k1.g)) fun y H2 ⟨G2, k2, q2⟩ => hr x y G2 H2 _ k2.s (q1.up k2.g) q2 fun v G3 H3 k3 q3 => ⟨G3, (k1.trans k2).trans k3, q3⟩)
theorem pt_cmp {op : CmpOp} {f : R2} {k : Bool} (ho : OpR X (compareOp op) f) (ha : Pv X a r d1) (hb : Pv X b r d2) (hr : Op2 X.K f d1 d2 (.d (.bool k))) (hm : behindInMarks op b = false) : Pt X (.Compare a [op] [b] pos) r k := fun σ G H g n =>
  wT_of (pt_cmpR ho pe_w pe_w hm) (wE_imp (ha σ G H g n) fun x H1 ⟨G1, k1, q1⟩ => wE_imp (hb σ G1 H1 k1.s (n.up k1.g)) fun y H2 ⟨G2, k2, q2⟩ => hr x y G2 H2 _ k2.s (q1.up k2.g) q2 fun v G3 H3 k3 q3 => by
    cases q3
    exact ⟨_, rfl, G3, (k1.trans k2).trans k3, rfl⟩)
theorem pv_un {op : UnaryOp} {f : V → Hp → VK → Prop} (ho : UnR X (unaryOp op) f) (ha : Pv X a r d1) (hr : ∀ x G H (Q : VK), Ex G H → Den X.K G x d1 → (∀ v G' H', Gr G H G' H' → Den X.K G' v d → Q v H') → f x H Q) : Pv X (.UnaryOp op a pos) r d := fun σ G H g n =>
  wE_of (pe_un ho pe_w) (wE_imp (ha σ G H g n) fun x H1 ⟨G1, k1, q1⟩ => hr x G1 H1 _ k1.s q1 fun v G3 H3 k3 q3 => ⟨G3, k1.trans k3, q3⟩)
theorem den_int {K : PySem.W.Frag} {H : Hp} {x : V} {i : Int} (h : Den K H x (.d (.int i))) : x = .int i := by cases h; rfl
theorem den_bool {K : PySem.W.Frag} {H : Hp} {x : V} {i : Bool} (h : Den K H x (.d (.bool i))) : x = .bl i := by cases h; rfl
theorem den_str {K : PySem.W.Frag} {H : Hp} {x : V} {i : Str} (h : Den K H x (.d (.str i))) : x = .str i := by cases h; rfl
theorem den_none {K : PySem.W.Frag} {H : Hp} {x : V} (h : Den K H x (.d .none)) : x = .non := by cases h; rfl
section
variable {i j : Int}
theorem binI {op : Operator} {C : Int → Int → Prop} {g : Int → Int → Int} (ho : OpR X (binaryOp op) (rI C fun i j => .int (g i j))) (hc : C i j) (ha : Pv X a r (.d (.int i))) (hb : Pv X b r (.d (.int j))) : Pv X (.BinOp a op b pos) r (.d (.int (g i j))) :=
  pv_bin ho ha hb fun x y G H Q e h1 h2 k => ⟨i, j, den_int h1, den_int h2, hc, k _ G H (Gr.refl e) (Dp.int _)⟩
theorem binI0 {op : Operator} {g : Int → Int → Int} (ho : OpR X (binaryOp op) (rI0 fun i j => .int (g i j))) (ha : Pv X a r (.d (.int i))) (hb : Pv X b r (.d (.int j))) : Pv X (.BinOp a op b pos) r (.d (.int (g i j))) :=
  pv_bin ho ha hb fun x y G H Q e h1 h2 k => ⟨i, j, den_int h1, den_int h2, k _ G H (Gr.refl e) (Dp.int _)⟩
theorem pv_add (ha : Pv X a r (.d (.int i))) (hb : Pv X b r (.d (.int j))) : Pv X (.BinOp a .Add b pos) r (.d (.int (i + j))) := binI0 op_add ha hb
theorem pv_sub (ha : Pv X a r (.d (.int i))) (hb : Pv X b r (.d (.int j))) : Pv X (.BinOp a .Sub b pos) r (.d (.int (i - j))) := binI0 op_sub ha hb
theorem pv_mul (hc : CMul i j) (ha : Pv X a r (.d (.int i))) (hb : Pv X b r (.d (.int j))) : Pv X (.BinOp a .Mult b pos) r (.d (.int (i * j))) := binI op_mul hc ha hb
theorem pv_fdiv (hc : CDiv i j) (ha : Pv X a r (.d (.int i))) (hb : Pv X b r (.d (.int j))) : Pv X (.BinOp a .FloorDiv b pos) r (.d (.int (i / j))) := binI op_fdiv hc ha hb
theorem pv_mod (hc : 0 < j) (ha : Pv X a r (.d (.int i))) (hb : Pv X b r (.d (.int j))) : Pv X (.BinOp a .Mod b pos) r (.d (.int (i % j))) := binI op_mod hc ha hb
theorem pv_pow (hc : CPow i j) (ha : Pv X a r (.d (.int i))) (hb : Pv X b r (.d (.int j))) : Pv X (.BinOp a .Pow b pos) r (.d (.int (i ^ j.toNat))) := binI op_pow hc ha hb
theorem pv_neg (ha : Pv X a r (.d (.int i))) : Pv X (.UnaryOp .USub a pos) r (.d (.int (-i))) := pv_un un_neg ha fun x G H Q e h k => ⟨i, den_int h, k _ G H (Gr.refl e) (Dp.int _)⟩
/-- comparisons of ints, as values, as tests -/
theorem cmpI {op : CmpOp} {g : Int → Int → Bool} (ho : OpR X (compareOp op) (rI0 fun i j => .bl (g i j))) (ha : Pv X a r (.d (.int i))) (hb : Pv X b r (.d (.int j))) (hm : behindInMarks op b = false) : Pv X (.Compare a [op] [b] pos) r (.d (.bool (g i j))) :=
  pv_cmp ho ha hb (fun x y G H Q e h1 h2 k => ⟨i, j, den_int h1, den_int h2, k _ G H (Gr.refl e) (Dp.bl _)⟩) hm
theorem tcmpI {op : CmpOp} {g : Int → Int → Bool} (ho : OpR X (compareOp op) (rI0 fun i j => .bl (g i j))) (ha : Pv X a r (.d (.int i))) (hb : Pv X b r (.d (.int j))) (hm : behindInMarks op b = false) : Pt X (.Compare a [op] [b] pos) r (g i j) :=
  pt_cmp ho ha hb (fun x y G H Q e h1 h2 k => ⟨i, j, den_int h1, den_int h2, k _ G H (Gr.refl e) (Dp.bl _)⟩) hm
theorem pv_lt (ha : Pv X a r (.d (.int i))) (hb : Pv X b r (.d (.int j))) : Pv X (.Compare a [.Lt] [b] pos) r (.d (.bool (decide (i < j)))) := cmpI op_lt ha hb (nomark _)
theorem pv_le (ha : Pv X a r (.d (.int i))) (hb : Pv X b r (.d (.int j))) : Pv X (.Compare a [.LtE] [b] pos) r (.d (.bool (decide (i ≤ j)))) := cmpI op_le ha hb (nomark _)
theorem pv_gt (ha : Pv X a r (.d (.int i))) (hb : Pv X b r (.d (.int j))) : Pv X (.Compare a [.Gt] [b] pos) r (.d (.bool (decide (j < i)))) := cmpI op_gt ha hb (nomark _)
theorem pv_ge (ha : Pv X a r (.d (.int i))) (hb : Pv X b r (.d (.int j))) : Pv X (.Compare a [.GtE] [b] pos) r (.d (.bool (decide (j ≤ i)))) := cmpI op_ge ha hb (nomark _)
theorem pt_lt (ha : Pv X a r (.d (.int i))) (hb : Pv X b r (.d (.int j))) : Pt X (.Compare a [.Lt] [b] pos) r (decide (i < j)) := tcmpI op_lt ha hb (nomark _)
theorem pt_le (ha : Pv X a r (.d (.int i))) (hb : Pv X b r (.d (.int j))) : Pt X (.Compare a [.LtE] [b] pos) r (decide (i ≤ j)) := tcmpI op_le ha hb (nomark _)
theorem pt_gt (ha : Pv X a r (.d (.int i))) (hb : Pv X b r (.d (.int j))) : Pt X (.Compare a [.Gt] [b] pos) r (decide (j < i)) := tcmpI op_gt ha hb (nomark _)
theorem pt_ge (ha : Pv X a r (.d (.int i))) (hb : Pv X b r (.d (.int j))) : Pt X (.Compare a [.GtE] [b] pos) r (decide (j ≤ i)) := tcmpI op_ge ha hb (nomark _)
end
/-! #### == of data -/
section
variable {x y : PyData}
theorem pv_eq (hu : X.A.units + 64 < cLine) (ha : Pv X a r (.d x)) (hb : Pv X b r (.d y)) (h1 : SeqAt.shaped x = true) (h2 : SeqAt.shaped y = true) : Pv X (.Compare a [.Eq] [b] pos) r (.d (.bool (PyData.eqv x y))) :=
  pv_cmp (op_eqD hu) ha hb (fun v w G H Q e q1 q2 k => ⟨x, y, Dp.l2 _ _ (dp_up e _ _ q1), Dp.l2 _ _ (dp_up e _ _ q2), h1, h2, k _ G H (Gr.refl e) (Dp.bl _)⟩) (nomark _)
theorem pv_ne (hu : X.A.units + 64 < cLine) (ha : Pv X a r (.d x)) (hb : Pv X b r (.d y)) (h1 : SeqAt.shaped x = true) (h2 : SeqAt.shaped y = true) : Pv X (.Compare a [.NotEq] [b] pos) r (.d (.bool (!PyData.eqv x y))) :=
  pv_cmp (op_neD hu) ha hb (fun v w G H Q e q1 q2 k => ⟨x, y, Dp.l2 _ _ (dp_up e _ _ q1), Dp.l2 _ _ (dp_up e _ _ q2), h1, h2, k _ G H (Gr.refl e) (Dp.bl _)⟩) (nomark _)
theorem pt_eq (hu : X.A.units + 64 < cLine) (ha : Pv X a r (.d x)) (hb : Pv X b r (.d y)) (h1 : SeqAt.shaped x = true) (h2 : SeqAt.shaped y = true) : Pt X (.Compare a [.Eq] [b] pos) r (PyData.eqv x y) :=
  pt_cmp (op_eqD hu) ha hb (fun v w G H Q e q1 q2 k => ⟨x, y, Dp.l2 _ _ (dp_up e _ _ q1), Dp.l2 _ _ (dp_up e _ _ q2), h1, h2, k _ G H (Gr.refl e) (Dp.bl _)⟩) (nomark _)
theorem pt_ne (hu : X.A.units + 64 < cLine) (ha : Pv X a r (.d x)) (hb : Pv X b r (.d y)) (h1 : SeqAt.shaped x = true) (h2 : SeqAt.shaped y = true) : Pt X (.Compare a [.NotEq] [b] pos) r (!PyData.eqv x y) :=
  pt_cmp (op_neD hu) ha hb (fun v w G H Q e q1 q2 k => ⟨x, y, Dp.l2 _ _ (dp_up e _ _ q1), Dp.l2 _ _ (dp_up e _ _ q2), h1, h2, k _ G H (Gr.refl e) (Dp.bl _)⟩) (nomark _)
end
end
end Fb

/-! FbB: truth, items, slices, displays, walks, comprehensions, by data. -/
namespace Fb
open PySem L2 Evl
section
variable {X : Cx} {a b c e : Expr} {es rest : List Expr} {r : Rho} {d d1 d2 d3 : Dn} {pos : Pos}

/-! #### and, or, not -/
theorem pv_one {op} (h : Pv X a r d) : Pv X (.BoolOp op [a] pos) r d := fun σ G H g n => wE_of (pe_one pe_w) (h σ G H g n)
theorem pv_and {p q : Bool} (ha : Pv X a r (.d (.bool p))) (hb : p = true → Pv X (.BoolOp .And (b :: rest) pos) r (.d (.bool q))) : Pv X (.BoolOp .And (a :: b :: rest) pos) r (.d (.bool (p && q))) := fun σ G H g n =>
  wE_of (pe_and pe_w pe_w) (wE_imp (ha σ G H g n) fun x H1 ⟨G1, k1, q1⟩ => ⟨p, den_bool q1, by
    cases p with
    | true => exact wE_imp (hb rfl σ G1 H1 k1.s (n.up k1.g)) fun v H2 ⟨G2, k2, q2⟩ => ⟨G2, k1.trans k2, q2⟩
    | false => exact ⟨G1, k1, Dp.bl false⟩⟩)
theorem pv_or {p q : Bool} (ha : Pv X a r (.d (.bool p))) (hb : p = false → Pv X (.BoolOp .Or (b :: rest) pos) r (.d (.bool q))) : Pv X (.BoolOp .Or (a :: b :: rest) pos) r (.d (.bool (p || q))) := fun σ G H g n =>
  wE_of (pe_or pe_w pe_w) (wE_imp (ha σ G H g n) fun x H1 ⟨G1, k1, q1⟩ => ⟨p, den_bool q1, by
    cases p with
    | false => exact wE_imp (hb rfl σ G1 H1 k1.s (n.up k1.g)) fun v H2 ⟨G2, k2, q2⟩ => ⟨G2, k1.trans k2, q2⟩
    | true => exact ⟨G1, k1, Dp.bl true⟩⟩)
theorem pv_not {p : Bool} (ha : Pv X a r (.d (.bool p))) : Pv X (.UnaryOp .Not a pos) r (.d (.bool (!p))) := fun σ G H g n =>
  wE_of (pe_not pe_w) (wE_imp (ha σ G H g n) fun x H1 ⟨G1, k1, q1⟩ => ⟨p, den_bool q1, G1, k1, Dp.bl _⟩)
theorem pw_and1 {p : Bool} (ha : Pt X a r p) : Pw X (.BoolOp .And [a] pos) r p := fun σ G H g n => wW_of (L2.pw_and1 pt_w) (ha σ G H g n)
theorem pw_or1 {p : Bool} (ha : Pt X a r p) : Pw X (.BoolOp .Or [a] pos) r p := fun σ G H g n => wW_of (L2.pw_or1 pt_w) (ha σ G H g n)
theorem pw_and {p q : Bool} (ha : Pt X a r p) (hb : p = true → Pw X (.BoolOp .And (b :: rest) pos) r q) : Pw X (.BoolOp .And (a :: b :: rest) pos) r (p && q) := fun σ G H g n =>
  wW_of (L2.pw_and pt_w pw_w) (wT_imp (ha σ G H g n) fun x H1 ⟨G1, k1, q1⟩ => by
    subst q1
    cases x with
    | true => exact wW_imp (hb rfl σ G1 H1 k1.s (n.up k1.g)) fun v H2 ⟨G2, k2, q2⟩ => ⟨G2, k1.trans k2, q2⟩
    | false => exact ⟨G1, k1, rfl⟩)
theorem pw_or {p q : Bool} (ha : Pt X a r p) (hb : p = false → Pw X (.BoolOp .Or (b :: rest) pos) r q) : Pw X (.BoolOp .Or (a :: b :: rest) pos) r (p || q) := fun σ G H g n =>
  wW_of (L2.pw_or pt_w pw_w) (wT_imp (ha σ G H g n) fun x H1 ⟨G1, k1, q1⟩ => by
    subst q1
    cases x with
    | false => exact wW_imp (hb rfl σ G1 H1 k1.s (n.up k1.g)) fun v H2 ⟨G2, k2, q2⟩ => ⟨G2, k1.trans k2, q2⟩
    | true => exact ⟨G1, k1, rfl⟩)
theorem pw_orT (ha : Pt X a r true) : Pw X (.BoolOp .Or (a :: b :: rest) pos) r true := pw_or (q := true) ha fun h => nomatch h
theorem pw_orF {q : Bool} (ha : Pt X a r false) (hb : Pw X (.BoolOp .Or (b :: rest) pos) r q) : Pw X (.BoolOp .Or (a :: b :: rest) pos) r q := pw_or ha fun _ => hb
theorem pw_andF (ha : Pt X a r false) : Pw X (.BoolOp .And (a :: b :: rest) pos) r false := pw_and (q := true) ha fun h => nomatch h
theorem pw_andT {q : Bool} (ha : Pt X a r true) (hb : Pw X (.BoolOp .And (b :: rest) pos) r q) : Pw X (.BoolOp .And (a :: b :: rest) pos) r q := pw_and ha fun _ => hb
theorem pv_orT (ha : Pv X a r (.d (.bool true))) : Pv X (.BoolOp .Or (a :: b :: rest) pos) r (.d (.bool true)) := pv_or (q := true) ha fun h => nomatch h
theorem pv_orF {q : Bool} (ha : Pv X a r (.d (.bool false))) (hb : Pv X (.BoolOp .Or (b :: rest) pos) r (.d (.bool q))) : Pv X (.BoolOp .Or (a :: b :: rest) pos) r (.d (.bool q)) := pv_or ha fun _ => hb
theorem pv_andF (ha : Pv X a r (.d (.bool false))) : Pv X (.BoolOp .And (a :: b :: rest) pos) r (.d (.bool false)) := pv_and (q := true) ha fun h => nomatch h
theorem pv_andT {q : Bool} (ha : Pv X a r (.d (.bool true))) (hb : Pv X (.BoolOp .And (b :: rest) pos) r (.d (.bool q))) : Pv X (.BoolOp .And (a :: b :: rest) pos) r (.d (.bool q)) := pv_and ha fun _ => hb
theorem pt_not {p : Bool} (ha : Pt X a r p) : Pt X (.UnaryOp .Not a pos) r (!p) := fun σ G H g n =>
  wT_of (L2.pt_not pt_w) (wT_imp (ha σ G H g n) fun x H1 ⟨G1, k1, q1⟩ => ⟨G1, k1, by rw [q1]⟩)
theorem pt_val {p : Bool} (ha : Pv X a r (.d (.bool p))) (he : ∀ whole, isTrue a X.env whole = (do let v ← whole; standAt a.pos; holding [v] (truthy v)) := by intro _; rfl) : Pt X a r p := fun σ G H g n =>
  wT_of (L2.pt_val pe_w he) (wE_imp (ha σ G H g n) fun x H1 ⟨G1, k1, q1⟩ => ⟨p, den_bool q1, G1, k1, rfl⟩)
/-- truth of a datum -/
def truD : PyData → Bool
  | .none => false
  | .bool b => b
  | .int i => i != 0
  | .str y => (y.length : Int) != 0
  | .list xs => !xs.isEmpty
  | .tuple xs => !xs.isEmpty
  | .dict _ => false
def strOk : PyData → Prop
  | .str y => y.length ≤ sizeLine
  | _ => True
theorem truV_of {K : PySem.W.Frag} {H : Hp} {x : V} {y : PyData} (h : Dp K H x y) (hs : strOk y) : TruV K x H (truD y) := by
  cases h with
  | non => rfl
  | bl b => rfl
  | int i => rfl
  | str z => exact ⟨hs, rfl⟩
  | lst h1 h2 => exact .inl ⟨_, .inl h1, by have := DpAll.len h2; cases h2 <;> rfl⟩
  | tup h1 h2 => exact .inr (.inl ⟨_, h1.sq, by have := DpAll.len h2; cases h2 <;> rfl⟩)
theorem pt_truth {y : PyData} (ha : Pv X a r (.d y)) (hs : strOk y := by trivial) (he : ∀ whole, isTrue a X.env whole = (do let v ← whole; standAt a.pos; holding [v] (truthy v)) := by intro _; rfl) : Pt X a r (truD y) := fun σ G H g n =>
  wT_of (L2.pt_truth pe_w he) (wE_imp (ha σ G H g n) fun x H1 ⟨G1, k1, q1⟩ => ⟨_, truV_of (dp_up k1.s _ _ q1) hs, G1, k1, rfl⟩)
theorem pv_notT {y : PyData} (ha : Pv X a r (.d y)) (hs : strOk y := by trivial) : Pv X (.UnaryOp .Not a pos) r (.d (.bool (!truD y))) := fun σ G H g n =>
  wE_of (pe_notT pe_w) (wE_imp (ha σ G H g n) fun x H1 ⟨G1, k1, q1⟩ => ⟨_, truV_of (dp_up k1.s _ _ q1) hs, G1, k1, Dp.bl _⟩)
theorem pv_if {p : Bool} (hc : Pt X c r p) (ha : p = true → Pv X a r d) (hb : p = false → Pv X b r d) : Pv X (.IfExp c a b pos) r d := fun σ G H g n =>
  wE_of (pe_ifExp pt_w pe_w pe_w) (wT_imp (hc σ G H g n) fun x H1 ⟨G1, k1, q1⟩ => by
    subst q1
    cases x with
    | true => exact wE_imp (ha rfl σ G1 H1 k1.s (n.up k1.g)) fun v H2 ⟨G2, k2, q2⟩ => ⟨G2, k1.trans k2, q2⟩
    | false => exact wE_imp (hb rfl σ G1 H1 k1.s (n.up k1.g)) fun v H2 ⟨G2, k2, q2⟩ => ⟨G2, k1.trans k2, q2⟩)
/-- a <= b <= c of ints -/
theorem chainI {op op' : CmpOp} {g g' : Int → Int → Bool} {i j k : Int} (ho : OpR X (compareOp op) (rI0 fun i j => .bl (g i j))) (ho' : OpR X (compareOp op') (rI0 fun i j => .bl (g' i j)))
    (ha : Pv X a r (.d (.int i))) (hb : Pv X b r (.d (.int j))) (hc : Pv X c r (.d (.int k))) (hm : lastMarks [op, op'] [b, c] = false := by rfl) : Pv X (.Compare a [op, op'] [b, c] pos) r (.d (.bool (g i j && g' j k))) := fun σ G H gg n =>
  wE_of (pe_chain ho ho' pe_w pe_w pe_w hm) (wE_imp (ha σ G H gg n) fun x H1 ⟨G1, k1, q1⟩ => wE_imp (hb σ G1 H1 k1.s (n.up k1.g)) fun y H2 ⟨G2, k2, q2⟩ => ⟨i, j, den_int q1, den_int q2, g i j, rfl, by
    cases hg : g i j with
    | true => exact wE_imp (hc σ G2 H2 k2.s ((n.up k1.g).up k2.g)) fun z H3 ⟨G3, k3, q3⟩ => ⟨j, k, den_int q2, den_int q3, G3, (k1.trans k2).trans k3, Dp.bl _⟩
    | false => exact ⟨G2, k1.trans k2, Dp.bl _⟩⟩)
theorem tchainI {op op' : CmpOp} {g g' : Int → Int → Bool} {i j k : Int} (ho : OpR X (compareOp op) (rI0 fun i j => .bl (g i j))) (ho' : OpR X (compareOp op') (rI0 fun i j => .bl (g' i j)))
    (ha : Pv X a r (.d (.int i))) (hb : Pv X b r (.d (.int j))) (hc : Pv X c r (.d (.int k))) (hm : lastMarks [op, op'] [b, c] = false := by rfl) : Pt X (.Compare a [op, op'] [b, c] pos) r (g i j && g' j k) := fun σ G H gg n =>
  wT_of (pt_chain ho ho' pe_w pe_w pe_w hm) (wE_imp (ha σ G H gg n) fun x H1 ⟨G1, k1, q1⟩ => wE_imp (hb σ G1 H1 k1.s (n.up k1.g)) fun y H2 ⟨G2, k2, q2⟩ => ⟨i, j, den_int q1, den_int q2, g i j, rfl, by
    cases hg : g i j with
    | true => exact wE_imp (hc σ G2 H2 k2.s ((n.up k1.g).up k2.g)) fun z H3 ⟨G3, k3, q3⟩ => ⟨j, k, den_int q2, den_int q3, _, rfl, G3, (k1.trans k2).trans k3, by simp⟩
    | false => exact ⟨_, rfl, G2, k1.trans k2, rfl⟩⟩)
theorem pv_le_le {i j k : Int} (ha : Pv X a r (.d (.int i))) (hb : Pv X b r (.d (.int j))) (hc : Pv X c r (.d (.int k))) (hm : lastMarks [.LtE, .LtE] [b, c] = false := by rfl) : Pv X (.Compare a [.LtE, .LtE] [b, c] pos) r (.d (.bool (decide (i ≤ j) && decide (j ≤ k)))) := chainI op_le op_le ha hb hc hm
theorem pt_le_le {i j k : Int} (ha : Pv X a r (.d (.int i))) (hb : Pv X b r (.d (.int j))) (hc : Pv X c r (.d (.int k))) (hm : lastMarks [.LtE, .LtE] [b, c] = false := by rfl) : Pt X (.Compare a [.LtE, .LtE] [b, c] pos) r (decide (i ≤ j) && decide (j ≤ k)) := tchainI op_le op_le ha hb hc hm
/-- is None, is not None -/
def isNoneD : PyData → Bool
  | .none => true
  | _ => false
theorem isN_dec {K : PySem.W.Frag} {H : Hp} {x : V} {y : PyData} (h : Dp K H x y) : decide (x = V.non) = isNoneD y := by cases h <;> simp [isNoneD]
theorem pv_isN {y : PyData} {j : Nat} {p' : Pos} (ha : Pv X a r (.d y)) : Pv X (.Compare a [.Is] [.Constant .none j p'] pos) r (.d (.bool (isNoneD y))) :=
  pv_cmp op_isN ha pv_none (fun x y' G H Q e h1 h2 k => ⟨den_none h2, k _ G H (Gr.refl e) (by rw [isN_dec h1]; exact Dp.bl _)⟩) (nomark _)
theorem pv_notN {y : PyData} {j : Nat} {p' : Pos} (ha : Pv X a r (.d y)) : Pv X (.Compare a [.IsNot] [.Constant .none j p'] pos) r (.d (.bool (!isNoneD y))) :=
  pv_cmp op_notN ha pv_none (fun x y' G H Q e h1 h2 k => ⟨den_none h2, k _ G H (Gr.refl e) (by rw [isN_dec h1]; exact Dp.bl _)⟩) (nomark _)
theorem pt_isN {y : PyData} {j : Nat} {p' : Pos} (ha : Pv X a r (.d y)) : Pt X (.Compare a [.Is] [.Constant .none j p'] pos) r (isNoneD y) :=
  pt_cmp op_isN ha pv_none (fun x y' G H Q e h1 h2 k => ⟨den_none h2, k _ G H (Gr.refl e) (by rw [isN_dec h1]; exact Dp.bl _)⟩) (nomark _)
theorem pt_notN {y : PyData} {j : Nat} {p' : Pos} (ha : Pv X a r (.d y)) : Pt X (.Compare a [.IsNot] [.Constant .none j p'] pos) r (!isNoneD y) :=
  pt_cmp op_notN ha pv_none (fun x y' G H Q e h1 h2 k => ⟨den_none h2, k _ G H (Gr.refl e) (by rw [isN_dec h1]; exact Dp.bl _)⟩) (nomark _)

/-! #### items and slices -/
theorem atI_dp {K : PySem.W.Frag} {H : Hp} {vs : List V} {ds : List PyData} {i : Int} {y : PyData} (h : DpAll K H vs ds) (e : atI ds i = some y) : ∃ v, atI vs i = some v ∧ Dp K H v y := by
  unfold atI at e ⊢
  rw [DpAll.len h]
  cases q : ixN ds.length i with
  | none => rw [q] at e; cases e
  | some j =>
    rw [q] at e
    obtain ⟨v, a, b⟩ := DpAll.get h (show ds[j]? = some y from e)
    exact ⟨v, a, b⟩
def ixD : PyData → Int → Option PyData
  | .tuple ds, i => atI ds i
  | .list ds, i => atI ds i
  | _, _ => none
theorem pv_ix {y z : PyData} {i : Int} (ha : Pv X a r (.d y)) (hb : Pv X b r (.d (.int i))) (hi : ixD y i = some z) (hs : PlainIx b := by exact fun _ _ => rfl) : Pv X (.Subscript a b pos) r (.d z) := fun σ G H g n =>
  wE_of (pe_ix ix_seq pe_w pe_w hs) (wE_imp (ha σ G H g n) fun x H1 ⟨G1, k1, q1⟩ => wE_imp (hb σ G1 H1 k1.s (n.up k1.g)) fun u H2 ⟨G2, k2, q2⟩ => by
    have q1' := Den.up k2.g q1
    cases y with
    | tuple ds =>
      cases q1' with
      | tup h1 h2 =>
        obtain ⟨v, hv, hd⟩ := atI_dp h2 hi
        exact .inr (.inl ⟨_, _, i, v, rfl, den_int q2, ex_t k2.s h1.sq, hv, G2, k1.trans k2, hd⟩)
    | list ds =>
      cases q1' with
      | lst h1 h2 =>
        obtain ⟨v, hv, hd⟩ := atI_dp h2 hi
        exact .inl ⟨_, _, i, v, rfl, den_int q2, .inl (ex_rd k2.s h1), hv, G2, k1.trans k2, hd⟩
    | _ => cases hi)
/-- a slice's part -/
def Po (X : Cx) (oe : Option Expr) (r : Rho) (o : Option Int) : Prop := ∃ t, PO X oe t ∧ ∀ σ G H, Ex G H → En X.K G σ r → ∀ Q : Option Int → Hp → Prop, (∀ G2 H2, Gr G H G2 H2 → Q o H2) → t σ H Q
theorem po_none : Po X none r none := ⟨_, L2.po_none, fun σ G H g _ Q q => q G H (Gr.refl g)⟩
theorem po_some {i : Int} (h : Pv X e r (.d (.int i))) : Po X (some e) r (some i) := ⟨_, L2.po_some pe_w, fun σ G H g n Q q => wE_imp (h σ G H g n) fun v H1 ⟨G1, k1, q1⟩ => ⟨i, den_int q1, q G1 H1 k1⟩⟩
def cutD (xs : List PyData) (lo hi : Option Int) : List PyData := (xs.drop (HT.sIx xs.length 0 lo)).take (HT.sIx xs.length xs.length hi - HT.sIx xs.length 0 lo)
theorem cut_dp {K : PySem.W.Frag} {H : Hp} {vs : List V} {ds : List PyData} (h : DpAll K H vs ds) (lo hi : Option Int) : DpAll K H (cutV vs lo hi) (cutD ds lo hi) := by
  unfold cutV cutD
  rw [DpAll.len h]
  exact DpAll.take _ (DpAll.drop _ h)
theorem cutD_whole {ds : List PyData} {lo hi : Option Int} (h : HT.sIx ds.length 0 lo = 0 ∧ HT.sIx ds.length ds.length hi = ds.length) : cutD ds lo hi = ds := by
  unfold cutD
  rw [h.1, h.2]
  simp
theorem pv_sliceT {ds : List PyData} {lo hi : Option Expr} {l u : Option Int} {p2 : Pos} (ha : Pv X a r (.d (.tuple ds))) (hl : Po X lo r l) (hu : Po X hi r u) : Pv X (.Subscript a (.Slice lo hi none p2) pos) r (.d (.tuple (cutD ds l u))) := by
  obtain ⟨t1, p1, f1⟩ := hl
  obtain ⟨t2, p2', f2⟩ := hu
  intro σ G H g n
  refine wE_of (pe_slice sl_tupA pe_w p1 p2') (wE_imp (ha σ G H g n) fun x H1 ⟨G1, k1, q1⟩ => f1 σ G1 H1 k1.s (n.up k1.g) _ fun G2 H2 k2 => f2 σ G2 H2 k2.s ((n.up k1.g).up k2.g) _ fun G3 H3 k3 => ?_)
  have q := Den.up (k2.g.trans k3.g) q1
  cases q with
  | tup h1 h2 =>
    have hl := DpAll.len h2
    refine ⟨_, _, rfl, ex_t k3.s h1.sq, fun hw => ⟨G3, (k1.trans k2).trans k3, ?_⟩, fun _ p hp => ⟨_, ((k1.trans k2).trans k3).trans (Gr.new k3.s hp), ?_⟩⟩
    · rw [cutD_whole (by rw [← hl]; exact hw)]
      exact Dp.tup h1 h2
    · exact Dp.tup (.inl upd_same) (dpAll_up (Ex.new (fresh_back k3.s hp)) _ _ (cut_dp h2 l u))
theorem pv_sliceL {ds : List PyData} {lo hi : Option Expr} {l u : Option Int} {p2 : Pos} (ha : Pv X a r (.d (.list ds))) (hl : Po X lo r l) (hu : Po X hi r u) : Pv X (.Subscript a (.Slice lo hi none p2) pos) r (.d (.list (cutD ds l u))) := by
  obtain ⟨t1, p1, f1⟩ := hl
  obtain ⟨t2, p2', f2⟩ := hu
  intro σ G H g n
  refine wE_of (pe_slice sl_list pe_w p1 p2') (wE_imp (ha σ G H g n) fun x H1 ⟨G1, k1, q1⟩ => f1 σ G1 H1 k1.s (n.up k1.g) _ fun G2 H2 k2 => f2 σ G2 H2 k2.s ((n.up k1.g).up k2.g) _ fun G3 H3 k3 => ?_)
  have q := Den.up (k2.g.trans k3.g) q1
  cases q with
  | lst h1 h2 => exact ⟨_, _, rfl, .inl (ex_rd k3.s h1), fun p hp => ⟨_, ((k1.trans k2).trans k3).trans (Gr.new k3.s hp), Dp.lst (.inl upd_same) (dpAll_up (Ex.new (fresh_back k3.s hp)) _ _ (cut_dp h2 l u))⟩⟩

/-! #### displays -/
def Pd (X : Cx) (es : List Expr) (r : Rho) (xs : List PyData) : Prop := Pa X es r (xs.map Dn.d)
theorem pd_nil : Pd X [] r [] := pa_nil
theorem pd_cons {x : PyData} {xs : List PyData} (ha : Pv X e r (.d x)) (hr : Pd X es r xs) (hs : starEach (e :: es) X.env = (false, eval e X.env) :: starEach es X.env := by rfl) : Pd X (e :: es) r (x :: xs) := pa_cons ha hr hs
theorem pv_tup {xs : List PyData} {x1} (h : Pd X es r xs) (hl : xs.length ≤ 100000 := by simp) : Pv X (.Tuple es x1 pos) r (.d (.tuple xs)) := fun σ G H g n =>
  wE_of (pe_tup pa_w) (wA_imp (h σ G H g n) fun vs H1 ⟨G1, k1, q1⟩ => by
    have q := Dens.dp q1
    have hlen := DpAll.len q
    exact ⟨sz_of (by omega), fun p hp => ⟨_, k1.trans (Gr.new k1.s hp), Dp.tup (.inl upd_same) (dpAll_up (Ex.new (fresh_back k1.s hp)) _ _ q)⟩⟩)
theorem pv_lst {xs : List PyData} (h : Pd X es r xs) (hl : xs.length ≤ 100000 := by simp) : Pv X (.List es pos) r (.d (.list xs)) := fun σ G H g n =>
  wE_of (pe_lst pa_w) (wA_imp (h σ G H g n) fun vs H1 ⟨G1, k1, q1⟩ => by
    have q := Dens.dp q1
    have hlen := DpAll.len q
    exact ⟨sz_of (by omega), fun p hp => ⟨_, k1.trans (Gr.new k1.s hp), Dp.lst (.inl upd_same) (dpAll_up (Ex.new (fresh_back k1.s hp)) _ _ q)⟩⟩)

/-! #### + of tuples -/
theorem pv_catT {xs ys : List PyData} (ha : Pv X a r (.d (.tuple xs))) (hb : Pv X b r (.d (.tuple ys))) (hl : xs.length + ys.length ≤ 100000) : Pv X (.BinOp a .Add b pos) r (.d (.tuple (xs ++ ys))) :=
  pv_bin op_catA ha hb fun x y G H Q e h1 h2 k => by
    cases h1 with
    | tup s1 t1 =>
      cases h2 with
      | tup s2 t2 =>
        have l1 := DpAll.len t1
        have l2 := DpAll.len t2
        refine ⟨_, _, _, _, rfl, rfl, ex_t e s1.sq, ex_t e s2.sq, sz_of (by omega), fun hx => k _ G H (Gr.refl e) ?_, fun _ hy => k _ G H (Gr.refl e) ?_, fun _ _ p hp => k _ _ _ (Gr.new e hp) (Dp.tup (.inl upd_same) (dpAll_up (Ex.new (fresh_back e hp)) _ _ (DpAll.app t1 t2)))⟩
        · subst hx
          cases t1
          exact Dp.tup s2 t2
        · subst hy
          cases t2
          rw [List.append_nil]
          exact Dp.tup s1 t1

/-! #### what is walked -/
/-- iter, walked with the target tg, tells the data ds one after another -/
def Wk (X : Cx) (tg iter : Expr) (r : Rho) (ds : List Dn) : Prop := ∃ wi : TI, PI X tg iter wi ∧ ∀ σ G H, Ex G H → En X.K G σ r → ∀ R : It → Hp → Prop,
  (∀ J G1 H1, Gr G H G1 H1 → (∀ i H2, Ex G1 H2 → i < ds.length → J.go i H2) → (∀ i G2 H2 x H3, Ex G1 G2 → Ex G2 H2 → J.yld i H2 x H3 → ∀ d, ds[i]? = some d → ∃ G3, Gr G2 H2 G3 H3 ∧ Den X.K G3 x d) → (∀ i H2, Ex G1 H2 → ds.length ≤ i → J.stop i H2) → R J H1) → wi σ H R
theorem wk_list {tg : Expr} {xs : List PyData} (h : Pv X e r (.d (.list xs))) : Wk X tg e r (xs.map Dn.d) := ⟨_, pi_list pe_w, fun σ G H g n R k => wE_imp (h σ G H g n) fun v H1 ⟨G1, k1, q1⟩ => by
  cases q1 with
  | @lst p vs _ h1 h2 =>
    have hl := DpAll.len h2
    refine ⟨p, rfl, ⟨vs, .inl (ex_rd k1.s h1)⟩, k _ G1 H1 k1 (fun i H2 e2 hi => ?_) (fun i G2 H2 x H3 e2 s2 y d hd => ?_) (fun i H2 e2 hi => ⟨vs, .inl (ex_rd e2 h1), by rw [hl]; simpa using hi⟩)⟩
    · rw [List.length_map, ← hl] at hi
      exact ⟨vs, vs[i], .inl (ex_rd e2 h1), List.getElem?_eq_getElem hi⟩
    · obtain ⟨rfl, y⟩ := y
      have hx := y vs (.inl (ex_rd (e2.trans s2) h1))
      obtain ⟨d', q1, q2⟩ := DpAll.back h2 hx
      rw [List.getElem?_map, q1] at hd
      cases hd
      exact ⟨G2, Gr.refl s2, Den.up (d := .d d') e2 q2⟩⟩
theorem wk_tup {tg : Expr} {xs : List PyData} (h : Pv X e r (.d (.tuple xs))) : Wk X tg e r (xs.map Dn.d) := ⟨_, pi_tup pe_w, fun σ G H g n R k => wE_imp (h σ G H g n) fun v H1 ⟨G1, k1, q1⟩ => by
  cases q1 with
  | @tup p vs _ h1 h2 =>
    have hl := DpAll.len h2
    refine ⟨p, rfl, ⟨vs, ex_t k1.s h1.sq⟩, k _ G1 H1 k1 (fun i H2 e2 hi => ?_) (fun i G2 H2 x H3 e2 s2 y d hd => ?_) (fun i H2 e2 hi => ⟨vs, ex_t e2 h1.sq, by rw [hl]; simpa using hi⟩)⟩
    · rw [List.length_map, ← hl] at hi
      exact ⟨vs, vs[i], ex_t e2 h1.sq, List.getElem?_eq_getElem hi⟩
    · obtain ⟨rfl, y⟩ := y
      have hx := y vs (ex_t (e2.trans s2) h1.sq)
      obtain ⟨d', q1, q2⟩ := DpAll.back h2 hx
      rw [List.getElem?_map, q1] at hd
      cases hd
      exact ⟨G2, Gr.refl s2, Den.up (d := .d d') e2 q2⟩⟩
theorem wk_str {tg : Expr} {x : Str} (h : Pv X e r (.d (.str x))) : Wk X tg e r (x.cps.toList.map fun c => Dn.d (.str ⟨#[c]⟩)) := ⟨_, pi_str pe_w, fun σ G H g n R k => wE_imp (h σ G H g n) fun v H1 ⟨G1, k1, q1⟩ => by
  refine ⟨x, den_str q1, k _ G1 H1 k1 (fun i H2 e2 hi => ?_) (fun i G2 H2 v H3 e2 s2 y d hd => ?_) (fun i H2 e2 hi => ?_)⟩
  · show i < x.cps.size
    simpa using hi
  · obtain ⟨rfl, c, hc, rfl⟩ := y
    rw [List.getElem?_map] at hd
    have : x.cps.toList[i]? = some c := by simpa using hc
    rw [this] at hd
    cases hd
    exact ⟨G2, Gr.refl s2, Dp.str _⟩
  · show x.cps.size ≤ i
    simpa using hi⟩
/-- the ints lo, lo + 1, .. -/
def upto (lo : Int) (n : Nat) : List Int := (List.range n).map fun (i : Nat) => lo + (i : Int)
theorem upto_len (lo : Int) (n : Nat) : (upto lo n).length = n := by simp [upto]
theorem upto_get {lo : Int} {n i : Nat} {d : Dn} (hd : ((upto lo n).map fun i => Dn.d (.int i))[i]? = some d) : d = Dn.d (.int (lo + (i : Int))) := by
  unfold upto at hd
  rw [List.getElem?_map, List.getElem?_map] at hd
  cases hr : (List.range n)[i]? with
  | none => rw [hr] at hd; cases hd
  | some i' =>
    rw [hr] at hd
    obtain ⟨_, q⟩ := List.getElem?_eq_some_iff.mp hr
    rw [List.getElem_range] at q
    subst q
    cases hd
    rfl
theorem wk_range1 {tg : Expr} {p : Pos} {j : Int} (hm : X.mg "range" = none) (h : Pv X e r (.d (.int j))) (hj : -(2 ^ 62) ≤ j ∧ j < 2 ^ 62) (hg : Gl X "range" := by rfl) (hs : starEach [e] X.env = [(false, eval e X.env)] := by rfl) :
    Wk X tg (.Call (.Name "range" p) [e] [] pos) r ((upto 0 j.toNat).map fun i => Dn.d (.int i)) := ⟨_, pi_range1 hg hm pa_w hs, fun σ G H g n R k => wA_imp (pa_cons h pa_nil hs σ G H g n) fun vs H1 ⟨G1, k1, q1⟩ => by
  cases q1 with
  | cons a1 a2 =>
    cases a2
    refine ⟨j, by rw [den_int a1], hj.1, hj.2, k _ G1 H1 k1 (fun i H2 e2 hi => ?_) (fun i G2 H2 v H3 e2 s2 y d hd => ?_) (fun i H2 e2 hi => ?_)⟩
    · rw [List.length_map, upto_len] at hi
      exact hi
    · obtain ⟨rfl, rfl⟩ := y
      rw [upto_get hd]
      exact ⟨G2, Gr.refl s2, Dp.int _⟩
    · rw [List.length_map, upto_len] at hi
      exact hi⟩
theorem wk_range2 {tg : Expr} {p : Pos} {i0 j : Int} (hm : X.mg "range" = none) (ha : Pv X a r (.d (.int i0))) (hb : Pv X b r (.d (.int j))) (hj : -(2 ^ 62) ≤ i0 ∧ i0 < 2 ^ 62 ∧ -(2 ^ 62) ≤ j ∧ j < 2 ^ 62) (hg : Gl X "range" := by rfl)
    (hs : starEach [a, b] X.env = [(false, eval a X.env), (false, eval b X.env)] := by rfl) (hs2 : starEach [b] X.env = [(false, eval b X.env)] := by rfl) :
    Wk X tg (.Call (.Name "range" p) [a, b] [] pos) r ((upto i0 (j - i0).toNat).map fun i => Dn.d (.int i)) := ⟨_, pi_range2 hg hm pa_w hs hs2, fun σ G H g n R k => wA_imp (pa_cons ha (pa_cons hb pa_nil hs2) (by rw [hs, hs2]) σ G H g n) fun vs H1 ⟨G1, k1, q1⟩ => by
  cases q1 with
  | cons a1 a2 =>
    cases a2 with
    | cons a2 a3 =>
      cases a3
      refine ⟨i0, j, by rw [den_int a1, den_int a2], hj, k _ G1 H1 k1 (fun i H2 e2 hi => ?_) (fun i G2 H2 v H3 e2 s2 y d hd => ?_) (fun i H2 e2 hi => ?_)⟩
      · rw [List.length_map, upto_len] at hi
        exact hi
      · obtain ⟨rfl, rfl⟩ := y
        rw [upto_get hd]
        exact ⟨G2, Gr.refl s2, Dp.int _⟩
      · rw [List.length_map, upto_len] at hi
        exact hi⟩

/-! #### targets -/
def wG (X : Cx) (tg : Expr) : TG := fun v σ H Q => ∀ (pins : List (Addr × Obj)) (s : Shared) (u : Value), L2.Inv X pins σ H s → RelV v u → wpAny (model X.prog X.w) X.A (assign tg X.env u) (fun _ s' => ∃ σ' H', L2.Inv X pins σ' H' s' ∧ Q σ' H') X.xe s
theorem pg_w {tg : Expr} : PG X tg (wG X tg) := ⟨fun pins s σ H v u Q I rv h => h pins s u I rv⟩
theorem wG_of {tg : Expr} {t : TG} {v : V} {σ : L2.St} {H : Hp} {Q : L2.St → Hp → Prop} (h : PG X tg t) (q : t v σ H Q) : wG X tg v σ H Q := fun pins s u I rv => h.run pins s σ H v u Q I rv q
theorem wG_imp {tg : Expr} {v : V} {σ : L2.St} {H : Hp} {Q Q' : L2.St → Hp → Prop} (h : wG X tg v σ H Q) (k : ∀ σ' H', Q σ' H' → Q' σ' H') : wG X tg v σ H Q' := fun pins s u I rv => thn (h pins s u I rv) fun _ _ ⟨σ', H', I', q⟩ => ⟨σ', H', I', k _ _ q⟩
/-- tg = a datum d: the environment r becomes r2, only the slots js are turned; the heap stays -/
def Pg (X : Cx) (tg : Expr) (r : Rho) (d : Dn) (r2 : Rho) (js : List Nat) : Prop := ∀ σ G H v, Ex G H → En X.K G σ r → Den X.K G v d → wG X tg v σ H fun σ2 H2 => H2 = H ∧ En X.K G σ2 r2 ∧ ∀ i, i ∉ js → σ2[i]? = σ[i]?
theorem pg_name (j : Nat) {x : Str} (hN : X.N.Nodup) (hi : X.N[j]? = some x := by rfl) (hx : Loc X.env.scope x := by first | exact Or.inl rfl | exact Or.inr rfl) (hf : X.fn x = true ∨ X.env.scope.names.lookup x = some .local := by first | exact .inl rfl | exact .inr rfl) :
    Pg X (.Name x pos) r d (r.set j (some d)) [j] := fun σ G H v g n q => wG_of (L2.pg_name hN hi hx hf) ⟨rfl, n.set j q, fun i hi => List.getElem?_set_ne (by simpa using fun z => hi (by simp [z]))⟩
/-- targets one after another -/
def wGs (X : Cx) (ts : List Expr) : TGs := fun vs σ H Q => ∀ (pins : List (Addr × Obj)) (s : Shared) (us : List Value), L2.Inv X pins σ H s → Vals vs us → wpAny (model X.prog X.w) X.A (assignInOrder ((assignEach ts X.env).map (·.2)) us) (fun _ s' => ∃ σ' H', L2.Inv X pins σ' H' s' ∧ Q σ' H') X.xe s
theorem pgs_w {ts : List Expr} : PGs X ts (wGs X ts) := ⟨fun pins s σ H vs us Q I rv h => h pins s us I rv⟩
theorem wGs_of {ts : List Expr} {t : TGs} {vs : List V} {σ : L2.St} {H : Hp} {Q : L2.St → Hp → Prop} (h : PGs X ts t) (q : t vs σ H Q) : wGs X ts vs σ H Q := fun pins s us I rv => h.run pins s σ H vs us Q I rv q
theorem wGs_imp {ts : List Expr} {vs : List V} {σ : L2.St} {H : Hp} {Q Q' : L2.St → Hp → Prop} (h : wGs X ts vs σ H Q) (k : ∀ σ' H', Q σ' H' → Q' σ' H') : wGs X ts vs σ H Q' := fun pins s us I rv => thn (h pins s us I rv) fun _ _ ⟨σ', H', I', q⟩ => ⟨σ', H', I', k _ _ q⟩
def Pgs (X : Cx) (ts : List Expr) (r : Rho) (ds : List Dn) (r2 : Rho) (js : List Nat) : Prop := ∀ σ G H vs, Ex G H → En X.K G σ r → Dens X.K G vs ds → wGs X ts vs σ H fun σ2 H2 => H2 = H ∧ En X.K G σ2 r2 ∧ ∀ i, i ∉ js → σ2[i]? = σ[i]?
theorem pgs_nil : Pgs X [] r [] r [] := fun σ G H vs g n q => by
  cases q
  exact wGs_of L2.pgs_nil ⟨rfl, rfl, n, fun _ _ => rfl⟩
theorem pgs_cons {ts : List Expr} {ds : List Dn} {r2 r3 : Rho} {js ks : List Nat} (h1 : Pg X e r d r2 js) (h2 : Pgs X ts r2 ds r3 ks) (hs : (assignEach (e :: ts) X.env).map (·.2) = assign e X.env :: (assignEach ts X.env).map (·.2) := by rfl) : Pgs X (e :: ts) r (d :: ds) r3 (js ++ ks) := fun σ G H vs g n q => by
  cases q with
  | cons q1 q2 =>
    refine wGs_of (L2.pgs_cons pg_w pgs_w hs) ⟨_, _, rfl, wG_imp (h1 σ G H _ g n q1) fun σ1 H1 ⟨e1, n1, k1⟩ => ?_⟩
    subst e1
    refine wGs_imp (h2 σ1 G H1 _ g n1 q2) fun σ2 H2 ⟨e2, n2, k2⟩ => ⟨e2, n2, fun i hi => ?_⟩
    rw [List.mem_append, not_or] at hi
    exact (k2 i hi.2).trans (k1 i hi.1)
theorem pg_tup {ts : List Expr} {k : Nat} {xs : List PyData} {r2 : Rho} {js : List Nat} (hc : X.calm = true) (h : Pgs X ts r (xs.map Dn.d) r2 js) (hn : (assignEach ts X.env).length = xs.length := by rfl) (hst : (assignEach ts X.env).findIdx? (·.1) = none := by rfl) :
    Pg X (.Tuple ts k pos) r (.d (.tuple xs)) r2 js := fun σ G H v g n q => by
  cases q with
  | tup h1 h2 => exact wG_of (L2.pg_tup hc pgs_w hn hst) ⟨_, _, rfl, ex_t g h1.sq, DpAll.len h2, h σ G H _ g n (Dens.of h2)⟩

/-! #### list comprehensions -/
def wTs (X : Cx) (ifs : List Expr) : TT := fun σ H Q => ∀ (pins : List (Addr × Obj)) (s : Shared), L2.Inv X pins σ H s →
  wpAny (model X.prog X.w) X.A (forIn ifs true fun c r => if r = true then do let ok ← isTrue c X.env (eval c X.env); pure (ForInStep.yield ok) else pure (ForInStep.yield r)) (TP X pins σ Q) X.xe s
theorem wTs_of {ifs : List Expr} {t : TT} {σ : L2.St} {H : Hp} {Q : Bool → Hp → Prop} (h : PTs X ifs t) (q : t σ H Q) : wTs X ifs σ H Q := fun pins s I => h.run pins s σ H Q I q
theorem wTs_imp {ifs : List Expr} {σ : L2.St} {H : Hp} {Q Q' : Bool → Hp → Prop} (h : wTs X ifs σ H Q) (k : ∀ v H', Q v H' → Q' v H') : wTs X ifs σ H Q' := fun pins sh I => thn (h pins sh I) fun _ _ ⟨H', I', q⟩ => ⟨H', I', k _ H' q⟩
def Pts (X : Cx) (ifs : List Expr) (r : Rho) (b : Bool) : Prop := ∀ σ G H, Ex G H → En X.K G σ r → wTs X ifs σ H fun c H2 => ∃ G2, Gr G H G2 H2 ∧ c = b
theorem pts_nil : Pts X [] r true := fun σ G H g n => wTs_of L2.pts_nil ⟨G, Gr.refl g, rfl⟩
theorem pts_one {p : Bool} (h : Pt X c r p) : Pts X [c] r p := fun σ G H g n => wTs_of (L2.pts_one pt_w) (h σ G H g n)
theorem wipe_in {σ : L2.St} {i : Nat} : ∀ {vs : List Nat}, i ∈ vs → (wipe σ vs)[i]? = if i < σ.length then some none else none
  | v :: vs, h => by
    unfold wipe
    by_cases hv : v = i
    · subst hv
      by_cases hl : v < σ.length
      · rw [if_pos hl, List.getElem?_set_self (by rw [wipe_length]; exact hl)]
      · rw [if_neg hl, List.getElem?_eq_none (by rw [List.length_set, wipe_length]; omega)]
    · rw [List.getElem?_set_ne hv]
      exact wipe_in (by rcases List.mem_cons.mp h with e | e; exact absurd e.symm hv; exact e)
theorem wipe_eq {σ σ2 : L2.St} {vs : List Nat} (hl : σ2.length = σ.length) (h : ∀ i, i ∉ vs → σ2[i]? = (wipe σ vs)[i]?) : wipe σ2 vs = wipe σ vs := by
  refine List.ext_getElem? fun i => ?_
  by_cases hi : i ∈ vs
  · rw [wipe_in hi, wipe_in hi, hl]
  · rw [wipe_out hi]
    exact h i hi
theorem take_succ {al : Type} : ∀ {l : List al} {i : Nat} {x : al}, l[i]? = some x → l.take (i + 1) = l.take i ++ [x]
  | [], i, x, h => by simp at h
  | a :: l, 0, x, h => by
    have e : a = x := Option.some.inj h
    subst e
    rfl
  | a :: l, i + 1, x, h => by
    have ih := take_succ (l := l) (i := i) (x := x) h
    show a :: l.take (i + 1) = a :: l.take i ++ [x]
    rw [ih]
    rfl
/-- a comprehension's block, whatever it starts at -/
abbrev Blk (X : Cx) (scope : Scope) (P : Cx → Prop) : Prop := ∀ (s : Shared) (H : Hp) (C : Addr) (cl : List (Str × Addr)) (fp : List Addr), P (X.blk s H scope (compEnvC scope cl C X.env) fp)
/-- the comprehension's own readings, whatever block it runs in -/
def bG (X : Cx) (scope : Scope) (tg : Expr) : TG := fun v σ H Q => ∀ (s0 : Shared) (H0 : Hp) (C : Addr) (cl : List (Str × Addr)) (fp : List Addr), wG (X.blk s0 H0 scope (compEnvC scope cl C X.env) fp) tg v σ H Q
def bTs (X : Cx) (scope : Scope) (ifs : List Expr) : TT := fun σ H Q => ∀ (s0 : Shared) (H0 : Hp) (C : Addr) (cl : List (Str × Addr)) (fp : List Addr), wTs (X.blk s0 H0 scope (compEnvC scope cl C X.env) fp) ifs σ H Q
def bE (X : Cx) (scope : Scope) (elt : Expr) : TE := fun σ H Q => ∀ (s0 : Shared) (H0 : Hp) (C : Addr) (cl : List (Str × Addr)) (fp : List Addr), wE (X.blk s0 H0 scope (compEnvC scope cl C X.env) fp) elt σ H Q
theorem bG_ok {scope : Scope} {tg : Expr} (s0 : Shared) (H0 : Hp) (C : Addr) (cl : List (Str × Addr)) (fp : List Addr) : PG (X.blk s0 H0 scope (compEnvC scope cl C X.env) fp) tg (bG X scope tg) := ⟨fun pins s σ H v u Q I rv h => h s0 H0 C cl fp pins s u I rv⟩
theorem bTs_ok {scope : Scope} {ifs : List Expr} (s0 : Shared) (H0 : Hp) (C : Addr) (cl : List (Str × Addr)) (fp : List Addr) : PTs (X.blk s0 H0 scope (compEnvC scope cl C X.env) fp) ifs (bTs X scope ifs) := ⟨fun pins s σ H Q I h => h s0 H0 C cl fp pins s I⟩
theorem bE_ok {scope : Scope} {elt : Expr} (s0 : Shared) (H0 : Hp) (C : Addr) (cl : List (Str × Addr)) (fp : List Addr) : PE (X.blk s0 H0 scope (compEnvC scope cl C X.env) fp) elt (bE X scope elt) := ⟨fun pins s σ H Q I h => h s0 H0 C cl fp pins s I⟩
theorem lc_data {al : Type} {elt tg : Expr} {ifs : List Expr} {scope : Scope} {own : List (Str × Nat)} {js : List Nat} {xs : List al} {enc : al → Dn} {p : al → Bool} {f : al → PyData} {r2 : al → Rho} {wi : TI}
    (hwi : ∀ σ G H, Ex G H → En X.K G σ r → ∀ R : It → Hp → Prop, (∀ J G1 H1, Gr G H G1 H1 → (∀ i H2, Ex G1 H2 → i < (xs.map enc).length → J.go i H2) → (∀ i G2 H2 x H3, Ex G1 G2 → Ex G2 H2 → J.yld i H2 x H3 → ∀ d, (xs.map enc)[i]? = some d → ∃ G3, Gr G2 H2 G3 H3 ∧ Den X.K G3 x d) → (∀ i H2, Ex G1 H2 → (xs.map enc).length ≤ i → J.stop i H2) → R J H1) → wi σ H R)
    (hg : ∀ x, x ∈ xs → Blk X scope fun Y => Pg Y tg (wipeR r (own.map (·.2))) (enc x) (r2 x) js) (ht : ∀ x, x ∈ xs → Blk X scope fun Y => Pts Y ifs (r2 x) (p x)) (he : ∀ x, x ∈ xs → p x = true → Blk X scope fun Y => Pv Y elt (r2 x) (.d (f x)))
    (hl : xs.length ≤ 100000) (hj : ∀ j, j ∈ js → j ∈ own.map (·.2)) (hlen : ∀ x, x ∈ xs → (r2 x).length = r.length) {σ : L2.St} {G H : Hp} (g : Ex G H) (n : En X.K G σ r) {Q : VK} (hQ : ∀ v G2 H2, Gr G H G2 H2 → Den X.K G2 v (.d (.list ((xs.filter p).map f))) → Q v H2) :
    tLc wi (bG X scope tg) (bTs X scope ifs) (bE X scope elt) (own.map (·.2)) σ H Q := by
  refine hwi σ G H g n _ fun J G1 H1 k1 hgo hyl hst => fun D hD => ?_
  have hDG : G1 D = none := fresh_back k1.s hD
  rw [List.length_map] at hgo hst
  -- the invariant: behind i turns the list at D, which G2 does not know
  refine ⟨fun i m H2 => m = xs.length - i ∧ i ≤ xs.length ∧ Ex H1 H2 ∧ ∃ G2 vs, Ex G1 G2 ∧ Ex G2 H2 ∧ G2 D = none ∧ (∀ a, G1 a = none → G2 a ≠ none → Fr H1 a) ∧ H2 D = some (.lst vs) ∧ DpAll X.K G2 vs (((xs.take i).filter p).map f),
    ⟨xs.length, by simp, Nat.zero_le _, Ex.new hD, G1, [], Ex.refl _, k1.s.trans (Ex.new hD), hDG, fun a h1 h2 => absurd h1 h2, upd_same, .nil⟩, ?_⟩
  rintro i m H2 ⟨rfl, hi2, e12, G2, vs, e1, s2, d2, f2, hD2, hv⟩
  by_cases hlt : i < xs.length
  · obtain ⟨x, hx⟩ : ∃ x, xs[i]? = some x := ⟨xs[i], List.getElem?_eq_getElem hlt⟩
    have hmem : x ∈ xs := List.mem_of_getElem? hx
    refine .inr ⟨hgo i H2 (e1.trans s2) hlt, fun H' => Ex H1 H' ∧ ∃ G3 vs', Ex G1 G3 ∧ Ex G3 H' ∧ G3 D = none ∧ (∀ a, G1 a = none → G3 a ≠ none → Fr H1 a) ∧ H' D = some (.lst vs') ∧ DpAll X.K G3 vs' (((xs.take (i + 1)).filter p).map f), fun H' ⟨q0, q⟩ => ⟨xs.length - (i + 1), by omega, rfl, hlt, q0, q⟩, fun v H3 yl => ?_⟩
    obtain ⟨G3, k3, q3⟩ := hyl i G2 H2 v H3 e1 s2 yl (enc x) (by rw [List.getElem?_map, hx]; rfl)
    have hN3 : En X.K G3 σ r := n.up ((k1.g.trans e1).trans k3.g)
    have frD : ∀ {A B A' B' : Hp}, Gr A B A' B' → A D = none → NT B D → A' D = none := fun {A B A' B'} k hA hB => by
      cases q : A' D with
      | none => rfl
      | some o => exact (hB.no (k.f D hA (by rw [q]; exact fun z => nomatch z))).elim
    have d3 : G3 D = none := frD k3 d2 (some_nt hD2)
    have hD3 : H3 D = some (.lst vs) := k3.h D _ hD2
    have f3 : ∀ a, G1 a = none → G3 a ≠ none → Fr H1 a := fun a h1 h2 => by
      cases q : G2 a with
      | none => exact (k3.f a q h2).back e12
      | some o => exact f2 a h1 (by rw [q]; exact fun z => nomatch z)
    have hv3 : DpAll X.K G3 vs (((xs.take i).filter p).map f) := dpAll_up k3.g _ _ hv
    have ht1 : xs.take (i + 1) = xs.take i ++ [x] := take_succ hx
    intro s0 H0 C cl fp
    refine wG_imp (hg x hmem s0 H0 C cl fp (wipe σ (own.map (·.2))) G3 H3 v k3.s (hN3.wipe _) q3) fun σ2 H4 ⟨e4, n4, keep4⟩ => ?_
    subst e4
    refine ⟨wipe_eq (by rw [n4.len, hlen x hmem, n.len]) fun j hj' => keep4 j fun z => hj' (hj j z), fun s0 H0 C cl fp => ?_⟩
    refine wTs_imp (ht x hmem s0 H0 C cl fp σ2 G3 H4 k3.s n4) fun bb H5 ⟨G5, k5, q5⟩ => ?_
    subst q5
    have d5 : G5 D = none := frD k5 d3 (some_nt hD3)
    have hD5 : H5 D = some (.lst vs) := k5.h D _ hD3
    have f5 : ∀ a, G1 a = none → G5 a ≠ none → Fr H1 a := fun a h1 h2 => by
      cases q : G3 a with
      | none => exact (k5.f a q h2).back (e12.trans k3.h)
      | some o => exact f3 a h1 (by rw [q]; exact fun z => nomatch z)
    cases hp : p x with
    | false =>
      show _ ∧ _
      rw [ht1, List.filter_append, List.filter_cons, if_neg (by rw [hp]; decide)]
      refine ⟨(e12.trans k3.h).trans k5.h, G5, vs, (e1.trans k3.g).trans k5.g, k5.s, d5, f5, hD5, ?_⟩
      rw [List.filter_nil, List.append_nil]
      exact dpAll_up k5.g _ _ hv3
    | true =>
      show bE X scope elt _ _ _
      intro s0 H0 C cl fp
      refine wE_imp (he x hmem hp s0 H0 C cl fp σ2 G5 H5 k5.s (n4.up k5.g)) fun y H6 ⟨G6, k6, q6⟩ => ?_
      have d6 : G6 D = none := frD k6 d5 (some_nt hD5)
      have hD6 : H6 D = some (.lst vs) := k6.h D _ hD5
      have hvl := DpAll.len hv3
      refine ⟨vs, hD6, sz_lt ?_, fun a o ha => ?_, G6, vs ++ [y], ((e1.trans k3.g).trans k5.g).trans k6.g, k6.s.mut d6, d6, fun a h1 h2 => ?_, upd_same, ?_⟩
      · rw [hvl, List.length_map]
        have := List.length_filter_le p (xs.take i)
        rw [List.length_take] at this
        omega
      · have hne : a ≠ D := fun z => by rw [z, hD] at ha; cases ha
        rw [upd_ne hne]
        exact k6.h a o (k5.h a o (k3.h a o (e12 a o ha)))
      · cases q : G5 a with
        | none => exact (k6.f a q h2).back ((e12.trans k3.h).trans k5.h)
        | some o => exact f5 a h1 (by rw [q]; exact fun z => nomatch z)
      · rw [ht1, List.filter_append, List.filter_cons, if_pos hp, List.filter_nil, List.map_append]
        exact DpAll.app (dpAll_up (k5.g.trans k6.g) _ _ hv3) (.cons q6 .nil)
  · have hi3 : i = xs.length := by omega
    subst hi3
    rw [List.take_length] at hv
    refine .inl ⟨hst _ H2 (e1.trans s2) (Nat.le_refl _), hQ _ (upd G2 D (.lst vs)) _ ⟨(k1.g.trans e1).trans (Ex.new d2), fun a o h => ?_, k1.h.trans e12, fun a h1 h2 => ?_⟩ (Dp.lst (.inl upd_same) (dpAll_up (Ex.new d2) _ _ hv))⟩
    · by_cases ha : a = D
      · subst ha
        rw [upd_same] at h
        rw [hD2]
        exact h
      · rw [upd_ne ha] at h
        exact s2 a o h
    · by_cases ha : a = D
      · rw [ha]
        exact .of (fresh_back k1.h hD)
      · rw [upd_ne ha] at h2
        cases q : G1 a with
        | none => exact (f2 a q h2).back k1.h
        | some o => exact k1.f a h1 (by rw [q]; exact fun z => nomatch z)
theorem pv_lc {al : Type} {elt tg iter : Expr} {ifs : List Expr} {scope : Scope} (own : List (Str × Nat)) {js : List Nat} {xs : List al} {enc : al → Dn} (p : al → Bool) (f : al → PyData) (r2 : al → Rho) (hc : X.calm = true) (hN : X.N.Nodup) (hw : Wk X tg iter r (xs.map enc)) (ok : BlkOk X.N X.env.scope scope own)
    (hg : ∀ x, x ∈ xs → Blk X scope fun Y => Pg Y tg (wipeR r (own.map (·.2))) (enc x) (r2 x) js) (ht : ∀ x, x ∈ xs → Blk X scope fun Y => Pts Y ifs (r2 x) (p x)) (he : ∀ x, x ∈ xs → p x = true → Blk X scope fun Y => Pv Y elt (r2 x) (.d (f x)))
    (hl : xs.length ≤ 100000) (hj : ∀ j, j ∈ js → j ∈ own.map (·.2)) (hlen : ∀ x, x ∈ xs → (r2 x).length = r.length) (hs : ∀ x, foldedSetIterable iter X.env x = pure x := by intro _; rfl) : Pv X (.ListComp elt [⟨tg, iter, ifs, 0⟩] scope pos) r (.d (.list ((xs.filter p).map f))) := by
  obtain ⟨wi, hi, hwi⟩ := hw
  intro σ G H g n
  exact wE_of (pe_lc hc hN hi ok bG_ok bTs_ok bE_ok hs) (lc_data hwi hg ht he hl hj hlen g n fun v G2 H2 k q => ⟨G2, k, q⟩)
end
end Fb

/-! FbC: calls (own defs, built-ins) and statements, by data. -/
namespace Fb
open PySem L2 Evl
section
variable {X : Cx} {a b c e o : Expr} {es rest : List Expr} {r : Rho} {d d1 d2 d3 : Dn} {pos p : Pos}

/-! #### built-ins -/
abbrev CallD (K : PySem.W.Frag) (f : List V → Hp → VK → Prop) (ds : List Dn) (d : Dn) : Prop := ∀ vs G H (Q : VK), Ex G H → Dens K G vs ds → (∀ v G' H', Gr G H G' H' → Den K G' v d → Q v H') → f vs H Q
theorem pv_callB {x : Str} {id : String} {f : List V → Hp → VK → Prop} {ds : List Dn} (hc : CallR X (.builtin id) f) (hg : Gl X x) (hm : X.mg x = none) (hv : bootBuiltins x = some (.builtin id)) (ha : Pa X (e :: es) r ds) (hr : CallD X.K f ds d)
    (hn : x ≠ "__name__" := by decide) (hdb : (x == ("__debug__" : Str)) = false := by decide) (he : starEach (e :: es) X.env = (false, eval e X.env) :: starEach es X.env := by rfl) (hpl : (backTo pos (starEach es X.env)).any (·.1) = false := by rfl) :
    Pv X (.Call (.Name x p) (e :: es) [] pos) r d := fun σ G H g n =>
  wE_of (pe_callB hc hg hm hv pa_w hn hdb he hpl) (wA_imp (ha σ G H g n) fun vs H1 ⟨G1, k1, q1⟩ => hr vs G1 H1 _ k1.s q1 fun v G2 H2 k2 q2 => ⟨G2, k1.trans k2, q2⟩)
theorem pv_callTy {x : Str} {T : String} {f : List V → Hp → VK → Prop} {ds : List Dn} (hc : CallR X (.type T) f) (hg : Gl X x) (hm : X.mg x = none) (hv : bootBuiltins x = some (.type T)) (ha : Pa X (e :: es) r ds) (hr : CallD X.K f ds d)
    (hn : x ≠ "__name__" := by decide) (hdb : (x == ("__debug__" : Str)) = false := by decide) (he : starEach (e :: es) X.env = (false, eval e X.env) :: starEach es X.env := by rfl) (hpl : (backTo pos (starEach es X.env)).any (·.1) = false := by rfl) :
    Pv X (.Call (.Name x p) (e :: es) [] pos) r d := fun σ G H g n =>
  wE_of (pe_callTy hc hg hm hv pa_w hn hdb he hpl) (wA_imp (ha σ G H g n) fun vs H1 ⟨G1, k1, q1⟩ => hr vs G1 H1 _ k1.s q1 fun v G2 H2 k2 q2 => ⟨G2, k1.trans k2, q2⟩)
theorem dens1 {K : PySem.W.Frag} {H : Hp} {vs : List V} (h : Dens K H vs [d]) : ∃ v, vs = [v] ∧ Den K H v d := by
  cases h with
  | cons h1 h2 => cases h2; exact ⟨_, rfl, h1⟩
theorem dens2 {K : PySem.W.Frag} {H : Hp} {vs : List V} (h : Dens K H vs [d, d1]) : ∃ v w, vs = [v, w] ∧ Den K H v d ∧ Den K H w d1 := by
  cases h with
  | cons h1 h2 =>
    obtain ⟨w, rfl, h3⟩ := dens1 h2
    exact ⟨_, w, rfl, h1, h3⟩
/-- len -/
def lenD : PyData → Option Nat
  | .str y => some y.length
  | .list xs => some xs.length
  | .tuple xs => some xs.length
  | _ => none
theorem lenV_of {K : PySem.W.Frag} {H : Hp} {x : V} {y : PyData} {n : Nat} (h : Dp K H x y) (hs : strOk y) (hn : lenD y = some n) : LenV K x H n := by
  cases h with
  | str z => cases hn; exact ⟨hs, rfl⟩
  | lst h1 h2 => cases hn; exact .inl ⟨_, .inl h1, (DpAll.len h2).symm⟩
  | tup h1 h2 => cases hn; exact .inr ⟨_, h1.sq, (DpAll.len h2).symm⟩
  | _ => cases hn
theorem pv_len {y : PyData} {n : Nat} (hm : X.mg "len" = none) (ha : Pv X a r (.d y)) (hn : lenD y = some n) (hs : strOk y := by trivial) (hg : Gl X "len" := by rfl) (he : starEach [a] X.env = (false, eval a X.env) :: starEach [] X.env := by rfl) (hpl : (backTo pos (starEach [] X.env)).any (·.1) = false := by rfl) :
    Pv X (.Call (.Name "len" p) [a] [] pos) r (.d (.int n)) :=
  pv_callB call_len hg hm PySem.boot_len (pa_cons ha pa_nil he) (fun vs G H Q g hd k => by
    obtain ⟨v, rfl, hv⟩ := dens1 hd
    exact ⟨v, n, rfl, lenV_of (dp_up g _ _ hv) hs hn, k _ G H (Gr.refl g) (Dp.int _)⟩) (he := he) (hpl := hpl)
/-- isinstance with a built-in class -/
def tyD : PyData → String
  | .none => "NoneType"
  | .bool _ => "bool"
  | .int _ => "int"
  | .str _ => "str"
  | .list _ => "list"
  | .tuple _ => "tuple"
  | .dict _ => "dict"
theorem tyX_of {K : PySem.W.Frag} {H : Hp} {x : V} {y : PyData} (h : Dp K H x y) : TyX K H x (.type (tyD y)) := by
  cases h with
  | non => exact .base .non
  | bl b => exact .base (.bl b)
  | int i => exact .base (.int i)
  | str z => exact .base (.str z)
  | lst h1 h2 =>
    rcases h1 with h1 | ⟨o, h1⟩
    · exact .base (.lst h1)
    · exact .base (.frz h1)
  | tup h1 h2 =>
    rcases h1.sq with (h1 | ⟨o, h1⟩) | ⟨o, its, n, hk, hc, _⟩
    · exact .base (.tup h1)
    · exact .fTuple h1
    · exact .kTuple hk hc
theorem pv_ty {x : Str} {T : String} (hm : X.mg x = none) (hv : bootBuiltins x = some (.type T)) (hg : Gl X x := by rfl) (hn : x ≠ "__name__" := by decide) (hd : (x == ("__debug__" : Str)) = false := by decide) : Pv X (.Name x pos) r (.v (.ty T)) := fun σ G H g _ =>
  wE_of (pe_bltn hg hm hv (v := .ty T) rfl hn hd) ⟨G, Gr.refl g, rfl⟩
theorem pv_isi {y : PyData} {T : String} {k : Bool} (hm : X.mg "isinstance" = none) (ha : Pv X a r (.d y)) (hb : Pv X b r (.v (.ty T))) (hk : kitB (tyD y) T = some k)
    (hg : Gl X "isinstance" := by rfl) (he : starEach [a, b] X.env = (false, eval a X.env) :: starEach [b] X.env := by rfl) (he2 : starEach [b] X.env = (false, eval b X.env) :: starEach [] X.env := by rfl) (hpl : (backTo pos (starEach [b] X.env)).any (·.1) = false := by rfl) :
    Pv X (.Call (.Name "isinstance" p) [a, b] [] pos) r (.d (.bool k)) :=
  pv_callB call_isi hg hm PyProof.Rows.boot_isinstance (pa_cons ha (pa_cons hb pa_nil he2) he) (fun vs G H Q g hd kk => by
    obtain ⟨v, w, rfl, hv, hw⟩ := dens2 hd
    have hw' : w = .ty T := hw
    subst hw'
    exact ⟨v, _, _, _, k, rfl, .ty T, tyX_of (dp_up g _ _ hv), kit_ty hk, kk _ G H (Gr.refl g) (Dp.bl _)⟩) (he := he) (hpl := hpl)
def isTup : PyData → Bool
  | .tuple _ => true
  | _ => false
def isStr : PyData → Bool
  | .str _ => true
  | _ => false
def isBool : PyData → Bool
  | .bool _ => true
  | _ => false
def isInt : PyData → Bool
  | .int _ => true
  | .bool _ => true
  | _ => false
def isList : PyData → Bool
  | .list _ => true
  | _ => false
theorem kit_tup : ∀ y : PyData, kitB (tyD y) "tuple" = some (isTup y)
  | .none => (by decide +kernel : kitB "NoneType" "tuple" = some false)
  | .bool _ => (by decide +kernel : kitB "bool" "tuple" = some false)
  | .int _ => (by decide +kernel : kitB "int" "tuple" = some false)
  | .str _ => (by decide +kernel : kitB "str" "tuple" = some false)
  | .list _ => (by decide +kernel : kitB "list" "tuple" = some false)
  | .tuple _ => (by decide +kernel : kitB "tuple" "tuple" = some true)
  | .dict _ => (by decide +kernel : kitB "dict" "tuple" = some false)
theorem kit_str : ∀ y : PyData, kitB (tyD y) "str" = some (isStr y)
  | .none => (by decide +kernel : kitB "NoneType" "str" = some false)
  | .bool _ => (by decide +kernel : kitB "bool" "str" = some false)
  | .int _ => (by decide +kernel : kitB "int" "str" = some false)
  | .str _ => (by decide +kernel : kitB "str" "str" = some true)
  | .list _ => (by decide +kernel : kitB "list" "str" = some false)
  | .tuple _ => (by decide +kernel : kitB "tuple" "str" = some false)
  | .dict _ => (by decide +kernel : kitB "dict" "str" = some false)
theorem kit_bool : ∀ y : PyData, kitB (tyD y) "bool" = some (isBool y)
  | .none => (by decide +kernel : kitB "NoneType" "bool" = some false)
  | .bool _ => (by decide +kernel : kitB "bool" "bool" = some true)
  | .int _ => (by decide +kernel : kitB "int" "bool" = some false)
  | .str _ => (by decide +kernel : kitB "str" "bool" = some false)
  | .list _ => (by decide +kernel : kitB "list" "bool" = some false)
  | .tuple _ => (by decide +kernel : kitB "tuple" "bool" = some false)
  | .dict _ => (by decide +kernel : kitB "dict" "bool" = some false)
theorem kit_int : ∀ y : PyData, kitB (tyD y) "int" = some (isInt y)
  | .none => (by decide +kernel : kitB "NoneType" "int" = some false)
  | .bool _ => (by decide +kernel : kitB "bool" "int" = some true)
  | .int _ => (by decide +kernel : kitB "int" "int" = some true)
  | .str _ => (by decide +kernel : kitB "str" "int" = some false)
  | .list _ => (by decide +kernel : kitB "list" "int" = some false)
  | .tuple _ => (by decide +kernel : kitB "tuple" "int" = some false)
  | .dict _ => (by decide +kernel : kitB "dict" "int" = some false)
theorem kit_list : ∀ y : PyData, kitB (tyD y) "list" = some (isList y)
  | .none => (by decide +kernel : kitB "NoneType" "list" = some false)
  | .bool _ => (by decide +kernel : kitB "bool" "list" = some false)
  | .int _ => (by decide +kernel : kitB "int" "list" = some false)
  | .str _ => (by decide +kernel : kitB "str" "list" = some false)
  | .list _ => (by decide +kernel : kitB "list" "list" = some true)
  | .tuple _ => (by decide +kernel : kitB "tuple" "list" = some false)
  | .dict _ => (by decide +kernel : kitB "dict" "list" = some false)
/-- abs, max, min of two ints, int of a truth value -/
theorem pv_abs {i : Int} (hm : X.mg "abs" = none) (ha : Pv X a r (.d (.int i))) (hg : Gl X "abs" := by rfl) (he : starEach [a] X.env = (false, eval a X.env) :: starEach [] X.env := by rfl) (hpl : (backTo pos (starEach [] X.env)).any (·.1) = false := by rfl) :
    Pv X (.Call (.Name "abs" p) [a] [] pos) r (.d (.int (if i < 0 then -i else i))) :=
  pv_callB call_abs hg hm PyProof.Rows.boot_abs (pa_cons ha pa_nil he) (fun vs G H Q g hd k => by
    obtain ⟨v, rfl, hv⟩ := dens1 hd
    exact ⟨i, by rw [den_int hv], k _ G H (Gr.refl g) (Dp.int _)⟩) (he := he) (hpl := hpl)
theorem pv_max2 {i j : Int} (hm : X.mg "max" = none) (ha : Pv X a r (.d (.int i))) (hb : Pv X b r (.d (.int j)))
    (hc : X.calm = true := by rfl) (hg : Gl X "max" := by rfl) (he : starEach [a, b] X.env = (false, eval a X.env) :: starEach [b] X.env := by rfl) (he2 : starEach [b] X.env = (false, eval b X.env) :: starEach [] X.env := by rfl) (hpl : (backTo pos (starEach [b] X.env)).any (·.1) = false := by rfl) :
    Pv X (.Call (.Name "max" p) [a, b] [] pos) r (.d (.int (if j > i then j else i))) :=
  pv_callB (call_max2 hc) hg hm PyProof.Rows.boot_max (pa_cons ha (pa_cons hb pa_nil he2) he) (fun vs G H Q g hd k => by
    obtain ⟨v, w, rfl, hv, hw⟩ := dens2 hd
    exact ⟨i, j, by rw [den_int hv, den_int hw], k _ G H (Gr.refl g) (Dp.int _)⟩) (he := he) (hpl := hpl)
theorem pv_min2 {i j : Int} (hm : X.mg "min" = none) (ha : Pv X a r (.d (.int i))) (hb : Pv X b r (.d (.int j)))
    (hc : X.calm = true := by rfl) (hg : Gl X "min" := by rfl) (he : starEach [a, b] X.env = (false, eval a X.env) :: starEach [b] X.env := by rfl) (he2 : starEach [b] X.env = (false, eval b X.env) :: starEach [] X.env := by rfl) (hpl : (backTo pos (starEach [b] X.env)).any (·.1) = false := by rfl) :
    Pv X (.Call (.Name "min" p) [a, b] [] pos) r (.d (.int (if j < i then j else i))) :=
  pv_callB (call_min2 hc) hg hm PyProof.Rows.boot_min (pa_cons ha (pa_cons hb pa_nil he2) he) (fun vs G H Q g hd k => by
    obtain ⟨v, w, rfl, hv, hw⟩ := dens2 hd
    exact ⟨i, j, by rw [den_int hv, den_int hw], k _ G H (Gr.refl g) (Dp.int _)⟩) (he := he) (hpl := hpl)
theorem pv_intb {i : Bool} (hm : X.mg "int" = none) (ha : Pv X a r (.d (.bool i))) (hg : Gl X "int" := by rfl) (he : starEach [a] X.env = (false, eval a X.env) :: starEach [] X.env := by rfl) (hpl : (backTo pos (starEach [] X.env)).any (·.1) = false := by rfl) :
    Pv X (.Call (.Name "int" p) [a] [] pos) r (.d (.int (if i then 1 else 0))) :=
  pv_callTy call_int1 hg hm PyProof.Rows.boot_int (pa_cons ha pa_nil he) (fun vs G H Q g hd k => by
    obtain ⟨v, rfl, hv⟩ := dens1 hd
    exact .inr ⟨i, by rw [den_bool hv], k _ G H (Gr.refl g) (Dp.int _)⟩) (he := he) (hpl := hpl)
/-- tuple(list), list(tuple or list) -/
theorem pv_tupleL {xs : List PyData} (hm : X.mg "tuple" = none) (ha : Pv X a r (.d (.list xs))) (hg : Gl X "tuple" := by rfl) (he : starEach [a] X.env = (false, eval a X.env) :: starEach [] X.env := by rfl) (hpl : (backTo pos (starEach [] X.env)).any (·.1) = false := by rfl) :
    Pv X (.Call (.Name "tuple" p) [a] [] pos) r (.d (.tuple xs)) :=
  pv_callTy call_tuple_of hg hm PyProof.Rows.boot_tuple (pa_cons ha pa_nil he) (fun vs G H Q g hd k => by
    obtain ⟨v, rfl, hv⟩ := dens1 hd
    cases hv with
    | lst h1 h2 => exact ⟨_, _, rfl, .inl ⟨.inl (ex_rd g h1), fun l hl => k _ _ _ (Gr.new g hl) (Dp.tup (.inl upd_same) (dpAll_up (Ex.new (fresh_back g hl)) _ _ h2))⟩⟩) (he := he) (hpl := hpl)
theorem pv_tupleT {xs : List PyData} (hm : X.mg "tuple" = none) (ha : Pv X a r (.d (.tuple xs))) (hg : Gl X "tuple" := by rfl) (he : starEach [a] X.env = (false, eval a X.env) :: starEach [] X.env := by rfl) (hpl : (backTo pos (starEach [] X.env)).any (·.1) = false := by rfl) :
    Pv X (.Call (.Name "tuple" p) [a] [] pos) r (.d (.tuple xs)) :=
  pv_callTy call_tuple_of hg hm PyProof.Rows.boot_tuple (pa_cons ha pa_nil he) (fun vs G H Q g hd k => by
    obtain ⟨v, rfl, hv⟩ := dens1 hd
    cases hv with
    | tup h1 h2 => exact ⟨_, _, rfl, .inr ⟨ex_t g h1.sq, k _ _ _ (Gr.refl g) (Dp.tup h1 h2)⟩⟩) (he := he) (hpl := hpl)
theorem pv_list {xs : List PyData} {y : PyData} (hy : y = .list xs ∨ y = .tuple xs) (hm : X.mg "list" = none) (ha : Pv X a r (.d y)) (hg : Gl X "list" := by rfl) (he : starEach [a] X.env = (false, eval a X.env) :: starEach [] X.env := by rfl) (hpl : (backTo pos (starEach [] X.env)).any (·.1) = false := by rfl) :
    Pv X (.Call (.Name "list" p) [a] [] pos) r (.d (.list xs)) :=
  pv_callTy call_list_of hg hm PyProof.Rows.boot_list (pa_cons ha pa_nil he) (fun vs G H Q g hd k => by
    obtain ⟨v, rfl, hv⟩ := dens1 hd
    rcases hy with rfl | rfl
    · cases hv with
      | lst h1 h2 => exact ⟨_, _, rfl, .inl (.inl (ex_rd g h1)), fun l hl => k _ _ _ (Gr.new g hl) (Dp.lst (.inl upd_same) (dpAll_up (Ex.new (fresh_back g hl)) _ _ h2))⟩
    · cases hv with
      | tup h1 h2 => exact ⟨_, _, rfl, .inr (ex_t g h1.sq), fun l hl => k _ _ _ (Gr.new g hl) (Dp.lst (.inl upd_same) (dpAll_up (Ex.new (fresh_back g hl)) _ _ h2))⟩) (he := he) (hpl := hpl)

/-! #### + and * of lists -/
theorem lstR {pins : List (Addr × Obj)} {σ : L2.St} {H : Hp} {s : Shared} {l : Addr} {xs : List V} (I : L2.Inv X pins σ H s) (hH : Rd H l (.lst xs)) : xs.length ≤ sizeLine ∧ ∃ (its : List Value) (n : Nat), Vals xs its ∧ xs.length = its.length ∧ s.heap.get? l = some { cls := .type "list", data := .seq its.toArray n } := by
  obtain ⟨z, its, n, rr, e⟩ := hH.ok I.hok
  exact ⟨z, its, n, rr, rr.length, e⟩
def rCatR : R2 := fun x y H Q => ∃ l b xs zs, x = .ref l ∧ y = .ref b ∧ Rd H l (.lst xs) ∧ Rd H b (.lst zs) ∧ xs.length + zs.length ≤ sizeLine ∧ ∀ p, H p = none → Q (.ref p) (upd H p (.lst (xs ++ zs)))
theorem op_catR : OpR X (binaryOp .Add) rCatR := by
  intro pins s σ H x y v u Q I rx ry h
  obtain ⟨l, b, xs, zs, rfl, rfl, hH, hB, hz, q⟩ := h
  cases rx
  cases ry
  obtain ⟨z, its, n, rr, hl, e⟩ := lstR I hH
  obtain ⟨z2, its2, n2, r2, hl2, e2⟩ := lstR I hB
  refine PySem.P.add_list e e2 ?_ (by rw [List.size_toArray, List.size_toArray]; omega)
  have ea : its.toArray ++ its2.toArray = (its ++ its2).toArray := by simp
  rw [ea]
  exact ⟨.ref _, _, I.lnew (t' := s.toks) (rr.append r2) (by rw [List.length_append]; omega), rfl, q _ I.fresh⟩
theorem pv_catL {xs ys : List PyData} (ha : Pv X a r (.d (.list xs))) (hb : Pv X b r (.d (.list ys))) (hl : xs.length + ys.length ≤ 100000) : Pv X (.BinOp a .Add b pos) r (.d (.list (xs ++ ys))) :=
  pv_bin op_catR ha hb fun x y G H Q e h1 h2 k => by
    cases h1 with
    | lst s1 t1 =>
      cases h2 with
      | lst s2 t2 =>
        have l1 := DpAll.len t1
        have l2 := DpAll.len t2
        exact ⟨_, _, _, _, rfl, rfl, ex_rd e s1, ex_rd e s2, sz_of (by omega), fun p hp => k _ _ _ (Gr.new e hp) (Dp.lst (.inl upd_same) (dpAll_up (Ex.new (fresh_back e hp)) _ _ (DpAll.app t1 t2)))⟩
theorem dpAll_rep {K : PySem.W.Frag} {H : Hp} {vs : List V} {ds : List PyData} (h : DpAll K H vs ds) : ∀ n : Nat, DpAll K H (List.replicate n vs).flatten (List.replicate n ds).flatten
  | 0 => .nil
  | n + 1 => by
    rw [List.replicate_succ, List.replicate_succ, List.flatten_cons, List.flatten_cons]
    exact DpAll.app h (dpAll_rep h n)
/-- [..] * k, the list just written -/
theorem pv_repL {xs : List PyData} {k : Int} (ha : Pd X es r xs) (hb : Pv X b r (.d (.int k))) (hk : -(2 ^ 63) ≤ k ∧ k < 2 ^ 63) (hl : xs.length * k.toNat ≤ 100000) (hl1 : xs.length ≤ 100000 := by simp) {p2 : Pos} : Pv X (.BinOp (.List es p2) .Mult b pos) r (.d (.list (List.replicate k.toNat xs).flatten)) := fun σ G H g n =>
  wE_of (pe_op op_rep (pe_lst pa_w) pe_w) (wA_imp (ha σ G H g n) fun vs H1 ⟨G1, k1, q1⟩ => by
    have q := Dens.dp q1
    have hlen := DpAll.len q
    refine ⟨sz_of (by omega), fun p hp => ?_⟩
    have kn := Gr.new (o := .lst vs) k1.s hp
    refine wE_imp (hb σ _ _ kn.s ((n.up k1.g).up kn.g)) fun y H2 ⟨G2, k2, q2⟩ => ?_
    refine ⟨p, k, vs, rfl, den_int q2, k2.h _ _ upd_same, hk.1, hk.2, sz_of (by rw [hlen]; exact hl), fun l hl2 => ⟨_, ((k1.trans kn).trans k2).trans (Gr.new k2.s hl2), Dp.lst (.inl upd_same) (dpAll_up (kn.g.trans (k2.g.trans (Ex.new (fresh_back k2.s hl2)))) _ _ (dpAll_rep q _))⟩⟩)

/-! #### in, not in -/
/-- a text (or another flat thing) in a tuple, a list of flat things -/
def flatD : PyData → Bool
  | .none => true
  | .bool _ => true
  | .int _ => true
  | .str _ => true
  | _ => false
theorem pv_inD {x : PyData} {xs : List PyData} (hu : X.A.units + 65 < cLine) (ha : Pv X a r (.d x)) (hb : Pv X b r (.d (.list xs))) (h1 : SeqAt.shaped x = true) (h2 : SeqAt.shaped (.list xs) = true) (hm : behindInMarks .In b = false := by rfl) : Pv X (.Compare a [.In] [b] pos) r (.d (.bool (xs.any fun z => PyData.eqv z x))) :=
  pv_cmp (op_inD hu) ha hb (fun v w G H Q e q1 q2 k => ⟨x, xs, Dp.l2 _ _ (dp_up e _ _ q1), Dp.l2 _ _ (dp_up e _ _ q2), h1, h2, k _ G H (Gr.refl e) (Dp.bl _)⟩) hm
theorem pt_inD {x : PyData} {xs : List PyData} (hu : X.A.units + 65 < cLine) (ha : Pv X a r (.d x)) (hb : Pv X b r (.d (.list xs))) (h1 : SeqAt.shaped x = true) (h2 : SeqAt.shaped (.list xs) = true) (hm : behindInMarks .In b = false := by rfl) : Pt X (.Compare a [.In] [b] pos) r (xs.any fun z => PyData.eqv z x) :=
  pt_cmp (op_inD hu) ha hb (fun v w G H Q e q1 q2 k => ⟨x, xs, Dp.l2 _ _ (dp_up e _ _ q1), Dp.l2 _ _ (dp_up e _ _ q2), h1, h2, k _ G H (Gr.refl e) (Dp.bl _)⟩) hm
theorem pv_ninD {x : PyData} {xs : List PyData} (hu : X.A.units + 65 < cLine) (ha : Pv X a r (.d x)) (hb : Pv X b r (.d (.list xs))) (h1 : SeqAt.shaped x = true) (h2 : SeqAt.shaped (.list xs) = true) (hm : behindInMarks .NotIn b = false := by rfl) : Pv X (.Compare a [.NotIn] [b] pos) r (.d (.bool (!xs.any fun z => PyData.eqv z x))) :=
  pv_cmp (op_notInD hu) ha hb (fun v w G H Q e q1 q2 k => ⟨x, xs, Dp.l2 _ _ (dp_up e _ _ q1), Dp.l2 _ _ (dp_up e _ _ q2), h1, h2, k _ G H (Gr.refl e) (Dp.bl _)⟩) hm
theorem pt_ninD {x : PyData} {xs : List PyData} (hu : X.A.units + 65 < cLine) (ha : Pv X a r (.d x)) (hb : Pv X b r (.d (.list xs))) (h1 : SeqAt.shaped x = true) (h2 : SeqAt.shaped (.list xs) = true) (hm : behindInMarks .NotIn b = false := by rfl) : Pt X (.Compare a [.NotIn] [b] pos) r (!xs.any fun z => PyData.eqv z x) :=
  pt_cmp (op_notInD hu) ha hb (fun v w G H Q e q1 q2 k => ⟨x, xs, Dp.l2 _ _ (dp_up e _ _ q1), Dp.l2 _ _ (dp_up e _ _ q2), h1, h2, k _ G H (Gr.refl e) (Dp.bl _)⟩) hm
/-- a text in a tuple of texts -/
theorem strs_flat {K : PySem.W.Frag} {H : Hp} : ∀ {vs : List V} {ss : List Str}, DpAll K H vs (ss.map PyData.str) → vs = ss.map V.str
  | _, [], h => by cases h; rfl
  | _, s :: ss, h => by
    cases h with
    | cons h1 h2 =>
      cases h1
      rw [strs_flat h2]
      rfl
theorem inV_strs (x : Str) : ∀ ss : List Str, inV (.str x) (ss.map V.str) = ss.contains x
  | [] => rfl
  | s :: ss => by
    have ih := inV_strs x ss
    unfold inV at ih ⊢
    rw [List.map_cons, List.any_cons, ih, List.contains_cons]
    congr 1
    show (s == x) = (x == s)
    rw [Bool.eq_iff_iff, beq_iff_eq, beq_iff_eq]
    exact eq_comm
theorem flat_strs : ∀ ss : List Str, (ss.map V.str).all flatV = true
  | [] => rfl
  | s :: ss => by rw [List.map_cons, List.all_cons, flat_strs ss]; rfl
theorem inS_op {x : Str} {ss : List Str} {neg : Bool} : Op2 X.K (rIn X.K neg) (.d (.str x)) (.d (.tuple (ss.map PyData.str))) (.d (.bool (if neg then !ss.contains x else ss.contains x))) := fun v w G H Q e q1 q2 k => by
  cases q2 with
  | tup s1 t1 =>
    have := strs_flat t1
    subst this
    refine ⟨_, _, rfl, .inr (ex_t e s1.sq), by rw [den_str q1]; rfl, flat_strs ss, k _ G H (Gr.refl e) ?_⟩
    rw [den_str q1, inV_strs]
    exact Dp.bl _
theorem pt_ninS {x : Str} {ss : List Str} (ha : Pv X a r (.d (.str x))) (hb : Pv X b r (.d (.tuple (ss.map PyData.str)))) (hm : behindInMarks .NotIn b = false := by rfl) : Pt X (.Compare a [.NotIn] [b] pos) r (!ss.contains x) := pt_cmp op_notIn_seq ha hb (inS_op (neg := true)) hm
theorem pt_inS {x : Str} {ss : List Str} (ha : Pv X a r (.d (.str x))) (hb : Pv X b r (.d (.tuple (ss.map PyData.str)))) (hm : behindInMarks .In b = false := by rfl) : Pt X (.Compare a [.In] [b] pos) r (ss.contains x) := pt_cmp op_in_seq ha hb (inS_op (neg := false)) hm
/-- one sign in a text -/
theorem pt_nin1 {c : Nat} {z : Str} (ha : Pv X a r (.d (.str ⟨#[c]⟩))) (hb : Pv X b r (.d (.str z))) (hm : behindInMarks .NotIn b = false := by rfl) : Pt X (.Compare a [.NotIn] [b] pos) r (!decide (c ∈ z.cps.toList)) :=
  pt_cmp op_notIn_sign ha hb (fun v w G H Q e q1 q2 k => ⟨c, z, den_str q1, den_str q2, k _ G H (Gr.refl e) (Dp.bl _)⟩) hm

/-! #### calls of own defs -/
/-- at x stands a def that keeps the promise sp, at the level k -/
structure Fc (P : Program) (w : World) (K : PySem.W.Frag) (mg : Str → Option Value) (base : Heap) (k : Nat) (x : Str) (sp : Sp) : Prop where
  ex : ∃ f fd ps, FnOk P w K mg base (L2.CX P w) k f fd ps sp ∧ mg x = some (.ref f) ∧ PySem.W.keepIn K (.ref f) = true ∧ Binds K fd ps []
/-- the promise of a pure def: R of the arguments' data and the answer's; or, B, an error of the class at C -/
def spR (K : PySem.W.Frag) (R : List Dn → Dn → Prop) (B : List Dn → Addr → Prop) : Sp := fun vs H Q E => ∃ ds G, Ex G H ∧ Dens K G vs ds ∧
  ((∃ d, R ds d ∧ ∀ v G' H', Gr G H G' H' → Den K G' v d → Q v H') ∨ (∃ C, B ds C ∧ ∀ G' H', Gr G H G' H' → E (.ref C) none H'))
abbrev noB : List Dn → Addr → Prop := fun _ _ => False
theorem pv_call {x : Str} {k j : Nat} {R : List Dn → Dn → Prop} {B : List Dn → Addr → Prop} {ds : List Dn} (F : Fc X.prog X.w X.K X.mg X.base k x (spR X.K R B)) (hr : Room j X.A) (ha : Pa X (e :: es) r ds) (hR : R ds d) (hk : k ≤ j := by decide) (hg : Gl X x := by rfl)
    (hdb : (x == ("__debug__" : Str)) = false := by decide) (he : starEach (e :: es) X.env = (false, eval e X.env) :: starEach es X.env := by rfl) (hpl : (backTo pos (starEach es X.env)).any (·.1) = false := by rfl) :
    Pv X (.Call (.Name x p) (e :: es) [] pos) r d := fun σ G H g n => by
  obtain ⟨f, fd, ps, F, hm, hkp, hb⟩ := F.ex
  refine wE_of (pe_call F (hr.mono hk) hg hm hkp hb .nil passL pa_w hdb he hpl) (wA_imp (ha σ G H g n) fun vs H1 ⟨G1, k1, q1⟩ => ?_)
  rw [List.append_nil]
  exact ⟨ds, G1, k1.s, q1, .inl ⟨d, hR, fun v G2 H2 k2 q2 => ⟨G2, k1.trans k2, q2⟩⟩⟩
end

/-! ### statements -/
/-- from the environment r, G grown from G0 as H from H0, the block sts comes to D -/
def Go (X : Cx) (sts : List Stmt) (D : Ends) (G0 H0 : Hp) (r : Rho) : Prop := ∀ σ G H, Gr G0 H0 G H → En X.K G σ r → wSs X sts D σ H
/-- behind a statement: the environment r -/
def Nx (K : PySem.W.Frag) (G0 H0 : Hp) (r : Rho) : L2.St → Hp → Prop := fun σ H => ∃ G, Gr G0 H0 G H ∧ En K G σ r
section
variable {X : Cx} {a b c e o : Expr} {st : Stmt} {sts ss rest : List Stmt} {r : Rho} {d d1 d2 d3 : Dn} {pos p : Pos} {D : Ends} {G0 H0 : Hp}
theorem go_in {N : List Str} {vs : List V} {ds : List Dn} {G H : Hp} (g : Ex G H) (hd : Dens X.K G vs ds) (h : Go X sts D G H (ds.map some ++ List.replicate (N.length - vs.length) none)) : wSs X sts D (L2.start N vs) H := h _ G H (Gr.refl g) (En.start hd)
theorem go_nil (h : ∀ σ H, Nx X.K G0 H0 r σ H → D.nx σ H) : Go X [] D G0 H0 r := fun σ G H g n => wSs_of pss_nil (h σ H ⟨G, g, n⟩)
theorem go_back (h : Go X rest D G0 H0 r) : ∀ σ H, Nx X.K G0 H0 r σ H → wSs X rest D σ H := fun σ H ⟨G, g, n⟩ => h σ G H g n
theorem go_set (i : Nat) {x : Str} {p' : Pos} (h : Pv X e r d) (k : Go X rest D G0 H0 (r.set i (some d))) (hN : X.N.Nodup) (hi : X.N[i]? = some x := by rfl) (hx : Loc X.env.scope x := by first | exact Or.inl rfl | exact Or.inr rfl)
    (hs : swapsWith e (some (.Name x p')) pos.line X.env = pure false := by rfl) (hf : X.fn x = true ∨ X.env.scope.names.lookup x = some .local := by first | exact .inl rfl | exact .inr rfl) : Go X (.Assign [.Name x p'] e pos :: rest) D G0 H0 r := fun σ G H g n =>
  wSs_of (pss_cons (ps_set hN hi hx pe_w hs hf) pss_w) (wE_imp (h σ G H g.s n) fun v H1 ⟨G1, k1, q1⟩ => k _ G1 H1 (g.trans k1) ((n.up k1.g).set i q1))
/-- y = [..], a local -/
theorem go_setLc {al : Type} (i : Nat) {y : Str} {py pl : Pos} {elt tg iter : Expr} {ifs : List Expr} {scope : Scope} (own : List (Str × Nat)) {js : List Nat} {xs : List al} {enc : al → Dn} (f0 : al → Bool) (f : al → PyData) (r2 : al → Rho) (hc : X.calm = true) (hN : X.N.Nodup) (hw : Wk X tg iter r (xs.map enc)) (ok : BlkOk X.N X.env.scope scope own)
    (hg : ∀ x, x ∈ xs → Blk X scope fun Y => Pg Y tg (wipeR r (own.map (·.2))) (enc x) (r2 x) js) (ht : ∀ x, x ∈ xs → Blk X scope fun Y => Pts Y ifs (r2 x) (f0 x)) (he : ∀ x, x ∈ xs → f0 x = true → Blk X scope fun Y => Pv Y elt (r2 x) (.d (f x)))
    (hl : xs.length ≤ 100000) (hj : ∀ j, j ∈ js → j ∈ own.map (·.2)) (hlen : ∀ x, x ∈ xs → (r2 x).length = r.length) (k : Go X rest D G0 H0 (r.set i (some (.d (.list ((xs.filter f0).map f))))))
    (hsw : swapsWith (.ListComp elt [⟨tg, iter, ifs, 0⟩] scope pl) (some (.Name y py)) pos.line X.env = pure true) (hi : X.N[i]? = some y := by rfl) (hyl : X.env.scope.names.lookup y = some .local := by rfl) (hs : ∀ x, foldedSetIterable iter X.env x = pure x := by intro _; rfl) :
    Go X (.Assign [.Name y py] (.ListComp elt [⟨tg, iter, ifs, 0⟩] scope pl) pos :: rest) D G0 H0 r := by
  obtain ⟨wi, hi', hwi⟩ := hw
  intro σ G H g n
  exact wSs_of (pss_cons (ps_setLc hc hN hi hyl hsw hi' ok bG_ok bTs_ok bE_ok hs) pss_w) (lc_data hwi hg ht he hl hj hlen g.s n fun v G2 H2 k2 q2 => k _ G2 H2 (g.trans k2) ((n.up k2.g).set i q2))
/-- a, b = e -/
theorem go_unp {tg : Expr} {r2 : Rho} {js : List Nat} (h : Pv X e r d) (hg : Pg X tg r d r2 js) (k : Go X rest D G0 H0 r2) (hs : swapsWithSole [tg] e pos.line X.env = pure false := by rfl) (hw : swappedStores [tg] e X.env = pure none := by rfl) (h1 : (assignEach [tg] X.env).map (·.2) = [assign tg X.env] := by rfl) : Go X (.Assign [tg] e pos :: rest) D G0 H0 r := fun σ G H g n =>
  wSs_of (pss_cons (ps_asg pe_w pg_w hs hw h1) pss_w) (wE_imp (h σ G H g.s n) fun v H1 ⟨G1, k1, q1⟩ => wG_imp (hg σ G1 H1 v k1.s (n.up k1.g) q1) fun σ2 H2 ⟨e2, n2, _⟩ => by
    subst e2
    exact k _ G1 H2 (g.trans k1) n2)
theorem go_ret (h : Pv X e r d) (k : ∀ v G' H', Gr G0 H0 G' H' → Den X.K G' v d → D.rt v H') : Go X (.Return (some e) pos :: rest) D G0 H0 r := fun σ G H g n =>
  wSs_of (pss_cons (ps_ret pe_w) pss_w) (wE_imp (h σ G H g.s n) fun v H1 ⟨G1, k1, q1⟩ => k v G1 H1 (g.trans k1) q1)
theorem go_if {q : Bool} (h : Pt X c r q) (h1 : q = true → Go X ss { D with nx := wSs X rest D } G0 H0 r) (h2 : q = false → Go X sts { D with nx := wSs X rest D } G0 H0 r) : Go X (.If c ss sts pos :: rest) D G0 H0 r := fun σ G H g n =>
  wSs_of (pss_cons (ps_if pt_w pss_w pss_w) pss_w) (wT_imp (h σ G H g.s n) fun b H1 ⟨G1, k1, q1⟩ => by
    subst q1
    cases b with
    | true => exact h1 rfl σ G1 H1 (g.trans k1) (n.up k1.g)
    | false => exact h2 rfl σ G1 H1 (g.trans k1) (n.up k1.g))
/-- if c: .. (no else), the block leaves, or goes on as the rest does -/
theorem go_when {q : Bool} (h : Pt X c r q) (h1 : q = true → Go X ss { D with nx := wSs X rest D } G0 H0 r) (h2 : q = false → Go X rest D G0 H0 r) : Go X (.If c ss [] pos :: rest) D G0 H0 r :=
  go_if h h1 fun z => go_nil (go_back (h2 z))
theorem go_expr (h : Pv X e r d) (k : Go X rest D G0 H0 r) (hs : swapsWith e none pos.line X.env = pure false := by rfl) : Go X (.Expr e pos :: rest) D G0 H0 r := fun σ G H g n =>
  wSs_of (pss_cons (ps_expr pe_w hs) pss_w) (wE_imp (h σ G H g.s n) fun v H1 ⟨G1, k1, q1⟩ => k σ G1 H1 (g.trans k1) (n.up k1.g))
/-- for tg in iter: the word P at each turn -/
theorem go_for {al : Type} {tg iter : Expr} {xs : List al} {enc : al → Dn} (P : Nat → Rho → Prop) (hp : PassesOwn (model X.prog X.w) X.A X.env X.xe) (hc : X.calm = true) (hw : Wk X tg iter r (xs.map enc)) (h0 : P 0 r)
    (hs : ∀ G1 H1, Gr G0 H0 G1 H1 → ∀ i x r1, xs[i]? = some x → P i r1 → ∃ r2 js, Pg X tg r1 (enc x) r2 js ∧ Go X ss { D with nx := fun σ H => ∃ r3, P (i + 1) r3 ∧ Nx X.K G1 H1 r3 σ H, ct := fun σ H => ∃ r3, P (i + 1) r3 ∧ Nx X.K G1 H1 r3 σ H, bk := wSs X rest D } G1 H1 r2)
    (hd : ∀ r1, P xs.length r1 → Go X rest D G0 H0 r1) (hfs : ∀ v, foldedSetIterable iter X.env v = pure v := by intro _; rfl) : Go X (.For tg iter ss [] pos :: rest) D G0 H0 r := by
  obtain ⟨wi, hi, hwi⟩ := hw
  intro σ G H g n
  refine wSs_of (pss_cons (ps_for hp hc hi pg_w pss_w hfs) pss_w) ?_
  refine hwi σ G H g.s n _ fun J G1 H1 k1 hgo hyl hst => ?_
  rw [List.length_map] at hgo hst
  refine ⟨fun i m σ' H' => m = xs.length - i ∧ i ≤ xs.length ∧ ∃ r1 G', P i r1 ∧ Gr G1 H1 G' H' ∧ En X.K G' σ' r1, ⟨xs.length, by simp, Nat.zero_le _, r, G1, h0, Gr.refl k1.s, n.up k1.g⟩, ?_⟩
  rintro i m σ' H' ⟨rfl, hi2, r1, G', hP, k', n'⟩
  by_cases hlt : i < xs.length
  · obtain ⟨x, hx⟩ : ∃ x, xs[i]? = some x := ⟨xs[i], List.getElem?_eq_getElem hlt⟩
    refine .inr ⟨hgo i H' (k'.g.trans k'.s) hlt, fun σ3 H3 => ∃ r3, P (i + 1) r3 ∧ ∃ G3, Gr G1 H1 G3 H3 ∧ En X.K G3 σ3 r3, fun σ3 H3 ⟨r3, q1, G3, q2, q3⟩ => ⟨xs.length - (i + 1), by omega, rfl, hlt, r3, G3, q1, q2, q3⟩, fun v H3 yl => ?_⟩
    obtain ⟨G3, k3, q3⟩ := hyl i G' H' v H3 k'.g k'.s yl (enc x) (by rw [List.getElem?_map, hx]; rfl)
    have kk := k'.trans k3
    obtain ⟨r2, js, hg, hb⟩ := hs G3 H3 ((g.trans k1).trans kk) i x r1 hx hP
    refine wG_imp (hg σ' G3 H3 v k3.s (n'.up k3.g) q3) fun σ2 H4 ⟨e4, n4, _⟩ => ?_
    subst e4
    exact wSs_imp (hb σ2 G3 H4 (Gr.refl k3.s) n4) (fun σ5 H5 ⟨r5, q1, G5, q2, q5⟩ => ⟨r5, q1, G5, kk.trans q2, q5⟩) (fun _ _ z => z) (fun _ _ z => z) (fun σ5 H5 ⟨r5, q1, G5, q2, q5⟩ => ⟨r5, q1, G5, kk.trans q2, q5⟩)
  · have hi3 : i = xs.length := by omega
    subst hi3
    exact .inl ⟨hst _ H' (k'.g.trans k'.s) (Nat.le_refl _), hd r1 hP σ' G' H' ((g.trans k1).trans k') n'⟩
end
end Fb

/-! FbS: len(set(t)), t a tuple of any number of texts: how many unlike ones there are. -/
namespace Fb
open PySem
/-- how many unlike ones, of a list from behind -/
def dcr : List Str → Nat
  | [] => 0
  | x :: l => if l.any (· == x) then dcr l else dcr l + 1
def dcn (l : List Str) : Nat := dcr l.reverse
theorem dcn_snoc (l : List Str) (x : Str) : dcn (l ++ [x]) = if l.any (· == x) then dcn l else dcn l + 1 := by
  unfold dcn
  rw [List.reverse_append]
  show (if l.reverse.any (· == x) then dcr l.reverse else dcr l.reverse + 1) = _
  rw [List.any_reverse]
theorem dcr_le : ∀ l : List Str, dcr l ≤ l.length
  | [] => Nat.le_refl _
  | x :: l => by
    have := dcr_le l
    unfold dcr
    rw [List.length_cons]
    split <;> omega
theorem dcn_le (l : List Str) : dcn l ≤ l.length := by
  have := dcr_le l.reverse
  rw [List.length_reverse] at this
  exact this
theorem dcr_nodup : ∀ l : List Str, dcr l = l.length ↔ l.Nodup
  | [] => by simp [dcr]
  | x :: l => by
    have ih := dcr_nodup l
    have hle := dcr_le l
    rw [List.nodup_cons, ← ih, show dcr (x :: l) = if l.any (· == x) then dcr l else dcr l + 1 from rfl]
    by_cases hx : l.any (· == x) = true
    · rw [if_pos hx, List.length_cons]
      have hm : x ∈ l := by
        obtain ⟨y, hy, e⟩ := List.any_eq_true.mp hx
        rw [beq_iff_eq] at e
        exact e ▸ hy
      exact ⟨fun h => by omega, fun h => absurd hm h.1⟩
    · rw [if_neg hx, List.length_cons]
      have hm : x ∉ l := fun hm => hx (List.any_eq_true.mpr ⟨x, hm, beq_iff_eq.mpr rfl⟩)
      exact ⟨fun h => ⟨hm, by omega⟩, fun h => by rw [h.2]⟩
theorem dcn_nodup (l : List Str) : dcn l = l.length ↔ l.Nodup := by
  have := dcr_nodup l.reverse
  rw [List.length_reverse, (List.reverse_perm l).nodup_iff] at this
  exact this
section
variable {prog : Program} {w : World} {A : Around} {R : Result → Shared → Prop} {I : Addr} {fp wr : List Addr} {G : Array GenState → Array GenState → Prop} {n : Nat} {P : Nat → Value → Prop} {St : Nat → Shared → Prop}
/-- the loop of set(..): one text a turn, known already or new -/
theorem set_turns (W : WalksS prog w A.in1 I fp wr G n P St) (S : Addr) (hSf : S ∉ fp) (xs : List Str) (hsz : xs.length = n) (hn1 : n ≤ 1000) (hval : ∀ i v, P i v → ∃ t, v = .str (xs.getD i Str.empty) t) :
    ∀ (k i : Nat) (s : Shared), n - i = k → i ≤ n → St i s → s.heap.SetOf (PySem.strKind prog w) S (fun k' => (xs.take i).any (· == k')) (dcn (xs.take i)) →
      (∀ s', Moved (S :: wr) G s s' → s'.heap.SetOf (PySem.strKind prog w) S (fun k' => xs.any (· == k')) (dcn xs) → R (.ok (.ret .none)) s') →
      codeAny (model prog w) A (.builtin "set.update.loop" ⟨[.ref S, .ref I], []⟩) R s := by
  have hSw : S ∉ wr := fun h => hSf (W.sub _ h)
  have wider : ∀ b ∈ wr, b ∈ S :: wr := fun b hb => List.mem_cons_of_mem _ hb
  have stay : ∀ {s s' : Shared} {T : Str → Bool} {m : Nat}, Moved wr G s s' → s.heap.SetOf (PySem.strKind prog w) S T m → s'.heap.SetOf (PySem.strKind prog w) S T m := fun hm ⟨o, es, ep, t, ho, more⟩ => ⟨o, es, ep, t, hm.heap S _ hSw ho, more⟩
  intro k
  induction k with
  | zero =>
    intro i s hk hi hst hS hR
    obtain rfl : i = n := by omega
    refine codeAny_builtin PyProof.Rows.F.entry_set_update_loop ?_
    rw [Around.under_plainId PyProof.Rows.F.plain_set_update_loop _]
    refine wpAny_bind (W.done s _ _ hst fun s' hm => ?_)
    have q := stay hm hS
    rw [← hsz, List.take_length] at q
    exact wpAny_pure (hR s' (hm.mono wider) q)
  | succ k ih =>
    intro i s hk hi hst hS hR
    have hlt : i < n := by omega
    refine codeAny_builtin PyProof.Rows.F.entry_set_update_loop ?_
    rw [Around.under_plainId PyProof.Rows.F.plain_set_update_loop _]
    refine wpAny_bind (W.item i s _ _ hlt hst fun v s' hP hst' hm => ?_)
    obtain ⟨t, rfl⟩ := hval i v hP
    have hx : xs[i]? = some (xs.getD i Str.empty) := by
      rw [List.getD_eq_getElem?_getD, List.getElem?_eq_getElem (by omega)]
      rfl
    have hS' := stay hm hS
    have htk : xs.take (i + 1) = xs.take i ++ [xs.getD i Str.empty] := take_succ hx
    refine wpAny_bind (wpAny_holding ?_)
    unfold setAdd
    refine wpAny_holding (wpAny_bind ((PySem.strKind prog w).pyHash (k := xs.getD i Str.empty) (strKind_is _ _ _ _) ?_))
    have hroom : dcn (xs.take i) + 1 < scanBound := by
      have h1 := dcn_le (xs.take i)
      rw [List.length_take] at h1
      unfold scanBound
      omega
    refine wpAny_setAddHashed_of (knd := PySem.strKind prog w) (s := { s' with toks := s'.toks + 1 }) (strKind_is _ _ _ _) rfl hS' hroom fun h' hsb hS2 => ?_
    have hS3 : h'.SetOf (PySem.strKind prog w) S (fun k' => (xs.take (i + 1)).any (· == k')) (dcn (xs.take (i + 1))) := by
      refine PyProof.Rows.SetOf_congr hS2 (fun k' => ?_) ?_
      · rw [htk, List.any_append, List.any_cons, List.any_nil, Bool.or_false]
        congr 1
        rw [Bool.eq_iff_iff, decide_eq_true_iff, beq_iff_eq]
        exact eq_comm
      · rw [htk, dcn_snoc]
    refine wpAny_pure ⟨plainId_quiet PyProof.Rows.F.plain_set_update_loop _, ih (i + 1) _ (by omega) hlt (W.frame _ s' _ _ hst' (Nat.le_succ _) fun b hb o e => ?_) hS3 fun s'' hm'' hS'' => ?_⟩
    · rw [hsb.2 b (fun h : b = S => hSf (by rw [← h]; exact hb))]
      exact e
    · refine hR s'' (Moved.trans W.gtrans ((hm.mono wider).then_heap (Nat.le_succ _) fun b o hb e => ?_) hm'') hS''
      rw [hsb.2 b (fun h : b = S => hb (by rw [h]; exact List.mem_cons_self))]
      exact e
end
section
variable {prog : Program} {w : World} {A : Around} {E : Value → Shared → Prop} {s : Shared}
open PyProof.Rows
/-- the object of a new set -/
abbrev emptySet (led : Bool) : Obj := { cls := .type "set", dict := none, data := .set #[] 0 (.fresh 0 0 led) }
set_option maxHeartbeats 6400000 in
/-- set(t), t a tuple of texts -/
theorem set_of_texts {l : Addr} {items : Array Value} {xs : List Str} {Q : Value → Shared → Prop} (hh : A.handled = none) (hl : s.heap.IsTuple l items) (hi : PyProof.Rows.StrsAre items.toList xs) (hn1 : xs.length ≤ 1000)
    (h : ∀ (h' : Heap) (tk : Nat), h'.SetOf (PySem.strKind prog w) s.heap.objs.size (fun k' => xs.any (· == k')) (dcn xs) → (∀ b o, b < s.heap.objs.size → s.heap.get? b = some o → h'.get? b = some o) → Q (.ref s.heap.objs.size) { s with heap := h', toks := tk }) :
    wpAny (model prog w) A (call (.type "set") [.ref l]) Q E s := by
  have hmade := PySem.F.called_set.made
  have hsub := PySem.F.called_set.sub
  obtain ⟨c, tl, hmro⟩ := PySem.F.called_set.mro
  have hT1 := PySem.F.called_set.notType
  have hT2 := PySem.F.called_set.canCreate
  have hT3 := PySem.F.typeCall_set_1 (.ref l)
  refine wpAny_call (codeAny_of_tree ?_)
  show wpAny _ _ (callAny (.type "set") _) _ _ _
  refine wpAny_pure ⟨Code.quiet_builtin _ (by decide +kernel), codeAny_builtin PySem.F.entry_type_call ?_⟩
  rw [Around.under_plain (weight_type_call_type "set" [.ref l] []) rfl]
  repeat (any_goals (first | assumption | wp_step))
  -- the new, empty set
  refine codeAny_mono (code_set_new_1 (.ref l) (E := E) (Q₁ := fun z s1 => ∃ led : Bool, z = .ref s.heap.objs.size ∧ s1 = { s with heap := s.heap.push (emptySet led) }) fun led => ⟨led, rfl, rfl⟩) fun r s1 hr => ?_
  cases r with
  | error e => exact hr
  | ok fl =>
    cases fl with
    | ret z =>
      obtain ⟨led, rfl, rfl⟩ := hr
      have hS : (s.heap.push (emptySet led)).get? s.heap.objs.size = some (emptySet led) := Heap.get?_push_size _ rfl
      have hT : Shared.TypeIs { s with heap := s.heap.push (emptySet led) } (.ref s.heap.objs.size) "set" := ⟨_, hS, rfl⟩
      have hli := PySem.F.called_set.init.lookup
      have hbi := PySem.F.called_set.init.bind (.ref s.heap.objs.size)
      repeat (any_goals (first | assumption | wp_step))
      refine codeAny_mono (codeAny_call_builtin (R := wants (fun r s2 => r = .none ∧ ∃ h' tk, s2 = { s with heap := h', toks := tk } ∧ h'.SetOf (PySem.strKind prog w) s.heap.objs.size (fun k' => xs.any (· == k')) (dcn xs) ∧
          (∀ b o, b < s.heap.objs.size → s.heap.get? b = some o → h'.get? b = some o)) E) PySem.F.called_set.init.plain PySem.F.entry_set_init (check_set_init_1 hT ?_)) fun r2 s2 hr2 => ?_
      · obtain ⟨⟨oc, od, odt, osl⟩, hol, hcl, nl, hdl⟩ := hl
        simp only at hcl hdl
        subst hcl hdl
        have hol2 : (s.heap.push (emptySet led)).get? l = some { cls := .type "tuple", dict := od, data := .seq items nl, slots := osl } := Heap.get?_push_of_some _ hol
        have hsls := PySem.F.sub_tuple_set
        have hslf := PySem.F.sub_tuple_frozenset
        have hne : (Value.type "tuple" == Value.type "dict") = false := by decide
        have hl1 : (s.heap.push (emptySet led)).IsTuple l items := ⟨_, hol2, rfl, nl, rfl⟩
        unfold Builtin.«set.__init__» noKeywords Builtin.Frozenset.updateFrom
        generalize hPI : pyIter = PI
        wp_walk
        subst hPI
        refine wpAny_pyIter_tuple (s := { s with heap := s.heap.push (emptySet led) }) hl1 ?_
        refine wpAny_bind (wpAny_runValue ?_)
        have hlS : l < s.heap.objs.size := Heap.lt_size hol
        have hz : (s.heap.push (emptySet led)).objs.size = s.heap.objs.size + 1 := Heap.size_push _ _
        have hval : ∀ (i : Nat) (v : Value), items[i]? = some v → ∃ t, v = .str (xs.getD i Str.empty) t := fun i v hv => SS.strs_at hi i v (by rw [Array.getElem?_toList]; exact hv)
        have hsz : xs.length = items.size := by rw [← StrsAre.len_eq hi, Array.length_toList]
        refine set_turns ((Walks.tuple (by simp [hh]) _ l (by rw [hz]; exact Nat.ne_of_lt (Nat.lt_succ_of_lt hlS)) items).toS) s.heap.objs.size ?hSf xs hsz (by rw [← hsz]; exact hn1) hval (items.size - 0) 0 _ (by omega) (Nat.zero_le _) ⟨⟨_, Heap.get?_push_size _ rfl, rfl, rfl⟩, hl1.push _⟩ ?hS0 ?hR
        case hSf =>
          rw [hz]
          simp only [List.mem_cons, List.mem_singleton, List.not_mem_nil, or_false, not_or]
          exact ⟨Nat.ne_of_lt (Nat.lt_succ_self _), Nat.ne_of_gt hlS⟩
        case hS0 =>
          have hget := Heap.get?_push_of_some { cls := .type "tuple_iterator", data := .fields #[.ref l, .int 0 0] } hS
          exact SetOf_congr ((setObjOf_fresh (knd := PySem.strKind prog w) led).setOf hget (by unfold scanBound; omega)) (fun _ => rfl) rfl
        case hR =>
          rintro ⟨h', g', d', tk', os'⟩ hm hS'
          obtain rfl : g' = s.gens := hm.gens
          obtain rfl : d' = s.drawn := hm.drawn
          obtain rfl : os' = s.os := hm.os
          show wpAny _ _ _ _ _ _
          refine wpAny_pure ?_
          show wpAny _ _ (ret Value.none) _ _ _
          refine wpAny_pure ⟨rfl, h', tk', rfl, hS', fun b o hb e => ?_⟩
          refine hm.heap b o ?_ (Heap.get?_push_of_some _ (Heap.get?_push_of_some _ e))
          rw [hz]
          simp only [List.mem_cons, List.mem_singleton, List.not_mem_nil, or_false, not_or]
          exact ⟨Nat.ne_of_lt hb, Nat.ne_of_lt (Nat.lt_succ_of_lt hb)⟩
      · cases r2 with
        | error e => exact hr2
        | ok fl2 =>
          cases fl2 with
          | ret r =>
            obtain ⟨rfl, h', tk, rfl, hS', hk'⟩ := hr2
            repeat (any_goals (first | assumption | wp_step))
            exact h _ _ hS' hk'
          | _ => exact hr2.elim
    | _ => exact hr.elim
end
section
open L2 Evl
variable {X : Cx} {a : Expr} {r : Rho} {pos p p2 q : Pos}
/-- len(set(t)) -/
theorem pv_lenSet {xs : List Str} (hm : X.mg "len" = none) (hm2 : X.mg "set" = none) (ha : Pv X a r (.d (.tuple (xs.map PyData.str)))) (hl : xs.length ≤ 1000) (hc : X.calm = true := by rfl) (hg : Gl X "len" := by rfl) (hg2 : Gl X "set" := by rfl)
    (na : starEach [a] X.env = (false, eval a X.env) :: starEach [] X.env := by rfl) : Pv X (.Call (.Name "len" p) [.Call (.Name "set" p2) [a] [] q] [] pos) r (.d (.int (dcn xs))) := fun σ G H g n pins s I => by
  refine PyProof.Rows.Call_ (ld_blt I hg hm PySem.boot_len ?_)
  refine PyProof.Rows.callWith_builtin1 (PyProof.Rows.args_cons ?_ rfl) rfl rfl
  refine PyProof.Rows.Call_ (ld_blt I hg2 hm2 PyProof.Rows.boot_set ?_)
  refine PyProof.Rows.callWith_type1 (PyProof.Rows.args_cons (thn (ha σ G H g n pins s I) fun v s1 ⟨x, H1, I1, r1, G1, k1, q1⟩ => PyProof.Rows.args_nil ?_) na) na rfl
  cases q1 with
  | tup h1 h2 =>
    have hv := strs_flat h2
    subst hv
    cases r1
    obtain ⟨its, rv, pl, hz⟩ := I1.tuple (ex_t k1.s h1.sq)
    refine set_of_texts (I1.ok.hd hc) pl (by simpa using strsAre_of rv) hl fun h' tk hS hk => ?_
    refine PyProof.Rows.args_nil ?_
    obtain ⟨o, es, ep, t, ho, hex, hd, _, _, _, hf, hn⟩ := hS
    have I2 : L2.Inv X pins σ H1 { s1 with heap := h', toks := tk } := I1.kept fun b o e => hk b o (Heap.lt_size e) e
    have hle := dcn_le xs
    exact call_len_set ho hex hd hf (by rw [hn]; omega) ⟨.int (dcn xs), H1, I2.tok _, ⟨_, by rw [hn]⟩, G1, k1, Dp.int _⟩
end
end Fb

/-! FbD: defs and their promises, errors, attributes, what is owned. -/
namespace Fb
open PySem PySem.Spec PyProof.Rows L2 Evl
section
variable {P : Program} {w : World} {K : PySem.W.Frag} {mg : Str → Option Value} {base : Heap}
/-- a def keeps a pure promise -/
theorem okP {x qual : Str} {st : Stmt} {f : Addr} {fd : FuncData} {N ps : List Str} {k : Nat} {R : List Dn → Dn → Prop} (F : Fun K x qual st f fd) (S : FnScope N ps (defScope st)) (hR : ∀ ds d, R ds d → ds.length = ps.length)
    (body : ∀ (cdv : Value) (A : Around) (outer : List Env) (s : Shared) (H : Hp) (Q : VK) (E : XK) (ds : List Dn) (d : Dn) (G : Hp), Room k (A.deeper (envOfC qual (defScope st) s.heap.objs.size f cdv)) → R ds d → (∀ v G' H', Gr G H G' H' → Den K G' v d → Q v H') →
      Go (cxOf (L2.CX P w) P w K mg base N qual (defScope st) f cdv A outer s H E) (defBody st) { nx := fun _ H' => Q .non H', rt := Q } G H (ds.map some ++ List.replicate (N.length - ds.length) none)) : FnOk P w K mg base (L2.CX P w) (k + 1) f fd ps (spR K R noB) := by
  refine F.okX S ?_ (fun cdv A outer s H vs Q E hr h => ⟨_, pss_w, ?_⟩)
  · rintro vs H Q E ⟨ds, G, g, hd, ⟨d, hr, k⟩ | ⟨C, hb, k⟩⟩
    · exact (Paired.length hd).trans (hR _ _ hr)
    · exact hb.elim
  · obtain ⟨ds, G, g, hd, ⟨d, hR', k⟩ | ⟨C, hb, k⟩⟩ := h
    · refine go_in g hd ?_
      rw [Paired.length hd]
      exact body cdv A outer s H Q E ds d G hr hR' k
    · exact hb.elim
/-- .. or raises -/
theorem okE {x qual : Str} {st : Stmt} {f : Addr} {fd : FuncData} {N ps : List Str} {k : Nat} {R : List Dn → Dn → Prop} {B : List Dn → Addr → Prop} (F : Fun K x qual st f fd) (S : FnScope N ps (defScope st)) (hR : ∀ ds d, R ds d → ds.length = ps.length) (hB : ∀ ds C, B ds C → ds.length = ps.length)
    (body : ∀ (cdv : Value) (A : Around) (outer : List Env) (s : Shared) (H : Hp) (Q : VK) (E : XK) (ds : List Dn) (d : Dn) (G : Hp), Room k (A.deeper (envOfC qual (defScope st) s.heap.objs.size f cdv)) → R ds d → (∀ v G' H', Gr G H G' H' → Den K G' v d → Q v H') →
      Go (cxOf (L2.CX P w) P w K mg base N qual (defScope st) f cdv A outer s H E) (defBody st) { nx := fun _ H' => Q .non H', rt := Q } G H (ds.map some ++ List.replicate (N.length - ds.length) none))
    (bad : ∀ (cdv : Value) (A : Around) (outer : List Env) (s : Shared) (H : Hp) (Q : VK) (E : XK) (ds : List Dn) (C : Addr) (G : Hp), Room k (A.deeper (envOfC qual (defScope st) s.heap.objs.size f cdv)) → B ds C → (∀ G' H', Gr G H G' H' → E (.ref C) none H') →
      Go (cxOf (L2.CX P w) P w K mg base N qual (defScope st) f cdv A outer s H E) (defBody st) { nx := fun _ H' => Q .non H', rt := Q } G H (ds.map some ++ List.replicate (N.length - ds.length) none)) : FnOk P w K mg base (L2.CX P w) (k + 1) f fd ps (spR K R B) := by
  refine F.okX S ?_ (fun cdv A outer s H vs Q E hr h => ⟨_, pss_w, ?_⟩)
  · rintro vs H Q E ⟨ds, G, g, hd, ⟨d, hr, k⟩ | ⟨C, hb, k⟩⟩
    · exact (Paired.length hd).trans (hR _ _ hr)
    · exact (Paired.length hd).trans (hB _ _ hb)
  · obtain ⟨ds, G, g, hd, ⟨d, hR', k⟩ | ⟨C, hb, k⟩⟩ := h
    · refine go_in g hd ?_
      rw [Paired.length hd]
      exact body cdv A outer s H Q E ds d G hr hR' k
    · refine go_in g hd ?_
      rw [Paired.length hd]
      exact bad cdv A outer s H Q E ds C G hr hb k
theorem fc_mk {x : Str} {f : Addr} {fd : FuncData} {ps : List Str} {k : Nat} {sp : Sp} (ok : FnOk P w K mg base (L2.CX P w) k f fd ps sp) (hm : mg x = some (.ref f)) (hk : PySem.W.keepIn K (.ref f) = true) (hb : Binds K fd ps []) : Fc P w K mg base k x sp := ⟨f, fd, ps, ok, hm, hk, hb⟩
end
/-- an own error class over ValueError, without a body of its own -/
structure Ec (K : PySem.W.Frag) (mg : Str → Option Value) (x : Str) (C : Addr) : Prop where
  gP : mg x = some (.ref C)
  xP : PySem.W.excIn K C [.type "ValueError", .type "Exception", .type "BaseException", .type "object"] "ValueError.__new__" = true
  kP : PySem.W.keepIn K (.ref C) = true
  bP : PySem.W.subIn K (.ref C) (.type "BaseException") = some true
  tP : PySem.W.typeIn K (.ref C) = some (.type "type")
section
variable {X : Cx} {a b c e o : Expr} {es : List Expr} {sts ss rest : List Stmt} {r : Rho} {d d1 d2 d3 : Dn} {pos p p1 p2 p3 p4 : Pos} {D : Ends} {G0 H0 : Hp} {W : WX}
theorem go_raise {x m : Str} {j : Nat} {C : Addr} (T : Ec X.K X.mg x C) (tk : Takes X W) (h : ∀ σ G H, Gr G0 H0 G H → En X.K G σ r → W (.ref C) none σ H) (hc : X.calm = true := by rfl) (hg : Gl X x := by rfl) (hdb : (x == ("__debug__" : Str)) = false := by decide) :
    Go X (.Raise (some (.Call (.Name x p) [.Constant (.str m) j p2] [] p3)) none p4 :: rest) D G0 H0 r := fun σ G H g n =>
  wSs_of (pss_cons (ps_raise hc tk (pmk_own PySem.F.excBase_ValueError T.xP T.gP T.kP (raises_own T.bP T.tP) hg hdb)) pss_w) (h σ G H g n)
/-- a call, as a statement, that raises -/
theorem go_doX {x : Str} {k j : Nat} {R : List Dn → Dn → Prop} {B : List Dn → Addr → Prop} {ds : List Dn} {C : Addr} (F : Fc X.prog X.w X.K X.mg X.base k x (spR X.K R B)) (hr : Room j X.A) (ha : Pa X (e :: es) r ds) (hB : B ds C) (tk : Takes X W) (h : ∀ σ G H, Gr G0 H0 G H → En X.K G σ r → W (.ref C) none σ H)
    (hk : k ≤ j := by decide) (hg : Gl X x := by rfl) (hs : swapsWith (.Call (.Name x p) (e :: es) [] pos) none p2.line X.env = pure false := by rfl)
    (hdb : (x == ("__debug__" : Str)) = false := by decide) (he : starEach (e :: es) X.env = (false, eval e X.env) :: starEach es X.env := by rfl) (hpl : (backTo pos (starEach es X.env)).any (·.1) = false := by rfl) :
    Go X (.Expr (.Call (.Name x p) (e :: es) [] pos) p2 :: rest) D G0 H0 r := fun σ G H g n => by
  obtain ⟨f, fd, ps, F, hm, hkp, hb⟩ := F.ex
  refine wSs_of (pss_cons (ps_expr (pe_callS F (hr.mono hk) hg hm hkp hb (fun σ => passAt tk σ) pa_w hdb he hpl) hs) pss_w) (wA_imp (ha σ G H g.s n) fun vs H1 ⟨G1, k1, q1⟩ => ?_)
  exact ⟨ds, G1, k1.s, q1, .inr ⟨C, hB, fun G2 H2 k2 => h σ G2 H2 ((g.trans k1).trans k2) ((n.up k1.g).up k2.g)⟩⟩

/-! ### attributes -/
theorem fld_get {K : PySem.W.Frag} {H : Hp} {f : Str} {fd : Fd} : ∀ {ws : List (Str × V)} {fs : List (Str × Fd)}, Paired (fun (p : Str × V) (q : Str × Fd) => p.1 = q.1 ∧ DenF K H p.2 q.2) ws fs → fs.lookup f = some fd → ∃ v, ws.lookup f = some v ∧ DenF K H v fd
  | _, _, .nil, h => by cases h
  | (a, v) :: ws, (b, g) :: fs, .cons ⟨h1, h2⟩ t, h => by
    have h1' : a = b := h1
    subst h1'
    rw [List.lookup_cons] at h ⊢
    cases q : f == a with
    | true =>
      rw [q] at h
      cases h
      exact ⟨v, rfl, h2⟩
    | false =>
      rw [q] at h
      exact fld_get t h
theorem denF_dn {K : PySem.W.Frag} {H : Hp} {v : V} : ∀ {fd : Fd}, DenF K H v fd → Den K H v fd.dn
  | .d _, h => h
  | .t _, h => h
theorem pv_fld {q C : Addr} {fs : List (Str × Fd)} {f : Str} {fd : Fd} (ho : Pv X o r (.ob q C fs)) (hc : Cls X.K C) (hn : NoAttr X.K C f) (hl : fs.lookup f = some fd) (hb : attributeBase o f X.env (eval o X.env) = eval o X.env := by rfl) : Pv X (.Attribute o f pos) r fd.dn := fun σ G H g n =>
  wE_of (pe_fld pe_w hb) (wE_imp (ho σ G H g n) fun x H1 ⟨G1, k1, q1⟩ => by
    obtain ⟨dx, ws, rfl, h1, h2⟩ := q1
    obtain ⟨v, hv, hd⟩ := fld_get h2 hl
    exact ⟨q, C, dx, ws, v, rfl, k1.s _ _ h1, hc, hn, hv, G1, k1, denF_dn hd⟩)
end

/-! ### what is owned: objects that the environment does not lean on -/
mutual
/-- no list within -/
def imm : PyData → Bool
  | .list _ => false
  | .dict _ => false
  | .tuple xs => immAll xs
  | _ => true
def immAll : List PyData → Bool
  | [] => true
  | x :: xs => imm x && immAll xs
end
theorem immAll_iff : ∀ {xs : List PyData}, immAll xs = true ↔ ∀ x ∈ xs, imm x = true
  | [] => by simp [immAll]
  | x :: xs => by
    rw [immAll, Bool.and_eq_true, immAll_iff]
    simp
section
variable {K : PySem.W.Frag} {G G' H H2 : Hp}
mutual
/-- such a datum stands as long as the tuples do -/
theorem dp_imm (k : ∀ a xs ds, TupAt K G a xs ds → TupAt K G' a xs ds) : ∀ (d : PyData) (v : V), imm d = true → Dp K G v d → Dp K G' v d
  | .none, _, _, h => by cases h; exact .non
  | .bool _, _, _, h => by cases h; exact .bl _
  | .int _, _, _, h => by cases h; exact .int _
  | .str _, _, _, h => by cases h; exact .str _
  | .list _, _, hi, _ => by cases hi
  | .tuple ds, _, hi, h => by
    cases h with
    | tup h1 h2 => exact .tup (k _ _ _ h1) (dpAll_imm k ds _ (by simpa [imm] using hi) h2)
  | .dict _, _, hi, _ => by cases hi
theorem dpAll_imm (k : ∀ a xs ds, TupAt K G a xs ds → TupAt K G' a xs ds) : ∀ (ds : List PyData) (vs : List V), immAll ds = true → DpAll K G vs ds → DpAll K G' vs ds
  | [], _, _, h => by cases h; exact .nil
  | d :: ds, _, hi, h => by
    rw [immAll, Bool.and_eq_true] at hi
    cases h with
    | cons h1 h2 => exact .cons (dp_imm k d _ hi.1 h1) (dpAll_imm k ds _ hi.2 h2)
end
/-- G and the objects at os as H has them; G without the objects at os -/
def plus (G H : Hp) (os : List Addr) : Hp := fun a => if a ∈ os then H a else G a
def minus (G : Hp) (os : List Addr) : Hp := fun a => if a ∈ os then none else G a
theorem plus_in {os : List Addr} {a : Addr} (h : a ∈ os) : plus G H os a = H a := by unfold plus; rw [if_pos h]
theorem plus_out {os : List Addr} {a : Addr} (h : a ∉ os) : plus G H os a = G a := by unfold plus; rw [if_neg h]
theorem minus_in {os : List Addr} {a : Addr} (h : a ∈ os) : minus G os a = none := by unfold minus; rw [if_pos h]
theorem minus_out {os : List Addr} {a : Addr} (h : a ∉ os) : minus G os a = G a := by unfold minus; rw [if_neg h]
theorem plus_g {os : List Addr} (hG : ∀ a ∈ os, G a = none) : Ex G (plus G H os) := fun a o h => by
  have hn : a ∉ os := fun z => by rw [hG a z] at h; cases h
  rw [plus_out hn]
  exact h
theorem plus_s {os : List Addr} (e : Ex G H) : Ex (plus G H os) H := fun a o h => by
  by_cases hn : a ∈ os
  · rw [plus_in hn] at h; exact h
  · rw [plus_out hn] at h; exact e a o h
theorem own_back {os : List Addr} {G2 : Hp} (hG : ∀ a ∈ os, G a = none) (k : Gr (plus G H os) H G2 H2) : Gr G H (minus G2 os) H2 := by
  refine ⟨fun a o h => ?_, fun a o h => ?_, k.h, fun a h1 h2 => ?_⟩
  · have hn : a ∉ os := fun z => by rw [hG a z] at h; cases h
    rw [minus_out hn]
    exact k.g a o (by rw [plus_out hn]; exact h)
  · by_cases hn : a ∈ os
    · rw [minus_in hn] at h; cases h
    · rw [minus_out hn] at h; exact k.s a o h
  · by_cases hn : a ∈ os
    · rw [minus_in hn] at h2; exact absurd rfl h2
    · rw [minus_out hn] at h2
      exact k.f a (by rw [plus_out hn]; exact h1) h2
/-- what is no tuple there may go -/
theorem minus_t {os : List Addr} {G2 : Hp} (h : ∀ a ∈ os, ∀ xs, ¬ Rd G2 a (.tup xs)) : ∀ a xs ds, TupAt K G2 a xs ds → TupAt K (minus G2 os) a xs ds := fun a xs ds q => by
  rcases q with q | ⟨q, qs⟩
  · have hn : a ∉ os := fun z => h a z xs (.inl q)
    exact .inl (by rw [minus_out hn]; exact q)
  · refine .inr ⟨?_, qs⟩
    rcases q with q | q
    · have hn : a ∉ os := fun z => h a z xs q
      refine .inl ?_
      rcases q with q | ⟨o, q⟩
      · exact .inl (by rw [minus_out hn]; exact q)
      · exact .inr ⟨o, by rw [minus_out hn]; exact q⟩
    · exact .inr q
end
end Fb

/-! FbE: == of ints and of texts; .get of a written dict; "".join; is of truth values. -/
namespace Fb
open PySem PySem.Spec PyProof.Rows L2 Evl
section
variable {X : Cx} {a b c e f o : Expr} {es : List Expr} {r : Rho} {d d1 d2 d3 : Dn} {pos p p1 p2 apos cpos : Pos}
theorem pv_gint {x : Str} {i : Int} {t : Tok} (hm : X.mg x = some (.int i t)) (hg : Gl X x := by rfl) (hdb : (x == ("__debug__" : Str)) = false := by decide) : Pv X (.Name x pos) r (.d (.int i)) := pv_glob (v := .int i) hm ⟨t, rfl⟩ (fun _ => Dp.int i) hg hdb
theorem pv_gstr {x : Str} {i : Str} {t : Tok} (hm : X.mg x = some (.str i t)) (hg : Gl X x := by rfl) (hdb : (x == ("__debug__" : Str)) = false := by decide) : Pv X (.Name x pos) r (.d (.str i)) := pv_glob (v := .str i) hm ⟨t, rfl⟩ (fun _ => Dp.str i) hg hdb
theorem pv_gref {x : Str} {q : Addr} {y : PyData} (hm : X.mg x = some (.ref q)) (hd : ∀ H, Dp X.K H (.ref q) y) (hg : Gl X x := by rfl) (hdb : (x == ("__debug__" : Str)) = false := by decide) : Pv X (.Name x pos) r (.d y) := pv_glob (v := .ref q) hm rfl hd hg hdb
theorem eqI_op {i j : Int} : Op2 X.K rEq (.d (.int i)) (.d (.int j)) (.d (.bool (decide (i = j)))) := fun x y G H Q g h1 h2 k => by
  rw [den_int h1, den_int h2]
  refine ⟨rfl, k _ G H (Gr.refl g) ?_⟩
  rw [show decide (V.int i = V.int j) = decide (i = j) from by rw [Bool.eq_iff_iff]; simp]
  exact Dp.bl _
theorem neI_op {i j : Int} : Op2 X.K rNe (.d (.int i)) (.d (.int j)) (.d (.bool (!decide (i = j)))) := fun x y G H Q g h1 h2 k => by
  rw [den_int h1, den_int h2]
  refine ⟨rfl, k _ G H (Gr.refl g) ?_⟩
  rw [show decide (V.int i = V.int j) = decide (i = j) from by rw [Bool.eq_iff_iff]; simp]
  exact Dp.bl _
theorem eqS_op {i j : Str} : Op2 X.K rEq (.d (.str i)) (.d (.str j)) (.d (.bool (decide (i = j)))) := fun x y G H Q g h1 h2 k => by
  rw [den_str h1, den_str h2]
  refine ⟨rfl, k _ G H (Gr.refl g) ?_⟩
  rw [show decide (V.str i = V.str j) = decide (i = j) from by rw [Bool.eq_iff_iff]; simp]
  exact Dp.bl _
theorem neS_op {i j : Str} : Op2 X.K rNe (.d (.str i)) (.d (.str j)) (.d (.bool (!decide (i = j)))) := fun x y G H Q g h1 h2 k => by
  rw [den_str h1, den_str h2]
  refine ⟨rfl, k _ G H (Gr.refl g) ?_⟩
  rw [show decide (V.str i = V.str j) = decide (i = j) from by rw [Bool.eq_iff_iff]; simp]
  exact Dp.bl _
theorem eqB_op {i j : Bool} : Op2 X.K rEq (.d (.bool i)) (.d (.bool j)) (.d (.bool (decide (i = j)))) := fun x y G H Q g h1 h2 k => by
  rw [den_bool h1, den_bool h2]
  refine ⟨rfl, k _ G H (Gr.refl g) ?_⟩
  rw [show decide (V.bl i = V.bl j) = decide (i = j) from by rw [Bool.eq_iff_iff]; simp]
  exact Dp.bl _
theorem pv_eqI {i j : Int} (ha : Pv X a r (.d (.int i))) (hb : Pv X b r (.d (.int j))) : Pv X (.Compare a [.Eq] [b] pos) r (.d (.bool (decide (i = j)))) := pv_cmp op_eq ha hb eqI_op (nomark _)
theorem pt_eqI {i j : Int} (ha : Pv X a r (.d (.int i))) (hb : Pv X b r (.d (.int j))) : Pt X (.Compare a [.Eq] [b] pos) r (decide (i = j)) := pt_cmp op_eq ha hb eqI_op (nomark _)
theorem pv_neI {i j : Int} (ha : Pv X a r (.d (.int i))) (hb : Pv X b r (.d (.int j))) : Pv X (.Compare a [.NotEq] [b] pos) r (.d (.bool (!decide (i = j)))) := pv_cmp op_ne ha hb neI_op (nomark _)
theorem pt_neI {i j : Int} (ha : Pv X a r (.d (.int i))) (hb : Pv X b r (.d (.int j))) : Pt X (.Compare a [.NotEq] [b] pos) r (!decide (i = j)) := pt_cmp op_ne ha hb neI_op (nomark _)
theorem pv_eqS {i j : Str} (ha : Pv X a r (.d (.str i))) (hb : Pv X b r (.d (.str j))) : Pv X (.Compare a [.Eq] [b] pos) r (.d (.bool (decide (i = j)))) := pv_cmp op_eq ha hb eqS_op (nomark _)
theorem pt_eqS {i j : Str} (ha : Pv X a r (.d (.str i))) (hb : Pv X b r (.d (.str j))) : Pt X (.Compare a [.Eq] [b] pos) r (decide (i = j)) := pt_cmp op_eq ha hb eqS_op (nomark _)
theorem pt_neS {i j : Str} (ha : Pv X a r (.d (.str i))) (hb : Pv X b r (.d (.str j))) : Pt X (.Compare a [.NotEq] [b] pos) r (!decide (i = j)) := pt_cmp op_ne ha hb neS_op (nomark _)
theorem pv_eqB {i j : Bool} (ha : Pv X a r (.d (.bool i))) (hb : Pv X b r (.d (.bool j))) : Pv X (.Compare a [.Eq] [b] pos) r (.d (.bool (decide (i = j)))) := pv_cmp op_eq ha hb eqB_op (nomark _)
theorem pt_eqB {i j : Bool} (ha : Pv X a r (.d (.bool i))) (hb : Pv X b r (.d (.bool j))) : Pt X (.Compare a [.Eq] [b] pos) r (decide (i = j)) := pt_cmp op_eq ha hb eqB_op (nomark _)
theorem pv_isB {i j : Bool} (ha : Pv X a r (.d (.bool i))) (hb : Pv X b r (.d (.bool j))) : Pv X (.Compare a [.Is] [b] pos) r (.d (.bool (decide (i = j)))) :=
  pv_cmp op_isBl ha hb (fun x y G H Q g h1 h2 k => ⟨i, j, den_bool h1, den_bool h2, k _ G H (Gr.refl g) (Dp.bl _)⟩) (nomark _)
theorem pt_isB {i j : Bool} (ha : Pv X a r (.d (.bool i))) (hb : Pv X b r (.d (.bool j))) : Pt X (.Compare a [.Is] [b] pos) r (decide (i = j)) :=
  pt_cmp op_isBl ha hb (fun x y G H Q g h1 h2 k => ⟨i, j, den_bool h1, den_bool h2, k _ G H (Gr.refl g) (Dp.bl _)⟩) (nomark _)
theorem pt_notB {i j : Bool} (ha : Pv X a r (.d (.bool i))) (hb : Pv X b r (.d (.bool j))) : Pt X (.Compare a [.IsNot] [b] pos) r (!decide (i = j)) :=
  pt_cmp op_notBl ha hb (fun x y G H Q g h1 h2 k => ⟨i, j, den_bool h1, den_bool h2, k _ G H (Gr.refl g) (Dp.bl _)⟩) (nomark _)
/-- a written dict with text keys and int values: what .get tells -/
structure Kd (K : PySem.W.Frag) (w : World) (d : Addr) (get : Str → Option Int) : Prop where
  ex : ∃ es n, L2.KDict K w d es n ∧ ∀ x, PySem.W.nsIn K d x = some none ∧ get x = none ∨ ∃ i t, PySem.W.nsIn K d x = some (some (.int i t)) ∧ get x = some i
/-- D.get(e, f), D a name of the module -/
theorem pv_kget {x : Str} {q : Addr} {get : Str → Option Int} {y : Str} {j : Int} (D : Kd X.K X.w q get) (hm : X.mg x = some (.ref q)) (ha : Pv X e r (.d (.str y))) (hb : Pv X f r (.d (.int j))) (m : M2 X (.Name x p) "get" apos e f cpos) (hg : Gl X x := by rfl) (hdb : (x == ("__debug__" : Str)) = false := by decide) :
    Pv X (.Call (.Attribute (.Name x p) "get" apos) [e, f] [] cpos) r (.d (.int ((get y).getD j))) := fun σ G H g n pins s I => by
  obtain ⟨es, nn, KD, hget⟩ := D.ex
  refine wpAny_Call_method m.base m.few m.line PySem.F.plainAttrs_dict PySem.F.slot_dict_get PySem.F.type_dict_get (ld_glob I hg hm ?_ hdb)
  have hM := PySem.W.mapOf_K (prog := X.prog) (w := X.w) I.kIn KD.at_ KD.lit
  have hO := I.kIn _ _ KD.at_
  refine ⟨hM.typeIs, fun a2 e2 => (by cases e2; exact ⟨_, hO, rfl⟩), ?_⟩
  rw [m.trees]
  refine Calls.callWith_builtin rfl (Calls.evalArgs_plain (Calls.spliced_cons (thn (ha σ G H g n pins s I) fun iv s2 ⟨y', H2, I2, ry, G2, k2, q2⟩ =>
    Calls.spliced_cons (thn (hb σ G2 H2 k2.s (n.up k2.g) pins s2 I2) fun fv s3 ⟨z, H3, I3, rz, G3, k3, q3⟩ => Calls.spliced_nil ?_))))
  rw [den_str q2] at ry
  rw [den_int q3] at rz
  obtain ⟨t, rfl⟩ := ry
  obtain ⟨t', rfl⟩ := rz
  have hM3 := PySem.W.mapOf_K (prog := X.prog) (w := X.w) I3.kIn KD.at_ KD.lit
  refine call_meetsIn PySem.F.slot_dict_get hM3.typeIs PySem.F.entry_dict_get (PySem.F.args_dict_get_3 _ _ _) (meets_dict_get_default (PySem.strKind X.prog X.w) q (PySem.strKind_is X.prog X.w y t) KD.low (.int j t')) ⟨_, hM3, ?_⟩
  rcases hget y with ⟨h1, h2⟩ | ⟨i, u, h1, h2⟩
  · rw [PySem.W.find_K KD.at_ h1, h2]
    exact ⟨.int j, H3, I3.tok _, ⟨t', rfl⟩, G3, k2.trans k3, Dp.int j⟩
  · rw [PySem.W.find_K KD.at_ h1, h2]
    exact ⟨.int i, H3, I3.tok _, ⟨u, rfl⟩, G3, k2.trans k3, Dp.int i⟩
/-- sep.join(list of texts) -/
theorem pv_join {z : Str} {ss : List Str} (ho : Pv X o r (.d (.str z))) (ha : Pv X e r (.d (.list (ss.map PyData.str)))) (hl : (ss.map (·.length)).sum + ss.length * z.length ≤ 16777216) (hs : starEach [e] X.env = [(false, eval e X.env)] := by rfl) (hbase : attributeBase o "join" X.env (eval o X.env) = eval o X.env := by rfl) (hline : (apos.endLine == pos.line) = true := by rfl) :
    Pv X (.Call (.Attribute o "join" apos) [e] [] pos) r (.d (.str (Txt.join z ss))) := fun σ G H g n =>
  wE_of (pe_join pe_w pe_w hs hbase hline) (wE_imp (ho σ G H g n) fun x H1 ⟨G1, k1, q1⟩ => ⟨⟨z, den_str q1⟩, wE_imp (ha σ G1 H1 k1.s (n.up k1.g)) fun y H2 ⟨G2, k2, q2⟩ => by
    cases q2 with
    | lst h1 h2 =>
      have hv := strs_flat h2
      subst hv
      exact ⟨z, _, ss, den_str q1, rfl, .inl (.inl (ex_rd k2.s h1)), hl, G2, k1.trans k2, Dp.str _⟩⟩)
end
end Fb

/-! FbT: dicts whose keys are tuples: in, items, get, dict(..), walks, d[k] = v. -/
namespace Fb
open PySem PySem.Spec PyProof.Rows L2 Evl
/-! ### plain dicts -/
section
variable {κ α β : Type} [DecidableEq κ]
def putA (kvs : List (κ × α)) (k : κ) (v : α) : List (κ × α) := if (kvs.any fun kv => decide (kv.1 = k)) = true then kvs.map (fun kv => if kv.1 = k then (kv.1, v) else kv) else kvs ++ [(k, v)]
def getA (kvs : List (κ × α)) (k : κ) : Option α := (kvs.find? fun kv => decide (kv.1 = k)).map (·.2)
def mergeA (kvs more : List (κ × α)) : List (κ × α) := more.foldl (fun acc kv => putA acc kv.1 kv.2) kvs
theorem putA_len (kvs : List (κ × α)) (k : κ) (v : α) : (putA kvs k v).length ≤ kvs.length + 1 := by
  unfold putA
  split
  · rw [List.length_map]; omega
  · simp
theorem mergeA_len : ∀ (more kvs : List (κ × α)), (mergeA kvs more).length ≤ kvs.length + more.length
  | [], kvs => Nat.le_refl _
  | p :: more, kvs => by
    have h1 := mergeA_len more (putA kvs p.1 p.2)
    have h2 := putA_len kvs p.1 p.2
    show (mergeA (putA kvs p.1 p.2) more).length ≤ _
    simp only [List.length_cons]
    omega
end
/-- keys as data -/
def kD : Key → PyData
  | .inl i => .int i
  | .inr x => .str x
def keyD (k : List Key) : PyData := .tuple (k.map kD)
def kInt : List Key → Bool
  | .inl _ :: _ => true
  | _ => false
section
variable {K : PySem.W.Frag} {G H : Hp}
theorem key_vs : ∀ {k : List Key} {vs : List V}, DpAll K G vs (k.map kD) → vs = k.map kV
  | [], _, h => by cases h; rfl
  | .inl i :: k, _, h => by
    cases h with
    | cons h1 h2 =>
      cases h1
      rw [key_vs h2]
      rfl
  | .inr i :: k, _, h => by
    cases h with
    | cons h1 h2 =>
      cases h1
      rw [key_vs h2]
      rfl
theorem key_tr {k : List Key} {v : V} (hk : kInt k = true) (h : Dp K G v (keyD k)) : ∃ b, v = .ref b ∧ G b = some (.tup (k.map kV)) := by
  cases h with
  | @tup a xs _ h1 h2 =>
    have e := key_vs h2
    subst e
    rcases h1 with h1 | ⟨_, h1⟩
    · exact ⟨a, rfl, h1⟩
    · cases k with
      | nil => cases hk
      | cons x k =>
        cases x with
        | inl i => simp [kD, isStr0] at h1
        | inr i => cases hk
theorem key_dp {k : List Key} {b : Addr} (h : G b = some (.tup (k.map kV))) : Dp K G (.ref b) (keyD k) := by
  refine .tup (.inl h) ?_
  clear h
  induction k with
  | nil => exact .nil
  | cons x k ih =>
    cases x with
    | inl i => exact .cons (.int i) ih
    | inr i => exact .cons (.str i) ih
abbrev PrD (K : PySem.W.Frag) (G : Hp) : List (List Key × V) → List (List Key × PyData) → Prop := Paired (fun (p : List Key × V) (q : List Key × PyData) => p.1 = q.1 ∧ Dp K G p.2 q.2)
theorem prd_any {ws : List (List Key × V)} {kvs : List (List Key × PyData)} (h : PrD K G ws kvs) (k : List Key) : (ws.any fun kv => decide (kv.1 = k)) = (kvs.any fun kv => decide (kv.1 = k)) := by
  induction h with
  | nil => rfl
  | cons h1 _ ih => rw [List.any_cons, List.any_cons, ih, h1.1]
theorem prd_val {ws : List (List Key × V)} {kvs : List (List Key × PyData)} (h : PrD K G ws kvs) (k : List Key) : (valV ws k = none ∧ getA kvs k = none) ∨ ∃ v d, valV ws k = some v ∧ getA kvs k = some d ∧ Dp K G v d := by
  unfold valV getA
  induction h with
  | nil => exact .inl ⟨rfl, rfl⟩
  | @cons a b _ _ h1 _ ih =>
    by_cases e : a.1 = k
    · refine .inr ⟨a.2, b.2, ?_, ?_, h1.2⟩
      · rw [List.find?_cons_of_pos (by simpa using e)]; rfl
      · rw [List.find?_cons_of_pos (by rw [← h1.1]; simpa using e)]; rfl
    · rw [List.find?_cons_of_neg (by simpa using e), List.find?_cons_of_neg (by rw [← h1.1]; simpa using e)]
      exact ih
theorem prd_put {ws : List (List Key × V)} {kvs : List (List Key × PyData)} (h : PrD K G ws kvs) (k : List Key) {v : V} {d : PyData} (hd : Dp K G v d) : PrD K G (putK ws k v) (putA kvs k d) := by
  unfold putK putA
  rw [prd_any h k]
  split
  · exact rep h
  · exact app h
where
  rep : ∀ {ws : List (List Key × V)} {kvs : List (List Key × PyData)}, PrD K G ws kvs → PrD K G (ws.map fun kv => if kv.1 = k then (kv.1, v) else kv) (kvs.map fun kv => if kv.1 = k then (kv.1, d) else kv)
  | _, _, .nil => .nil
  | _, _, .cons (a := a) (b := b) h1 t => by
    refine .cons ?_ (rep t)
    dsimp only
    by_cases e : a.1 = k
    · rw [if_pos e, if_pos (by rw [← h1.1]; exact e)]; exact ⟨h1.1, hd⟩
    · rw [if_neg e, if_neg (by rw [← h1.1]; exact e)]; exact h1
  app : ∀ {ws : List (List Key × V)} {kvs : List (List Key × PyData)}, PrD K G ws kvs → PrD K G (ws ++ [(k, v)]) (kvs ++ [(k, d)])
  | _, _, .nil => .cons ⟨rfl, hd⟩ .nil
  | _, _, .cons h1 t => .cons h1 (app t)
theorem prd_len {ws : List (List Key × V)} {kvs : List (List Key × PyData)} (h : PrD K G ws kvs) : ws.length = kvs.length := Paired.length h
theorem prd_up {G' : Hp} (e : Ex G G') {ws : List (List Key × V)} {kvs : List (List Key × PyData)} (h : PrD K G ws kvs) : PrD K G' ws kvs := L2.Paired.mapP h fun _ _ z => ⟨z.1, dp_up e _ _ z.2⟩
end
section
variable {X : Cx} {a b c e f o : Expr} {es : List Expr} {r : Rho} {d d1 d2 d3 : Dn} {pos p p1 p2 apos cpos : Pos} {k : List Key} {kvs : List (List Key × PyData)}
theorem dget_of {K : PySem.W.Frag} {G H : Hp} {q : Addr} {ws : List (List Key × V)} {v : V} (g : Ex G H) (hd : Rd G q (.dT ws)) (hk : kInt k = true) (hv : Dp K G v (keyD k)) : DGet H q v (valV ws k) := by
  obtain ⟨b, rfl, hb⟩ := key_tr hk hv
  exact .inr ⟨ws, k, b, ex_rd g hd, rfl, g _ _ hb, rfl⟩
/-- k in d, k not in d -/
theorem pv_inT (hu : X.A.units + 1 < cLine) (ha : Pv X a r (.d (keyD k))) (hb : Pv X b r (.t kvs)) (hk : kInt k = true) (hm : behindInMarks .In b = false := by rfl) : Pv X (.Compare a [.In] [b] pos) r (.d (.bool (getA kvs k).isSome)) := fun σ G H g n =>
  wE_of (L2.pe_cmp (pc_din hu pe_w pe_w) hm) (wE_imp (ha σ G H g n) fun x H1 ⟨G1, k1, q1⟩ => wE_imp (hb σ G1 H1 k1.s (n.up k1.g)) fun y H2 ⟨G2, k2, q, ws, ey, hd, hp⟩ => by
    subst ey
    refine ⟨q, _, rfl, dget_of k2.s hd hk (dp_up k2.g _ _ q1), G2, k1.trans k2, ?_⟩
    rcases prd_val hp k with ⟨h1, h2⟩ | ⟨v, d, h1, h2, _⟩ <;> rw [h1, h2] <;> exact Dp.bl _)
theorem pt_inT (hu : X.A.units + 1 < cLine) (ha : Pv X a r (.d (keyD k))) (hb : Pv X b r (.t kvs)) (hk : kInt k = true) (hm : behindInMarks .In b = false := by rfl) : Pt X (.Compare a [.In] [b] pos) r (getA kvs k).isSome := fun σ G H g n =>
  wT_of (L2.pt_cmp (pc_din hu pe_w pe_w) hm) (wE_imp (ha σ G H g n) fun x H1 ⟨G1, k1, q1⟩ => wE_imp (hb σ G1 H1 k1.s (n.up k1.g)) fun y H2 ⟨G2, k2, q, ws, ey, hd, hp⟩ => by
    subst ey
    refine ⟨q, _, rfl, dget_of k2.s hd hk (dp_up k2.g _ _ q1), _, rfl, G2, k1.trans k2, ?_⟩
    rcases prd_val hp k with ⟨h1, h2⟩ | ⟨v, d, h1, h2, _⟩ <;> rw [h1, h2] <;> rfl)
theorem pv_ninT (hu : X.A.units + 1 < cLine) (ha : Pv X a r (.d (keyD k))) (hb : Pv X b r (.t kvs)) (hk : kInt k = true) (hm : behindInMarks .NotIn b = false := by rfl) : Pv X (.Compare a [.NotIn] [b] pos) r (.d (.bool (!(getA kvs k).isSome))) := fun σ G H g n =>
  wE_of (L2.pe_cmp (pc_dnotin hu pe_w pe_w) hm) (wE_imp (ha σ G H g n) fun x H1 ⟨G1, k1, q1⟩ => wE_imp (hb σ G1 H1 k1.s (n.up k1.g)) fun y H2 ⟨G2, k2, q, ws, ey, hd, hp⟩ => by
    subst ey
    refine ⟨q, _, rfl, dget_of k2.s hd hk (dp_up k2.g _ _ q1), G2, k1.trans k2, ?_⟩
    rcases prd_val hp k with ⟨h1, h2⟩ | ⟨v, d, h1, h2, _⟩ <;> rw [h1, h2] <;> exact Dp.bl _)
theorem pt_ninT (hu : X.A.units + 1 < cLine) (ha : Pv X a r (.d (keyD k))) (hb : Pv X b r (.t kvs)) (hk : kInt k = true) (hm : behindInMarks .NotIn b = false := by rfl) : Pt X (.Compare a [.NotIn] [b] pos) r (!(getA kvs k).isSome) := fun σ G H g n =>
  wT_of (L2.pt_cmp (pc_dnotin hu pe_w pe_w) hm) (wE_imp (ha σ G H g n) fun x H1 ⟨G1, k1, q1⟩ => wE_imp (hb σ G1 H1 k1.s (n.up k1.g)) fun y H2 ⟨G2, k2, q, ws, ey, hd, hp⟩ => by
    subst ey
    refine ⟨q, _, rfl, dget_of k2.s hd hk (dp_up k2.g _ _ q1), _, rfl, G2, k1.trans k2, ?_⟩
    rcases prd_val hp k with ⟨h1, h2⟩ | ⟨v, d, h1, h2, _⟩ <;> rw [h1, h2] <;> rfl)
/-- d[k] -/
theorem pv_ixT {y : PyData} (hu : X.A.units + 1 < cLine) (ha : Pv X a r (.t kvs)) (hb : Pv X b r (.d (keyD k))) (hk : kInt k = true) (hy : getA kvs k = some y) (hs : NoSl b := by exact fun _ _ => rfl) : Pv X (.Subscript a b pos) r (.d y) := fun σ G H g n =>
  wE_of (pe_dget hu pe_w pe_w hs) (wE_imp (ha σ G H g n) fun x H1 ⟨G1, k1, q, ws, ex, hd, hp⟩ => wE_imp (hb σ G1 H1 k1.s (n.up k1.g)) fun y' H2 ⟨G2, k2, q2⟩ => by
    subst ex
    rcases prd_val hp k with ⟨h1, h2⟩ | ⟨v, d, h1, h2, h3⟩
    · rw [hy] at h2; cases h2
    · rw [hy] at h2
      cases h2
      have := dget_of k2.s (ex_rd k2.g hd) hk q2
      rw [h1] at this
      exact ⟨q, v, rfl, this, G2, k1.trans k2, dp_up k2.g _ _ h3⟩)
/-- d.get(k, x) -/
theorem pv_getT {y : PyData} (hu : X.A.units + 1 < cLine) (ho : Pv X o r (.t kvs)) (he : Pv X e r (.d (keyD k))) (hf : Pv X f r (.d y)) (hk : kInt k = true) (m : M2 X o "get" apos e f cpos) : Pv X (.Call (.Attribute o "get" apos) [e, f] [] cpos) r (.d ((getA kvs k).getD y)) := fun σ G H g n =>
  wE_of (pe_dget2 hu pe_w pe_w pe_w m) (wE_imp (ho σ G H g n) fun x H1 ⟨G1, k1, q, ws, ex, hd, hp⟩ => by
    subst ex
    refine ⟨q, rfl, .inr ⟨ws, ex_rd k1.s hd⟩, wE_imp (he σ G1 H1 k1.s (n.up k1.g)) fun y' H2 ⟨G2, k2, q2⟩ => wE_imp (hf σ G2 H2 k2.s ((n.up k1.g).up k2.g)) fun z H3 ⟨G3, k3, q3⟩ => ?_⟩
    have kk := (k1.trans k2).trans k3
    refine ⟨_, dget_of k3.s (ex_rd (k2.g.trans k3.g) hd) hk (dp_up k3.g _ _ q2), G3, kk, ?_⟩
    rcases prd_val hp k with ⟨h1, h2⟩ | ⟨v, d, h1, h2, h3⟩
    · rw [h1, h2]; exact q3
    · rw [h1, h2]; exact dp_up (k2.g.trans k3.g) _ _ h3)
/-- dict(xs), xs a list of pairs with keys that are tuples -/
def mergeT (kvs more : List (List Key × V)) : List (List Key × V) := more.foldl (fun acc kv => putK acc kv.1 kv.2) kvs
theorem mergeT_len : ∀ (more kvs : List (List Key × V)), (mergeT kvs more).length ≤ kvs.length + more.length
  | [], kvs => Nat.le_refl _
  | p :: more, kvs => by
    have h1 := mergeT_len more (putK kvs p.1 p.2)
    have h2 := length_putK kvs p.1 p.2
    show (mergeT (putK kvs p.1 p.2) more).length ≤ _
    simp only [List.length_cons]
    omega
theorem kt_merge {H : Hp} : ∀ {more : List (List Key × V)} {rs : List (List Key × Addr × Value)} {kvs : List (List Key × V)} {xs : List (List Key × Addr × Value)}, KT H more rs → KT H kvs xs → KT H (mergeT kvs more) (storedAllH xs rs)
  | _, _, _, _, .nil, h => h
  | _, _, _, _, .cons (a := p) (b := q) h1 t, h => by
    obtain ⟨h1, h2, h3⟩ := h1
    have hp := h.put p.1 h2 h3
    rw [show storedH _ p.1 q.2.1 q.2.2 = storedH _ q.1 q.2.1 q.2.2 from by rw [h1]] at hp
    exact kt_merge (kvs := putK _ p.1 p.2) (xs := storedH _ q.1 q.2.1 q.2.2) t hp
theorem pairsT_of {pins : List (Addr × Obj)} {σ : L2.St} {H : Hp} {s : Shared} (I : L2.Inv X pins σ H s) : ∀ {ps : List Addr} {kvs : List (List Key × V)}, Paired (fun p (kv : List Key × V) => ∃ b, SqT X.K H p [.ref b, kv.2] ∧ H b = some (.tup (kv.1.map kV))) ps kvs →
    ∃ prs : List (List Key × Addr × Value), KT H kvs prs ∧ prs.length = ps.length ∧ ∀ (j : Nat) (q : List Key × Addr × Value), prs[j]? = some q → ∃ T, ps[j]? = some T ∧ s.heap.IsTuple T #[.ref q.2.1, q.2.2] ∧ (tupleKind (mixKind X.prog X.w)).is s.heap q.1 q.2.1
  | _, _, .nil => ⟨[], .nil, rfl, fun j q e => by simp at e⟩
  | _, _, .cons (a := p) (b := kv) h t => by
    obtain ⟨prs, r, hl, hp⟩ := pairsT_of I t
    obtain ⟨b, hT, hb⟩ := h
    obtain ⟨its, rv, ht, _⟩ := I.tuple hT
    obtain ⟨u, y, ei, ru, ry⟩ := vals2 rv
    subst ei
    obtain rfl : u = Value.ref b := ru
    refine ⟨(kv.1, b, y) :: prs, .cons ⟨rfl, hb, ry⟩ r, by rw [List.length_cons, List.length_cons, hl], fun j q e => ?_⟩
    cases j with
    | zero =>
      have e' : (kv.1, b, y) = q := Option.some.inj e
      subst e'
      exact ⟨p, rfl, ht, key_of I.hok hb⟩
    | succ j =>
      obtain ⟨T, e1, e2, e3⟩ := hp j q (by simpa using e)
      exact ⟨T, by simpa using e1, e2, e3⟩
theorem call_dictT (hcalm : X.calm = true) (hu : X.A.units + 4 < cLine) : CallR X (.type "dict") (fun xs H Q => ∃ (a : Addr) (ps : List Addr) (kvs : List (List Key × V)), xs = [.ref a] ∧ SqL X.K H a (ps.map V.ref) ∧
    Paired (fun p (kv : List Key × V) => ∃ b, SqT X.K H p [.ref b, kv.2] ∧ H b = some (.tup (kv.1.map kV))) ps kvs ∧ ∀ p, H p = none → Q (.ref p) (upd H p (.dT (mergeT [] kvs)))) := by
  intro pins s σ H xs us Q I r q
  obtain ⟨a, ps, kvs, ex, hq, hp, q⟩ := q
  subst ex
  obtain ⟨u, eu, rx⟩ := vals1 r
  subst eu
  cases rx
  obtain ⟨its, rv, pl, hz⟩ := I.list hq
  have ei := refs_at rv
  subst ei
  rw [List.length_map] at hz
  obtain ⟨prs, rel, hl, hpr⟩ := pairsT_of I hp
  obtain ⟨o, n, ho, hc, hd, hdat⟩ := pl
  have hln : (prs.map fun q => ((Value.ref q.2.1 : Value), q.2.2)).length = ps.length := by rw [List.length_map, hl]
  refine call_dict_pairsH (knd := tupleKind (mixKind X.prog X.w)) (ps := prs) (PairArg.list a (ps.map Value.ref).toArray (fun j => ps.getD j 0) (prs.map fun q => ((Value.ref q.2.1 : Value), q.2.2))) (I.ok.hd hcalm) (by show X.A.units + 1 + 1 < cLine; omega) ⟨⟨o, n, ho, hc, hd, hdat⟩, ?_, ?_⟩ ⟨by rw [List.length_map], ?_⟩ ?_ (by rw [hln]; exact hz) fun h' tk hd' kk => ?_
  · simp [hl]
  · intro j k v e
    rw [List.getElem?_map] at e
    cases hj : prs[j]? with
    | none => rw [hj] at e; cases e
    | some q' =>
      rw [hj] at e
      cases e
      obtain ⟨T, e1, e2, e3⟩ := hpr j q' hj
      refine ⟨?_, .inl ?_⟩
      · simp [List.getD_eq_getElem?_getD, e1]
      · have eT : ps.getD j 0 = T := by rw [List.getD_eq_getElem?_getD, e1]; rfl
        show s.heap.IsTuple (ps.getD j 0) _
        rw [eT]
        exact e2
  · intro i key v hr
    have hr' : (prs.map fun q => ((Value.ref q.2.1 : Value), q.2.2))[i]? = some (key, v) := hr
    rw [List.getElem?_map] at hr'
    cases hj : prs[i]? with
    | none => rw [hj] at hr'; cases hr'
    | some q' =>
      rw [hj] at hr'
      cases hr'
      exact ⟨q'.1, q'.2.1, rfl, rfl⟩
  · intro h' hk x hx
    obtain ⟨j, hj⟩ := List.mem_iff_getElem?.mp hx
    obtain ⟨T, _, _, oo, its, nn, e1, e2, e3, e4⟩ := hpr j x hj
    exact ⟨oo, its, nn, hk _ _ (Nat.ne_of_lt (Heap.lt_size e1)) (by simp) e1, e2, e3, e4⟩
  · have hm : (s.heap.objs.size == sysModules) = false := beq_eq_false_iff_ne.mpr (Nat.ne_of_gt I.big)
    have hlen : (mergeT [] kvs).length ≤ sizeLine := by
      have h1 := mergeT_len kvs []
      have h2 : kvs.length = prs.length := Paired.length rel
      simp only [List.length_nil, Nat.zero_add] at h1
      omega
    obtain ⟨oo, es, ep, h1, h2, h3, h4, _, h5⟩ := hd'
    have kt : KT H (mergeT [] kvs) (storedAllH [] prs) := kt_merge rel .nil
    have hfr : H s.heap.objs.size = none := I.hok.fresh (Nat.le_refl _)
    refine ⟨.ref s.heap.objs.size, upd H s.heap.objs.size (.dT (mergeT [] kvs)), I.laid (t' := tk) (fun b ob e => kk b ob (by simp) e) (Nat.le_refl _) (show ObjOk X.prog X.w _ _ _ (.dT (mergeT [] kvs)) from ⟨hlen, hm, storedAllH [] prs, kt.keeps fun b ys e => ?_, oo, es, ep, h1, h2, h3, h4, h5⟩), rfl, q _ hfr⟩
    rw [upd_ne (ne_of_none e hfr)]
    exact e
def pairD (q : List Key × PyData) : PyData := .tuple [keyD q.1, q.2]
theorem prd_merge {K : PySem.W.Frag} {G : Hp} : ∀ {more : List (List Key × V)} {rs : List (List Key × PyData)} {kvs : List (List Key × V)} {xs : List (List Key × PyData)}, PrD K G more rs → PrD K G kvs xs → PrD K G (mergeT kvs more) (mergeA xs rs)
  | _, _, _, _, .nil, h => h
  | _, _, _, _, .cons (a := p) (b := q) h1 t, h => by
    obtain ⟨h1, h2⟩ := h1
    have hp := prd_put h p.1 h2
    rw [show putA _ p.1 q.2 = putA _ q.1 q.2 from by rw [h1]] at hp
    exact prd_merge (kvs := putK _ p.1 p.2) (xs := putA _ q.1 q.2) t hp
theorem pairs_dp {K : PySem.W.Frag} {G H : Hp} (g : Ex G H) : ∀ {prs : List (List Key × PyData)} {vs : List V}, (∀ q ∈ prs, kInt q.1 = true) → DpAll K G vs (prs.map pairD) → ∃ (ps : List Addr) (kvs : List (List Key × V)), vs = ps.map V.ref ∧ PrD K G kvs prs ∧ Paired (fun p (kv : List Key × V) => ∃ b, SqT K H p [.ref b, kv.2] ∧ H b = some (.tup (kv.1.map kV))) ps kvs
  | [], _, _, h => by cases h; exact ⟨[], [], rfl, .nil, .nil⟩
  | q :: prs, _, hk, h => by
    cases h with
    | cons h1 h2 =>
      obtain ⟨ps, kvs, rfl, r1, r2⟩ := pairs_dp g (fun z hz => hk z (List.mem_cons_of_mem _ hz)) h2
      cases h1 with
      | @tup T xs _ t1 t2 =>
        cases t2 with
        | @cons v1 _ _ _ u1 t3 =>
          cases t3 with
          | @cons v2 _ _ _ u2 t4 =>
            cases t4
            obtain ⟨b, rfl, hb⟩ := key_tr (hk q List.mem_cons_self) u1
            exact ⟨T :: ps, (q.1, v2) :: kvs, rfl, .cons ⟨rfl, u2⟩ r1, .cons ⟨b, ex_t g t1.sq, g _ _ hb⟩ r2⟩
theorem pv_dict {prs : List (List Key × PyData)} (hm : X.mg "dict" = none) (hu : X.A.units + 4 < cLine) (ha : Pv X a r (.d (.list (prs.map pairD)))) (hk : ∀ q ∈ prs, kInt q.1 = true) (hc : X.calm = true := by rfl) (hg : Gl X "dict" := by rfl) (he : starEach [a] X.env = (false, eval a X.env) :: starEach [] X.env := by rfl) (hpl : (backTo pos (starEach [] X.env)).any (·.1) = false := by rfl) :
    Pv X (.Call (.Name "dict" p) [a] [] pos) r (.t (mergeA [] prs)) :=
  pv_callTy (call_dictT hc hu) hg hm PyProof.Rows.boot_dict (pa_cons ha pa_nil he) (fun vs G H Q g hd k => by
    obtain ⟨v, rfl, hv⟩ := dens1 hd
    cases hv with
    | lst q1 q2 =>
      obtain ⟨ps, kvs, rfl, r1, r2⟩ := pairs_dp g hk q2
      refine ⟨_, ps, kvs, rfl, .inl (ex_rd g q1), r2, fun l hl => k _ _ _ (Gr.new g hl) ⟨l, _, rfl, .inl upd_same, prd_up (Ex.new (fresh_back g hl)) (prd_merge r1 .nil)⟩⟩) (he := he) (hpl := hpl)
end
end Fb

/-! FbF: expressions and statements that change owned objects; try; calls of methods; the book of a copy. -/
namespace Fb
open PySem PySem.Spec PyProof.Rows L2 Evl
/-- as Gr, but what stands at os may change -/
structure Gx (os : List Addr) (G H G2 H2 : Hp) : Prop where
  g : Ex G G2
  s : Ex G2 H2
  h : ∀ a o, a ∉ os → H a = some o → H2 a = some o
  t : ∀ a, H a ≠ none → H2 a ≠ none
  n : ∀ a, NT H a → NT H2 a
  f : ∀ a, G a = none → G2 a ≠ none → Fr H a
section
variable {os os' : List Addr} {G H G1 H1 G2 H2 : Hp}
theorem some_ne {H : Hp} {a : Addr} {o : HO} (h : H a = some o) : H a ≠ none := by rw [h]; exact fun z => nomatch z
theorem ne_some {H : Hp} {a : Addr} (h : H a ≠ none) : ∃ o, H a = some o := by
  cases q : H a with
  | none => exact absurd q h
  | some o => exact ⟨o, rfl⟩
theorem Gr.x (k : Gr G H G2 H2) : Gx os G H G2 H2 := ⟨k.g, k.s, fun a o _ h => k.h a o h, fun a h => by
  obtain ⟨o, q⟩ := ne_some h
  exact some_ne (k.h a o q), fun a h => h.up k.h, k.f⟩
theorem Gx.back {a : Addr} (k : Gx os G H G2 H2) (h : Fr H2 a) : Fr H a := fun o q => by
  by_cases z : ∃ xs, o = .tup xs
  · exact z
  · exact ((k.n a ⟨o, q, fun xs e => z ⟨xs, e⟩⟩).no h).elim
theorem Gx.trans (a : Gx os G H G1 H1) (b : Gx os G1 H1 G2 H2) : Gx os G H G2 H2 := ⟨a.g.trans b.g, b.s, fun x o n h => b.h x o n (a.h x o n h), fun x h => b.t x (a.t x h), fun x h => b.n x (a.n x h), fun x h1 h2 => by
  cases q : G1 x with
  | none => exact a.back (b.f x q h2)
  | some o => exact a.f x h1 (some_ne q)⟩
theorem Gx.mono (s : ∀ a, a ∈ os → a ∈ os') (k : Gx os G H G2 H2) : Gx os' G H G2 H2 := ⟨k.g, k.s, fun a o n h => k.h a o (fun z => n (s a z)) h, k.t, k.n, k.f⟩
theorem Gx.set {p : Addr} {o : HO} (e : Ex G H) (hp : p ∈ os) (hg : G p = none) (ho : ∀ xs, o ≠ .tup xs := by intro xs z; nomatch z) : Gx os G H G (upd H p o) := ⟨Ex.refl G, e.mut hg, fun a u n h => by
    rw [upd_ne (show a ≠ p from fun z => n (by rw [z]; exact hp))]; exact h, fun a h => by
    by_cases z : a = p
    · subst z; rw [upd_same]; exact fun z => nomatch z
    · rw [upd_ne z]; exact h, fun a h => by
    by_cases z : a = p
    · subst z; exact ⟨o, upd_same, ho⟩
    · obtain ⟨u, h1, h2⟩ := h
      exact ⟨u, by rw [upd_ne z]; exact h1, h2⟩, fun a h1 h2 => absurd h1 h2⟩
theorem Gx.lay {p : Addr} {o : HO} (e : Ex G H) (hp : H p = none) : Gx os G H G (upd H p o) := ⟨Ex.refl G, e.trans (Ex.new hp), fun a u _ h => Ex.new hp a u h, fun a h => by
    obtain ⟨o, q⟩ := ne_some h
    exact some_ne (Ex.new hp a o q), fun a h => h.up (Ex.new hp), fun a h1 h2 => absurd h1 h2⟩
theorem Gx.gr (h : ∀ a, a ∈ os → H a = none) (k : Gx os G H G2 H2) : Gr G H G2 H2 := ⟨k.g, k.s, fun a o q => k.h a o (fun z => by rw [h a z] at q; cases q) q, k.f⟩
theorem Gr.lay {p : Addr} {o : HO} (e : Ex G H) (hp : H p = none) : Gr G H G (upd H p o) := ⟨Ex.refl G, e.trans (Ex.new hp), Ex.new hp, fun a h1 h2 => absurd h1 h2⟩
theorem Gr.out {a : Addr} (k : Gr G H G2 H2) (hg : G a = none) (hh : NT H a) : G2 a = none := by
  cases q : G2 a with
  | none => rfl
  | some o => exact (hh.no (k.f a hg (some_ne q))).elim
theorem Gx.out {a : Addr} (k : Gx os G H G2 H2) (hg : G a = none) (hh : NT H a) : G2 a = none := by
  cases q : G2 a with
  | none => rfl
  | some o => exact (hh.no (k.f a hg (some_ne q))).elim
theorem Gr.upd {p : Addr} {o : HO} (k : Gr G H G2 H2) (hg : G p = none) (hp : NT H p) : Gr G (L2.upd H p o) G2 (L2.upd H2 p o) := by
  have h2 := k.out hg hp
  refine ⟨k.g, k.s.mut h2, fun a u h => ?_, fun a h1 h3 => ?_⟩
  · by_cases z : a = p
    · subst z; rw [upd_same] at h ⊢; exact h
    · rw [upd_ne z] at h ⊢; exact k.h a u h
  · have z : a ≠ p := fun z => by subst z; exact h3 h2
    intro u hu
    rw [upd_ne z] at hu
    exact k.f a h1 h3 u hu
end

/-! ### expressions that may change what is owned -/
def Fx (X : Cx) (e : Expr) (r : Rho) (G H : Hp) (Q : V → Hp → Hp → Prop) : Prop := ∀ σ, En X.K G σ r → wE X e σ H fun v H2 => ∃ G2, Ex G G2 ∧ Ex G2 H2 ∧ Q v G2 H2
def Ft (X : Cx) (e : Expr) (r : Rho) (G H : Hp) (Q : Bool → Hp → Hp → Prop) : Prop := ∀ σ, En X.K G σ r → wT X e σ H fun v H2 => ∃ G2, Ex G G2 ∧ Ex G2 H2 ∧ Q v G2 H2
/-- what is owned may be read: r' tells of it -/
structure Own (K : PySem.W.Frag) (os : List Addr) (r r' : Rho) (G H : Hp) : Prop where
  no : ∀ a, a ∈ os → G a = none
  ob : ∀ a, a ∈ os → ∃ o, H a = some o ∧ (∀ xs, o ≠ .tup xs) ∧ ∀ z u, o ≠ .frz z u
  en : ∀ σ, En K G σ r → En K (plus G H os) σ r'
theorem Own.tup {K : PySem.W.Frag} {os : List Addr} {r r' : Rho} {G H G2 H2 : Hp} (O : Own K os r r' G H) (k : Gr (plus G H os) H G2 H2) {y : PyData} {v : V} (hi : imm y = true) (q : Dp K G2 v y) : Dp K (minus G2 os) v y :=
  dp_imm (minus_t fun a ha xs z => by
    obtain ⟨o, h1, h2, h3⟩ := O.ob a ha
    have h4 : G2 a = some o := k.g a o (by rw [plus_in ha]; exact h1)
    rcases z with z | ⟨u, z⟩
    · rw [h4] at z; cases z; exact h2 _ rfl
    · rw [h4] at z; cases z; exact h3 _ _ rfl) y v hi q
section
variable {X : Cx} {a b c e o : Expr} {es : List Expr} {sts ss rest : List Stmt} {r r' : Rho} {d d1 d2 d3 : Dn} {pos p p1 p2 p3 p4 apos : Pos} {D : Ends} {G0 H0 G H : Hp} {W : WX} {Q : V → Hp → Hp → Prop} {T : Bool → Hp → Hp → Prop} {os : List Addr}
theorem fx_pv (g : Ex G H) (h : Pv X e r d) (k : ∀ v G2 H2, Gr G H G2 H2 → Den X.K G2 v d → Q v G2 H2) : Fx X e r G H Q := fun σ n => wE_imp (h σ G H g n) fun v H2 ⟨G2, k2, q⟩ => ⟨G2, k2.g, k2.s, k v G2 H2 k2 q⟩
theorem ft_pt {q : Bool} (g : Ex G H) (h : Pt X e r q) (k : ∀ G2 H2, Gr G H G2 H2 → T q G2 H2) : Ft X e r G H T := fun σ n => wT_imp (h σ G H g n) fun v H2 ⟨G2, k2, q⟩ => ⟨G2, k2.g, k2.s, by rw [q]; exact k G2 H2 k2⟩
theorem fx_own {y : PyData} (g : Ex G H) (O : Own X.K os r r' G H) (h : Pv X e r' (.d y)) (hi : imm y = true) (k : ∀ v G2 H2, Gr G H G2 H2 → Dp X.K G2 v y → Q v G2 H2) : Fx X e r G H Q := fun σ n =>
  wE_imp (h σ _ H (plus_s g) (O.en σ n)) fun v H2 ⟨G2, k2, q⟩ => by
    have kb := own_back O.no k2
    exact ⟨_, kb.g, kb.s, k v _ H2 kb (O.tup k2 hi q)⟩
theorem ft_own {q : Bool} (g : Ex G H) (O : Own X.K os r r' G H) (h : Pt X e r' q) (k : ∀ G2 H2, Gr G H G2 H2 → T q G2 H2) : Ft X e r G H T := fun σ n =>
  wT_imp (h σ _ H (plus_s g) (O.en σ n)) fun v H2 ⟨G2, k2, q⟩ => by
    have kb := own_back O.no k2
    exact ⟨_, kb.g, kb.s, by rw [q]; exact k _ H2 kb⟩
theorem fx_eq (h : Fx X a r G H fun x G1 H1 => Fx X b r G1 H1 fun y G2 H2 => scal x y = true ∧ Q (.bl (decide (x = y))) G2 H2) : Fx X (.Compare a [.Eq] [b] pos) r G H Q := fun σ n =>
  wE_of (pe_cmpR op_eq pe_w pe_w (nomark _)) (wE_imp (h σ n) fun x H1 ⟨G1, e1, s1, k1⟩ => wE_imp (k1 σ (n.up e1)) fun y H2 ⟨G2, e2, s2, k2, k3⟩ => ⟨k2, G2, e1.trans e2, s2, k3⟩)
theorem ft_eq (h : Fx X a r G H fun x G1 H1 => Fx X b r G1 H1 fun y G2 H2 => scal x y = true ∧ T (decide (x = y)) G2 H2) : Ft X (.Compare a [.Eq] [b] pos) r G H T := fun σ n =>
  wT_of (pt_cmpR op_eq pe_w pe_w (nomark _)) (wE_imp (h σ n) fun x H1 ⟨G1, e1, s1, k1⟩ => wE_imp (k1 σ (n.up e1)) fun y H2 ⟨G2, e2, s2, k2, k3⟩ => ⟨k2, _, rfl, G2, e1.trans e2, s2, k3⟩)
theorem fx_and (h : Fx X a r G H fun x G1 H1 => ∃ q : Bool, x = .bl q ∧ (q = true → Fx X b r G1 H1 Q) ∧ (q = false → Q (.bl false) G1 H1)) : Fx X (.BoolOp .And [a, b] pos) r G H Q := fun σ n =>
  wE_of (pe_and pe_w (pe_one pe_w)) (wE_imp (h σ n) fun x H1 ⟨G1, e1, s1, q, hx, kt, kf⟩ => ⟨q, hx, by
    cases q with
    | true => exact wE_imp (kt rfl σ (n.up e1)) fun y H2 ⟨G2, e2, s2, k2⟩ => ⟨G2, e1.trans e2, s2, k2⟩
    | false => exact ⟨G1, e1, s1, kf rfl⟩⟩)
/-- [], {} that are to be owned -/
theorem fx_newL (g : Ex G H) (k : ∀ l, H l = none → Q (.ref l) G (upd H l (.lst []))) : Fx X (.List [] pos) r G H Q := fun σ n =>
  wE_of (pe_lst L2.pa_nil) ⟨sz_of (by simp), fun l hl => ⟨G, Ex.refl G, g.trans (Ex.new hl), k l hl⟩⟩
theorem fx_newD (g : Ex G H) (k : ∀ l, H l = none → Q (.ref l) G (upd H l (.dT []))) : Fx X (.Dict [] [] pos) r G H Q := fun σ n =>
  wE_of pe_dnewT fun l hl => ⟨G, Ex.refl G, g.trans (Ex.new hl), k l hl⟩

/-! ### attributes -/
/-- o.f, the very value -/
theorem fx_fld {q C : Addr} {f : Str} (g : Ex G H) (hc : Cls X.K C) (hn : NoAttr X.K C f) (ho : Pv X o r (.v (.ref q))) (k : ∀ G2 H2, Gr G H G2 H2 → ∃ dx fs v, H2 q = some (.ins C dx fs) ∧ fs.lookup f = some v ∧ Q v G2 H2) (hb : attributeBase o f X.env (eval o X.env) = eval o X.env := by rfl) : Fx X (.Attribute o f pos) r G H Q := fun σ n =>
  wE_of (pe_fld pe_w hb) (wE_imp (ho σ G H g n) fun x H1 ⟨G1, k1, q1⟩ => by
    obtain rfl : x = .ref q := q1
    obtain ⟨dx, fs, v, h1, h2, h3⟩ := k G1 H1 k1
    exact ⟨q, C, dx, fs, v, rfl, h1, hc, hn, h2, G1, k1.g, k1.s, h3⟩)
/-- o.f = e -/
theorem gx_fld {q C : Addr} {f : Str} {p' : Pos} (hc : Cls X.K C) (hn : NoAttr X.K C f) (ho : Pv X o r (.v (.ref q)))
    (h : ∀ G H, Gr G0 H0 G H → Fx X e r G H fun v G1 H1 => ∃ dx fs, H1 q = some (.ins C dx fs) ∧ fs.length < 1000 ∧ G1 q = none ∧ Go X rest D G1 (upd H1 q (.ins C dx (putF f v fs))) r)
    (hs : swapsWith e (some (.Attribute o f p')) pos.line X.env = pure false := by rfl) : Go X (.Assign [.Attribute o f p'] e pos :: rest) D G0 H0 r := fun σ G H g n =>
  wSs_of (pss_cons (ps_fld pe_w pe_w hs) pss_w) (wE_imp (h G H g σ n) fun v H1 ⟨G1, e1, s1, dx, fs, h1, h2, h3, h4⟩ => wE_imp (ho σ G1 H1 s1 (n.up e1)) fun x H2 ⟨G2, k2, q2⟩ => by
    obtain rfl : x = .ref q := q2
    exact ⟨q, C, dx, fs, rfl, k2.h _ _ h1, hc, hn, h2, h4 σ G2 _ (k2.upd h3 (some_nt h1)) ((n.up e1).up k2.g)⟩)
/-- o.f += e, ints -/
theorem gx_inc {q C : Addr} {f : Str} {p' : Pos} {j : Int} (hc : Cls X.K C) (hn : NoAttr X.K C f) (ho : Pv X o r (.v (.ref q))) (he : Pv X e r (.d (.int j)))
    (h : ∀ G H, Gr G0 H0 G H → ∃ dx fs i, H q = some (.ins C dx fs) ∧ fs.lookup f = some (.int i) ∧ fs.length < 1000 ∧ G q = none ∧ Go X rest D G (upd H q (.ins C dx (putF f (.int (i + j)) fs))) r) : Go X (.AugAssign (.Attribute o f p') .Add e pos :: rest) D G0 H0 r := fun σ G H g n =>
  wSs_of (pss_cons (ps_fldaug pe_w pe_w in_add) pss_w) (wE_imp (ho σ G H g.s n) fun x H1 ⟨G1, k1, q1⟩ => by
    obtain rfl : x = .ref q := q1
    obtain ⟨dx, fs, i, h1, h2, h3, h4, h5⟩ := h G H g
    refine ⟨q, C, dx, fs, .int i, rfl, k1.h _ _ h1, hc, hn, h2, wE_imp (he σ G1 H1 k1.s (n.up k1.g)) fun y H2 ⟨G2, k2, q2⟩ => ?_⟩
    rw [den_int q2]
    have kk := k1.trans k2
    exact ⟨i, j, rfl, rfl, dx, fs, kk.h _ _ h1, h3, h5 σ G2 _ (kk.upd h4 (some_nt h1)) (n.up kk.g)⟩)
/-- o.append(e) -/
theorem fx_append {cpos : Pos} (h : Fx X o r G H fun x G1 H1 => ∃ l ys, x = .ref l ∧ H1 l = some (.lst ys) ∧ Fx X e r G1 H1 fun y G2 H2 => ∃ xs, H2 l = some (.lst xs) ∧ xs.length < sizeLine ∧ G2 l = none ∧ Q .non G2 (upd H2 l (.lst (xs ++ [y]))))
    (hbase : attributeBase o "append" X.env (eval o X.env) = eval o X.env := by rfl)
    (hfew : ((backTo cpos (starEach [e] X.env)).all (fun x => !x.1) && (backToKw cpos (keywordEach [] X.env)).all (fun x => x.1.isSome) && decide ([e].length + ([] : List Keyword).length + (if ([] : List Keyword).isEmpty then 0 else 1) < 30)) = true := by rfl)
    (hline : (apos.endLine == cpos.line) = true := by rfl) (hs : starEach [e] X.env = (false, eval e X.env) :: starEach [] X.env := by rfl) (hplain : (backTo cpos (starEach [] X.env)).any (·.1) = false := by rfl) :
    Fx X (.Call (.Attribute o "append" apos) [e] [] cpos) r G H Q := fun σ n =>
  wE_of (pe_bm PySem.F.plainAttrs_list PySem.F.slot_list_append PySem.F.type_list_append mt_append pe_w (L2.pa_cons pe_w L2.pa_nil hs) hbase hfew hline hs hplain) (wE_imp (h σ n) fun x H1 ⟨G1, e1, s1, l, ys, hx, hl, k1⟩ => by
    subst hx
    refine ⟨.inl ⟨rfl, _, .inl (.inl hl)⟩, wE_imp (k1 σ (n.up e1)) fun y H2 ⟨G2, e2, s2, xs, h1, h2, h3, h4⟩ => ?_⟩
    exact ⟨l, xs, y, rfl, rfl, h1, h2, G2, e1.trans e2, s2.mut h3, h4⟩)

/-! ### statements -/
theorem gx_when (h : ∀ G H, Gr G0 H0 G H → Ft X c r G H fun b G1 H1 => (b = true → Go X ss { D with nx := wSs X rest D } G1 H1 r) ∧ (b = false → Go X rest D G1 H1 r)) : Go X (.If c ss [] pos :: rest) D G0 H0 r := fun σ G H g n =>
  wSs_of (pss_cons (ps_if pt_w pss_w pss_w) pss_w) (wT_imp (h G H g σ n) fun b H1 ⟨G1, e1, s1, k1⟩ => by
    cases b with
    | true => exact k1.1 rfl σ G1 H1 (Gr.refl s1) (n.up e1)
    | false => exact wSs_of pss_nil (k1.2 rfl σ G1 H1 (Gr.refl s1) (n.up e1)))
theorem gx_set (i : Nat) {x : Str} {p' : Pos} (h : ∀ G H, Gr G0 H0 G H → Fx X e r G H fun v G1 H1 => ∃ d, Den X.K G1 v d ∧ Go X rest D G1 H1 (r.set i (some d))) (hN : X.N.Nodup) (hi : X.N[i]? = some x := by rfl) (hx : Loc X.env.scope x := by first | exact Or.inl rfl | exact Or.inr rfl)
    (hs : swapsWith e (some (.Name x p')) pos.line X.env = pure false := by rfl) (hf : X.fn x = true ∨ X.env.scope.names.lookup x = some .local := by first | exact .inl rfl | exact .inr rfl) : Go X (.Assign [.Name x p'] e pos :: rest) D G0 H0 r := fun σ G H g n =>
  wSs_of (pss_cons (ps_set hN hi hx pe_w hs hf) pss_w) (wE_imp (h G H g σ n) fun v H1 ⟨G1, e1, s1, d, q1, k1⟩ => k1 _ G1 H1 (Gr.refl s1) ((n.up e1).set i q1))
theorem gx_ret (h : ∀ G H, Gr G0 H0 G H → Fx X e r G H fun v _ H1 => D.rt v H1) : Go X (.Return (some e) pos :: rest) D G0 H0 r := fun σ G H g n =>
  wSs_of (pss_cons (ps_ret pe_w) pss_w) (wE_imp (h G H g σ n) fun v H1 ⟨G1, e1, s1, k1⟩ => k1)
theorem gx_expr (h : ∀ G H, Gr G0 H0 G H → Fx X e r G H fun _ G1 H1 => Go X rest D G1 H1 r) (hs : swapsWith e none pos.line X.env = pure false := by rfl) : Go X (.Expr e pos :: rest) D G0 H0 r := fun σ G H g n =>
  wSs_of (pss_cons (ps_expr pe_w hs) pss_w) (wE_imp (h G H g σ n) fun v H1 ⟨G1, e1, s1, k1⟩ => k1 σ G1 H1 (Gr.refl s1) (n.up e1))

/-! ### calls: defs, methods, classes; what they raise is wished for by W -/
theorem fx_call {x : Str} {k j : Nat} {sp : Sp} {ds : List Dn} (F : Fc X.prog X.w X.K X.mg X.base k x sp) (hr : Room j X.A) (tk : Takes X W) (g : Ex G H) (O : Own X.K os r r' G H) (ha : Pa X (e :: es) r' ds)
    (h : ∀ σ vs G1 H1, En X.K G σ r → Gr (plus G H os) H G1 H1 → Dens X.K G1 vs ds → sp vs H1 (fun v H2 => ∃ G2, Ex G G2 ∧ Ex G2 H2 ∧ Q v G2 H2) (WE W σ)) (hk : k ≤ j := by decide) (hg : Gl X x := by rfl)
    (hdb : (x == ("__debug__" : Str)) = false := by decide) (he : starEach (e :: es) X.env = (false, eval e X.env) :: starEach es X.env := by rfl) (hpl : (backTo pos (starEach es X.env)).any (·.1) = false := by rfl) :
    Fx X (.Call (.Name x p) (e :: es) [] pos) r G H Q := fun σ n => by
  obtain ⟨f, fd, ps, F, hm, hkp, hb⟩ := F.ex
  refine wE_of (pe_callS F (hr.mono hk) hg hm hkp hb (fun σ => passAt tk σ) pa_w hdb he hpl) (wA_imp (ha σ _ H (plus_s g) (O.en σ n)) fun vs H1 ⟨G1, k1, q1⟩ => ?_)
  exact h σ vs G1 H1 n k1 q1
/-- a call that keeps a pure promise, or raises -/
theorem fx_do {x : Str} {k j : Nat} {R : List Dn → Dn → Prop} {B : List Dn → Addr → Prop} {ds : List Dn} (F : Fc X.prog X.w X.K X.mg X.base k x (spR X.K R B)) (hr : Room j X.A) (tk : Takes X W) (g : Ex G H) (O : Own X.K os r r' G H) (ha : Pa X (e :: es) r' ds)
    (h : (∃ y, R ds (.d y) ∧ imm y = true ∧ ∀ v G2 H2, Gr G H G2 H2 → Dp X.K G2 v y → Q v G2 H2) ∨ (∃ C, B ds C ∧ ∀ σ G2 H2, Gr G H G2 H2 → En X.K G2 σ r → W (.ref C) none σ H2)) (hk : k ≤ j := by decide) (hg : Gl X x := by rfl)
    (hdb : (x == ("__debug__" : Str)) = false := by decide) (he : starEach (e :: es) X.env = (false, eval e X.env) :: starEach es X.env := by rfl) (hpl : (backTo pos (starEach es X.env)).any (·.1) = false := by rfl) :
    Fx X (.Call (.Name x p) (e :: es) [] pos) r G H Q := fx_call F hr tk g O ha (fun σ vs G1 H1 n k1 q1 => by
  refine ⟨ds, G1, k1.s, q1, ?_⟩
  rcases h with ⟨y, hR, hi, k⟩ | ⟨C, hB, k⟩
  · refine .inl ⟨_, hR, fun v G2 H2 k2 q2 => ?_⟩
    have k3 := k1.trans k2
    have kb := own_back O.no k3
    exact ⟨_, kb.g, kb.s, k v _ H2 kb (O.tup k3 hi q2)⟩
  · refine .inr ⟨C, hB, fun G2 H2 k2 => ?_⟩
    have kb := own_back O.no (k1.trans k2)
    exact k σ _ H2 kb (n.up kb.g)) hk hg hdb he hpl
end
end Fb

/-! FbM: what worlds.py tells, as plain functions of data. -/
namespace Fb
open PySem
def within (y : PyData) (lo hi : Int) : Bool := match y with
  | .int i => decide (lo ≤ i) && decide (i ≤ hi)
  | _ => false
theorem within_int {y : PyData} {lo hi : Int} (h : within y lo hi = true) : ∃ i, y = .int i ∧ lo ≤ i ∧ i ≤ hi := by
  cases y with
  | int i =>
    unfold within at h
    rw [Bool.and_eq_true, decide_eq_true_iff, decide_eq_true_iff] at h
    exact ⟨i, rfl, h.1, h.2⟩
  | _ => cases h
def keyNames : List Str := ["rank", "first", "short", "early"]
def smallTxt : Str := "abcdefghijklmnopqrstuvwxyz"
/-- the texts of a list of data that are all texts -/
def strsOf : List PyData → Option (List Str)
  | [] => some []
  | .str s :: r => (strsOf r).map (s :: ·)
  | _ => none
theorem strsOf_some : ∀ {xs : List PyData} {ss : List Str}, strsOf xs = some ss → xs = ss.map PyData.str
  | [], ss, h => by cases h; rfl
  | .str s :: r, ss, h => by
    unfold strsOf at h
    cases q : strsOf r with
    | none => rw [q] at h; cases h
    | some t =>
      rw [q] at h
      cases h
      rw [strsOf_some q]
      rfl
  | .none :: r, ss, h => by cases h
  | .bool _ :: r, ss, h => by cases h
  | .int _ :: r, ss, h => by cases h
  | .list _ :: r, ss, h => by cases h
  | .tuple _ :: r, ss, h => by cases h
  | .dict _ :: r, ss, h => by cases h
theorem strsOf_map (ss : List Str) : strsOf (ss.map PyData.str) = some ss := by
  induction ss with
  | nil => rfl
  | cons s ss ih => show (strsOf (ss.map PyData.str)).map (s :: ·) = _; rw [ih]; rfl
/-- not a key -/
def noKey (y : PyData) : Bool := match y with
  | .str s => !keyNames.contains s
  | _ => true
def keysOk (ks : List PyData) : Bool := match strsOf ks with
  | some ss => ss.all (keyNames.contains ·) && decide (dcn ss = ss.length)
  | none => false
def isWorld : PyData → Bool
  | .tuple [a, b, .tuple ks] => within a 1 5 && within b 1 3 && keysOk ks
  | _ => false
def isName : PyData → Bool
  | .str s => decide (1 ≤ (s.length : Int)) && decide ((s.length : Int) ≤ 4) && s.cps.toList.all fun c => decide (c ∈ smallTxt.cps.toList)
  | _ => false
def isPlace (rooms long : Int) (room hour : PyData) : Bool := within room 0 (rooms - 1) && within hour 0 (24 - long)
def isWish (rooms : Int) : PyData → Bool
  | .tuple [nm, room, hour, .int long, rank] => isName nm && (decide (1 ≤ long) && decide (long ≤ 6)) && (isPlace rooms long room hour && within rank 0 9)
  | _ => false
def isBooking (copies : Int) : PyData → Bool
  | .tuple [a, b] => within a 0 (copies - 1) && within b 0 11
  | _ => false
def isMoment (copies : Int) : PyData → Bool
  | .tuple [a, b] => within a 1 9999 && within b 0 (copies - 1)
  | _ => false
def isSpot (rooms : Int) : PyData → Bool
  | .tuple [a, b] => isPlace rooms 1 a b
  | _ => false
/-- the moment's copy is the booking's -/
def sameCopy : PyData → PyData → Bool
  | .tuple [_, .int m], .tuple [.int c, _] => decide (m = c)
  | _, _ => false
def isFact (copies rooms : Int) : PyData → Bool
  | .tuple [.str s, b] => decide (s = "off") && isBooking copies b
  | .tuple [.str s, b, m, p] => isBooking copies b && isMoment copies m && (decide (s = "wish") && (isWish rooms p && sameCopy m b) || decide (s = "pin") && isSpot rooms p)
  | _ => false
mutual
/-- every text, tuple, list within is short -/
def szOk : PyData → Bool
  | .str s => decide (s.length ≤ 1000)
  | .list xs => decide (xs.length ≤ 1000) && szAll xs
  | .tuple xs => decide (xs.length ≤ 1000) && szAll xs
  | .dict _ => false
  | _ => true
def szAll : List PyData → Bool
  | [] => true
  | x :: xs => szOk x && szAll xs
end
theorem szAll_iff : ∀ {xs : List PyData}, szAll xs = true ↔ ∀ x ∈ xs, szOk x = true
  | [] => by simp [szAll]
  | x :: xs => by
    rw [szAll, Bool.and_eq_true, szAll_iff]
    simp
theorem szOk_tup {xs : List PyData} (h : szOk (.tuple xs) = true) : xs.length ≤ 1000 ∧ ∀ x ∈ xs, szOk x = true := by
  rw [szOk, Bool.and_eq_true, decide_eq_true_iff, szAll_iff] at h
  exact h
theorem szOk_str {s : Str} (h : szOk (.str s) = true) : s.length ≤ 1000 := by
  rw [szOk, decide_eq_true_iff] at h
  exact h
theorem strOk_sz {y : PyData} (h : szOk y = true) : strOk y := by
  cases y with
  | str s =>
    have := szOk_str h
    show s.length ≤ sizeLine
    rw [sizeLine_eq]
    omega
  | _ => trivial
/-- a world as a datum -/
def wD (c r : Int) (ks : List Str) : PyData := .tuple [.int c, .int r, .tuple (ks.map PyData.str)]
theorem isWorld_shape {y : PyData} (h : isWorld y = true) : ∃ c r ks, y = wD c r ks ∧ 1 ≤ c ∧ c ≤ 5 ∧ 1 ≤ r ∧ r ≤ 3 ∧ (∀ k ∈ ks, k ∈ keyNames) ∧ ks.Nodup := by
  unfold isWorld at h
  split at h
  · rename_i a b ks
    rw [Bool.and_eq_true, Bool.and_eq_true] at h
    obtain ⟨⟨h1, h2⟩, h3⟩ := h
    obtain ⟨c, rfl, c1, c2⟩ := within_int h1
    obtain ⟨r, rfl, r1, r2⟩ := within_int h2
    unfold keysOk at h3
    split at h3
    · rename_i ss hs
      rw [Bool.and_eq_true, decide_eq_true_iff, List.all_eq_true] at h3
      refine ⟨c, r, ss, by rw [strsOf_some hs]; rfl, c1, c2, r1, r2, fun k hk => ?_, (dcn_nodup ss).mp h3.2⟩
      exact List.contains_iff_mem.mp (h3.1 k hk)
    · cases h3
  · cases h
end Fb

/-! FbG: methods, classes, try; the book of a copy. -/
namespace Fb
open PySem PySem.Spec PyProof.Rows L2 Evl
/-- arguments that may change what is owned -/
def Fa (X : Cx) (es : List Expr) (r : Rho) (G H : Hp) (Q : List V → Hp → Hp → Prop) : Prop := ∀ σ, En X.K G σ r → wA X es σ H fun v H2 => ∃ G2, Ex G G2 ∧ Ex G2 H2 ∧ Q v G2 H2
/-- the wish W at every slots that the environment tells -/
def Wx (X : Cx) (W : WX) (G : Hp) (r : Rho) : XK := fun cls d H' => ∀ σ, En X.K G σ r → W cls d σ H'
theorem pass_w {X : Cx} {W : WX} {G : Hp} {r : Rho} {σ : L2.St} (tk : Takes X W) (n : En X.K G σ r) : PassesAt (L2.CX X.prog X.w) X σ (Wx X W G r) := fun pins H s e s' I ⟨a, B, H', cls, d, h1, h2, h3, h4, h5, h6, h7, h8⟩ =>
  passAt tk σ pins H s e s' I ⟨a, B, H', cls, d, h1, h2, h3, h4, h5, h6, h7, h8 σ n⟩
/-- a method of the class at C that keeps sp; a class at C, by the name x, whose __init__ keeps sp -/
structure Fm (P : Program) (w : World) (K : PySem.W.Frag) (mg : Str → Option Value) (base : Heap) (k : Nat) (C : Addr) (m : Str) (sp : Sp) : Prop where
  ex : ∃ f fd ps, FnOk P w K mg base (L2.CX P w) k f fd ps sp ∧ Meth K C m f ∧ Binds K fd ps []
structure Fk (P : Program) (w : World) (K : PySem.W.Frag) (mg : Str → Option Value) (base : Heap) (k : Nat) (C : Addr) (x : Str) (sp : Sp) : Prop where
  ex : ∃ f fd ps, FnOk P w K mg base (L2.CX P w) k f fd ps sp ∧ Mk K C f ∧ Binds K fd ps [] ∧ mg x = some (.ref C)
section
variable {X : Cx} {a b c e o : Expr} {es : List Expr} {sts ss rest : List Stmt} {r r' : Rho} {d d1 d2 d3 : Dn} {pos p p1 p2 p3 p4 apos : Pos} {D : Ends} {G0 H0 G H : Hp} {W : WX} {Q : V → Hp → Hp → Prop} {QA : List V → Hp → Hp → Prop} {os : List Addr}
theorem fa_nil (g : Ex G H) (k : QA [] G H) : Fa X [] r G H QA := fun σ n => wA_of L2.pa_nil ⟨G, Ex.refl G, g, k⟩
theorem fa_cons (h : Fx X e r G H fun v G1 H1 => Fa X es r G1 H1 fun vs G2 H2 => QA (v :: vs) G2 H2) (hs : starEach (e :: es) X.env = (false, eval e X.env) :: starEach es X.env := by rfl) : Fa X (e :: es) r G H QA := fun σ n =>
  wA_of (L2.pa_cons pe_w pa_w hs) (wE_imp (h σ n) fun v H1 ⟨G1, e1, s1, k1⟩ => wA_imp (k1 σ (n.up e1)) fun vs H2 ⟨G2, e2, s2, k2⟩ => ⟨G2, e1.trans e2, s2, k2⟩)
theorem fa_pa {ds : List Dn} (g : Ex G H) (h : Pa X es r ds) (k : ∀ vs G2 H2, Gr G H G2 H2 → Dens X.K G2 vs ds → QA vs G2 H2) : Fa X es r G H QA := fun σ n => wA_imp (h σ G H g n) fun v H2 ⟨G2, k2, q⟩ => ⟨G2, k2.g, k2.s, k v G2 H2 k2 q⟩
theorem fx_tup {j0 : Nat} (h : Fa X es r G H fun vs G1 H1 => vs.length ≤ 100000 ∧ ∀ t, H1 t = none → Q (.ref t) (upd G1 t (.tup vs)) (upd H1 t (.tup vs))) : Fx X (.Tuple es j0 pos) r G H Q := fun σ n =>
  wE_of (pe_tup pa_w) (wA_imp (h σ n) fun vs H1 ⟨G1, e1, s1, hl, k1⟩ => ⟨sz_of hl, fun t ht => by
    have kn := Gr.new (o := .tup vs) s1 ht
    exact ⟨_, e1.trans kn.g, kn.s, k1 t ht⟩⟩)
theorem fx_callF {x : Str} {k j : Nat} {sp : Sp} (F : Fc X.prog X.w X.K X.mg X.base k x sp) (hr : Room j X.A) (tk : Takes X W)
    (h : Fa X (e :: es) r G H fun vs G1 H1 => sp vs H1 (fun v H2 => ∃ G2, Ex G1 G2 ∧ Ex G2 H2 ∧ Q v G2 H2) (Wx X W G1 r)) (hk : k ≤ j := by decide) (hg : Gl X x := by rfl)
    (hdb : (x == ("__debug__" : Str)) = false := by decide) (he : starEach (e :: es) X.env = (false, eval e X.env) :: starEach es X.env := by rfl) (hpl : (backTo pos (starEach es X.env)).any (·.1) = false := by rfl) :
    Fx X (.Call (.Name x p) (e :: es) [] pos) r G H Q := fun σ n pins s I => by
  obtain ⟨f, fd, ps, F, hm, hkp, hb⟩ := F.ex
  refine wpAny_Call_Name_kw (ld_glob I hg hm ?_ hdb)
  refine PySem.W.callWith_K (h₀ := X.base) I.ok.mod.kin hkp (thn (h σ n pos pins s I) fun us s1 ⟨vs, H1, I1, rv, G1, e1, s1', k1⟩ => ⟨I1.kIn, ?_⟩) he hpl
  exact thn (run_fnS (E := fun _ => Wx X W G1 r) F (hr.mono hk) hb (pass_w tk (n.up e1)) I1 rv k1) fun u s2 ⟨v, H2, I2, rv2, G2, e2, s2', k2⟩ => ⟨v, H2, I2, rv2, G2, e1.trans e2, s2', k2⟩
/-- o.m(e, ..) -/
theorem fx_meth {C q : Addr} {m : Str} {k j : Nat} {sp : Sp} {pl : Sem Bool} (F : Fm X.prog X.w X.K X.mg X.base k C m sp) (hc : Cls X.K C) (hr : Room j X.A) (tk : Takes X W) (g : Ex G H) (ho : Pv X o r (.v (.ref q)))
    (h : ∀ G1 H1, Gr G H G1 H1 → ∃ dx fs, H1 q = some (.ins C dx fs) ∧ fs.lookup m = none ∧ Fa X (e :: es) r G1 H1 fun vs G2 H2 => sp (.ref q :: vs) H2 (fun v H3 => ∃ G3, Ex G2 G3 ∧ Ex G3 H3 ∧ Q v G3 H3) (Wx X W G2 r)) (hk : k ≤ j := by decide)
    (hst : starEach (e :: es) X.env = (false, eval e X.env) :: starEach es X.env := by rfl) (hpl : (backTo pos (starEach es X.env)).any (·.1) = false := by rfl)
    (ht : eval (.Call (.Attribute o m apos) (e :: es) [] pos) X.env = (do
        let z ← eval o X.env
        standAt apos.atName
        let (u, first) ← holding [z] (getMethod z m pl)
        callWith pos u first (backTo pos (starEach (e :: es) X.env)) (backToKw pos (keywordEach [] X.env))) := by rfl) : Fx X (.Call (.Attribute o m apos) (e :: es) [] pos) r G H Q := fun σ n pins s I => by
  obtain ⟨f, fd, ps, F, hm, hb⟩ := F.ex
  refine PySem.W.methodCall_KW (pl := pl) (thn (ho σ G H g n pins s I) fun u s1 ⟨x, H1, I1, rx, G1, k1, q1⟩ => ?_) ht
  obtain rfl : x = .ref q := q1
  obtain rfl : u = Value.ref q := rx
  obtain ⟨dx, fs, h1, h2, h3⟩ := h G1 H1 k1
  refine getmeth_ok I1 h1 hc hm h2 ?_
  refine PySem.W.callWith_K (first := [.ref q]) (h₀ := X.base) I.ok.mod.kin hm.kp (thn (h3 σ (n.up k1.g) pos pins s1 I1) fun us s2 ⟨vs, H2, I2, rv, G2, e2, s2', k2⟩ => ⟨I2.kIn, ?_⟩) hst hpl
  exact thn (run_fnS (us := .ref q :: us) (vs := .ref q :: vs) (E := fun _ => Wx X W G2 r) F (hr.mono hk) hb (pass_w tk ((n.up k1.g).up e2)) I2 (.cons rfl rv) k2) fun u s3 ⟨v, H3, I3, rv3, G3, e3, s3', k3⟩ => ⟨v, H3, I3, rv3, G3, (k1.g.trans e2).trans e3, s3', k3⟩
theorem fx_meth0 {C q : Addr} {m : Str} {k j : Nat} {sp : Sp} {pl : Sem Bool} (F : Fm X.prog X.w X.K X.mg X.base k C m sp) (hc : Cls X.K C) (hr : Room j X.A) (tk : Takes X W) (g : Ex G H) (ho : Pv X o r (.v (.ref q)))
    (h : ∀ G1 H1, Gr G H G1 H1 → ∃ dx fs, H1 q = some (.ins C dx fs) ∧ fs.lookup m = none ∧ sp [.ref q] H1 (fun v H3 => ∃ G3, Ex G1 G3 ∧ Ex G3 H3 ∧ Q v G3 H3) (Wx X W G1 r)) (hk : k ≤ j := by decide)
    (ht : eval (.Call (.Attribute o m apos) [] [] pos) X.env = (do
        let z ← eval o X.env
        standAt apos.atName
        let (u, first) ← holding [z] (getMethod z m pl)
        callWith pos u first (backTo pos (starEach [] X.env)) (backToKw pos (keywordEach [] X.env))) := by rfl) : Fx X (.Call (.Attribute o m apos) [] [] pos) r G H Q := fun σ n pins s I => by
  obtain ⟨f, fd, ps, F, hm, hb⟩ := F.ex
  refine PySem.W.methodCall_KW (pl := pl) (thn (ho σ G H g n pins s I) fun u s1 ⟨x, H1, I1, rx, G1, k1, q1⟩ => ?_) ht
  obtain rfl : x = .ref q := q1
  obtain rfl : u = Value.ref q := rx
  obtain ⟨dx, fs, h1, h2, h3⟩ := h G1 H1 k1
  refine getmeth_ok I1 h1 hc hm h2 ?_
  exact PySem.W.callWith_K0 (first := [.ref q]) I1.kIn hm.kp (thn (run_fnS (us := [.ref q]) (vs := [.ref q]) (E := fun _ => Wx X W G1 r) F (hr.mono hk) hb (pass_w tk (n.up k1.g)) I1 (.cons rfl .nil) h3) fun u s3 ⟨v, H3, I3, rv3, G3, e3, s3', k3⟩ => ⟨v, H3, I3, rv3, G3, k1.g.trans e3, s3', k3⟩)
/-- C(e, ..) -/
theorem fx_make {C : Addr} {x : Str} {k j : Nat} {sp : Sp} (F : Fk X.prog X.w X.K X.mg X.base k C x sp) (hr : Room j X.A) (tk : Takes X W)
    (h : Fa X (e :: es) r G H fun vs G1 H1 => ∀ q dx, H1 q = none → H1 dx = none → dx ≠ q → sp (.ref q :: vs) (upd (upd H1 dx (.own q)) q (.ins C dx [])) (fun v H2 => v = .non ∧ ∃ G2, Ex G1 G2 ∧ Ex G2 H2 ∧ Q (.ref q) G2 H2) (Wx X W G1 r)) (hk : k + 1 ≤ j := by decide) (hg : Gl X x := by rfl)
    (hdb : (x == ("__debug__" : Str)) = false := by decide) (he : starEach (e :: es) X.env = (false, eval e X.env) :: starEach es X.env := by rfl) (hpl : (backTo pos (starEach es X.env)).any (·.1) = false := by rfl) :
    Fx X (.Call (.Name x p) (e :: es) [] pos) r G H Q := fun σ n pins s I => by
  obtain ⟨f, fd, ps, F, M, hb, hm⟩ := F.ex
  refine wpAny_Call_Name_kw (ld_glob I hg hm ?_ hdb)
  refine PySem.W.callWith_K (h₀ := X.base) I.ok.mod.kin M.kp (thn (h σ n pos pins s I) fun us s1 ⟨vs, H1, I1, rv, G1, e1, s1', k1⟩ => ⟨I1.kIn, ?_⟩) he hpl
  have hq := k1 (s1.heap.objs.size + 1) s1.heap.objs.size (I1.hok.fresh (Nat.le_succ _)) (I1.hok.fresh (Nat.le_refl _)) (Nat.ne_of_lt (Nat.lt_succ_self _))
  have I2 := Inv.made (C := C) I1
  have hl := F.len _ _ _ _ hq
  have r2 : Vals (V.ref (s1.heap.objs.size + 1) :: vs) (Value.ref (s1.heap.objs.size + 1) :: us) := .cons rfl rv
  rw [r2.length] at hl
  have bb := hb _ (Value.ref (s1.heap.objs.size + 1) :: us) I2.kIn (by rw [List.append_nil]; exact hl)
  rw [List.append_nil] at bb
  refine wpAny_call (make_map (f := f) I1.kIn M.makes M.init (beq_iff_eq.mp M.fn) (codeAny_mono (F.run _ X.stack _ _ _ _ _ _ _ ((hr.mono hk).make C us []) (I2.env0.make C us []) bb r2 hq) fun w s' hq' => ?_))
  cases w with
  | error e => exact pass_w tk (n.up e1) pins _ _ e s' I2 hq'
  | ok fl =>
    cases fl with
    | ret u =>
      obtain ⟨v, H', I3, rv3, ev, G2, e2, s2', k2⟩ := I2.after hq'
      subst ev
      exact ⟨rv3, ⟨V.ref (s1.heap.objs.size + 1), H', I3, rfl, G2, e1.trans e2, s2', k2⟩⟩
    | next => exact False.elim hq'
    | brk => exact False.elim hq'
    | cont => exact False.elim hq'
/-- o.m(..) by a pure promise, o a thing that is read -/
theorem pv_meth {C q : Addr} {fs : List (Str × Fd)} {m : Str} {k j : Nat} {R : List Dn → Dn → Prop} {B : List Dn → Addr → Prop} {ds : List Dn} {pl : Sem Bool} (F : Fm X.prog X.w X.K X.mg X.base k C m (spR X.K R B)) (hc : Cls X.K C) (hr : Room j X.A) (ho : Pv X o r (.ob q C fs)) (hn : fs.lookup m = none) (ha : Pa X (e :: es) r ds) (hR : R (.ob q C fs :: ds) d) (hk : k ≤ j := by decide)
    (hst : starEach (e :: es) X.env = (false, eval e X.env) :: starEach es X.env := by rfl) (hpl : (backTo pos (starEach es X.env)).any (·.1) = false := by rfl)
    (ht : eval (.Call (.Attribute o m apos) (e :: es) [] pos) X.env = (do
        let z ← eval o X.env
        standAt apos.atName
        let (u, first) ← holding [z] (getMethod z m pl)
        callWith pos u first (backTo pos (starEach (e :: es) X.env)) (backToKw pos (keywordEach [] X.env))) := by rfl) : Pv X (.Call (.Attribute o m apos) (e :: es) [] pos) r d := fun σ G H g n => by
  obtain ⟨f, fd, ps, F, hm, hb⟩ := F.ex
  refine wE_of (pe_meth (dvs := []) pe_w hc hm F (hr.mono hk) hb .nil passL pa_w hst hpl ht) (wE_imp (ho σ G H g n) fun x H1 ⟨G1, k1, q1⟩ => ?_)
  obtain ⟨dx, ws, rfl, h1, h2⟩ := q1
  refine ⟨q, dx, ws, rfl, k1.s _ _ h1, lookup_none h2 hn, wA_imp (ha σ G1 H1 k1.s (n.up k1.g)) fun vs H2 ⟨G2, k2, q2⟩ => ?_⟩
  rw [List.append_nil]
  exact ⟨_, G2, k2.s, .cons (Den.up (d := .ob q C fs) k2.g ⟨dx, ws, rfl, h1, h2⟩) q2, .inl ⟨d, hR, fun v G3 H3 k3 q3 => ⟨G3, (k1.trans k2).trans k3, q3⟩⟩⟩
where
  lookup_none {K : PySem.W.Frag} {H : Hp} {f : Str} : ∀ {ws : List (Str × V)} {fs : List (Str × Fd)}, Paired (fun (p : Str × V) (q : Str × Fd) => p.1 = q.1 ∧ DenF K H p.2 q.2) ws fs → fs.lookup f = none → ws.lookup f = none
  | _, _, .nil, _ => rfl
  | (a, v) :: ws, (b, g) :: fs, .cons ⟨h1, h2⟩ t, h => by
    have h1' : a = b := h1
    subst h1'
    rw [List.lookup_cons] at h ⊢
    cases q : f == a with
    | true => rw [q] at h; cases h
    | false => rw [q] at h; exact lookup_none t h
theorem pv_meth0 {C q : Addr} {fs : List (Str × Fd)} {m : Str} {k j : Nat} {R : List Dn → Dn → Prop} {B : List Dn → Addr → Prop} {pl : Sem Bool} (F : Fm X.prog X.w X.K X.mg X.base k C m (spR X.K R B)) (hc : Cls X.K C) (hr : Room j X.A) (ho : Pv X o r (.ob q C fs)) (hn : fs.lookup m = none) (hR : R [.ob q C fs] d) (hk : k ≤ j := by decide)
    (ht : eval (.Call (.Attribute o m apos) [] [] pos) X.env = (do
        let z ← eval o X.env
        standAt apos.atName
        let (u, first) ← holding [z] (getMethod z m pl)
        callWith pos u first (backTo pos (starEach [] X.env)) (backToKw pos (keywordEach [] X.env))) := by rfl) : Pv X (.Call (.Attribute o m apos) [] [] pos) r d := fun σ G H g n => by
  obtain ⟨f, fd, ps, F, hm, hb⟩ := F.ex
  refine wE_of (pe_meth0 (dvs := []) pe_w hc hm F (hr.mono hk) hb .nil passL ht) (wE_imp (ho σ G H g n) fun x H1 ⟨G1, k1, q1⟩ => ?_)
  obtain ⟨dx, ws, rfl, h1, h2⟩ := q1
  exact ⟨q, dx, ws, rfl, k1.s _ _ h1, pv_meth.lookup_none h2 hn, [.ob q C fs], G1, k1.s, .cons (show Den X.K G1 (.ref q) (.ob q C fs) from ⟨dx, ws, rfl, h1, h2⟩) .nil, .inl ⟨d, hR, fun v G3 H3 k3 q3 => ⟨G3, k1.trans k3, q3⟩⟩⟩

/-! ### try .. except .. except .. -/
def hTs (X : Cx) (suite : List Stmt) : Addr → Value → Option Addr → TS := fun a cls d D σ H => ∀ oe pn, Zc cls d oe → wSs (X.suite a ((a, oe) :: pn)) suite D σ H
theorem hd_cons {x : Str} {v : Value} {b₀ : Stmt} {suite : List Stmt} {np pos' : Pos} {hds : List ExceptHandler} {l : List (Value × (Addr → Value → Option Addr → TS))} (hc : Names X x v) (k : HdsOk X hds l) : HdsOk X (.ExceptHandler (some (.Name x np)) none (b₀ :: suite) pos' :: hds) ((v, hTs X (b₀ :: suite)) :: l) :=
  .cons hc (fun a oe cls d pn z _ => ⟨fun pins s σ H D I h => h oe pn z pins s I⟩) k
theorem go_try {body : List Stmt} {h₀ : ExceptHandler} {hds : List ExceptHandler} {l : List (Value × (Addr → Value → Option Addr → TS))} {Wout : WX} (tk : Takes X Wout) (hh : HdsOk X (h₀ :: hds) l)
    (hb : ∀ pn xe, Takes (X.tr pn xe) (wMany X.K Wout { D with nx := wSs X rest D } l) → Go (X.tr pn xe) body { D with nx := wSs X rest D } G0 H0 r) (hs : X.stack = X.env :: X.outer := by rfl) (hf : X.env.frame = some X.env.locals := by rfl) :
    Go X (.Try body (h₀ :: hds) [] [] pos :: rest) D G0 H0 r := fun σ G H g n =>
  wSs_of (pss_cons (ps_try_many (tb := fun W D σ H => ∀ pn xe, Takes (X.tr pn xe) W → wSs (X.tr pn xe) body D σ H) hs hf tk (fun W pn xe t _ => ⟨fun pins s σ H D I h => h pn xe t pins s I⟩) hh) pss_w) (fun pn xe t => hb pn xe t σ G H g n)
theorem many_hit {K : PySem.W.Frag} {Wout : WX} {cls c : Value} {dd : Option Addr} {ts : Addr → Value → Option Addr → TS} {l : List (Value × (Addr → Value → Option Addr → TS))} {σ : L2.St} (h : PySem.W.exmOne K cls c = some true) (k : ∀ a, H a = none → ts a cls dd D σ H) : wMany K Wout D ((c, ts) :: l) cls dd σ H := ⟨true, h, fun _ => k, fun q => nomatch q⟩
theorem many_miss {K : PySem.W.Frag} {Wout : WX} {cls c : Value} {dd : Option Addr} {ts : Addr → Value → Option Addr → TS} {l : List (Value × (Addr → Value → Option Addr → TS))} {σ : L2.St} (h : PySem.W.exmOne K cls c = some false) (k : wMany K Wout D l cls dd σ H) : wMany K Wout D ((c, ts) :: l) cls dd σ H := ⟨false, h, (fun q => nomatch q), fun _ => k⟩
end

/-! ### the book of a copy -/
structure Bk where
  c : Int
  r : Int
  ks : List Str
  mine : Int
  facts : List PyData
  clock : Int
  own : Int
  seen : List (List Key × PyData)
def Bk.wd (b : Bk) : PyData := wD b.c b.r b.ks
def Bk.fs (b : Bk) : List (Str × Fd) := [("world", .d b.wd), ("mine", .d (.int b.mine)), ("facts", .d (.list b.facts)), ("clock", .d (.int b.clock)), ("own", .d (.int b.own)), ("seen", .t b.seen)]
def bkF (b : Bk) (wv : V) (l sd : Addr) : List (Str × V) := [("world", wv), ("mine", .int b.mine), ("facts", .ref l), ("clock", .int b.clock), ("own", .int b.own), ("seen", .ref sd)]
structure CopyAt (K : PySem.W.Frag) (C : Addr) (G H : Hp) (p l sd : Addr) (b : Bk) : Prop where
  gp : G p = none
  gl : G l = none
  gs : G sd = none
  ex : ∃ dx wv fvs svs, H p = some (.ins C dx (bkF b wv l sd)) ∧ Dp K G wv b.wd ∧ H l = some (.lst fvs) ∧ DpAll K G fvs b.facts ∧ H sd = some (.dT svs) ∧ Paired (fun (p : List Key × V) (q : List Key × PyData) => p.1 = q.1 ∧ Dp K G p.2 q.2) svs b.seen
section
variable {K : PySem.W.Frag} {C p l sd : Addr} {G H G2 H2 : Hp} {b : Bk} {os : List Addr}
theorem CopyAt.frame (A : CopyAt K C G H p l sd b) (k : Gx os G H G2 H2) (hp : p ∉ os) (hl : l ∉ os) (hs : sd ∉ os) : CopyAt K C G2 H2 p l sd b := by
  obtain ⟨gp, gl, gs, dx, wv, fvs, svs, h1, h2, h3, h4, h5, h6⟩ := A
  exact ⟨k.out gp (some_nt h1), k.out gl (some_nt h3), k.out gs (some_nt h5), dx, wv, fvs, svs, k.h _ _ hp h1, dp_up k.g _ _ h2, k.h _ _ hl h3, dpAll_up k.g _ _ h4, k.h _ _ hs h5, L2.Paired.mapP h6 fun _ _ z => ⟨z.1, dp_up k.g _ _ z.2⟩⟩
theorem CopyAt.up (A : CopyAt K C G H p l sd b) (k : Gr G H G2 H2) : CopyAt K C G2 H2 p l sd b := A.frame (os := []) k.x (by simp) (by simp) (by simp)
theorem En.re {K : PySem.W.Frag} {G : Hp} {σ : L2.St} {r : Rho} {i : Nat} {x : V} {d : Dn} (n : En K G σ r) (h : r[i]? = some (some (.v x))) (q : Den K G x d) : En K G σ (r.set i (some d)) := by
  refine ⟨by rw [List.length_set]; exact n.len, fun j e hj => ?_⟩
  by_cases hij : i = j
  · subst hij
    obtain ⟨v, h1, h2⟩ := n.at_ i _ h
    have hl : i < r.length := (List.getElem?_eq_some_iff.mp h).1
    rw [List.getElem?_set_self hl] at hj
    cases hj
    obtain rfl : v = x := h2
    exact ⟨v, h1, q⟩
  · rw [List.getElem?_set_ne hij] at hj
    exact n.at_ j e hj
theorem CopyAt.ob (A : CopyAt K C G H p l sd b) : Den K (plus G H [p, l, sd]) (.ref p) (.ob p C b.fs) := by
  obtain ⟨gp, gl, gs, dx, wv, fvs, svs, h1, h2, h3, h4, h5, h6⟩ := A
  have e : Ex G (plus G H [p, l, sd]) := plus_g fun a ha => by
    simp only [List.mem_cons, List.not_mem_nil, or_false] at ha
    rcases ha with rfl | rfl | rfl
    · exact gp
    · exact gl
    · exact gs
  refine ⟨dx, bkF b wv l sd, rfl, by rw [plus_in (by simp)]; exact h1, ?_⟩
  refine .cons ⟨rfl, dp_up e _ _ h2⟩ (.cons ⟨rfl, Dp.int _⟩ (.cons ⟨rfl, Dp.lst (.inl (by rw [plus_in (by simp)]; exact h3)) (dpAll_up e _ _ h4)⟩ (.cons ⟨rfl, Dp.int _⟩ (.cons ⟨rfl, Dp.int _⟩ (.cons ⟨rfl, ?_⟩ .nil)))))
  exact ⟨sd, svs, rfl, .inl (by rw [plus_in (by simp)]; exact h5), L2.Paired.mapP h6 fun _ _ z => ⟨z.1, dp_up e _ _ z.2⟩⟩
theorem CopyAt.own {r : Rho} {i : Nat} (A : CopyAt K C G H p l sd b) (hi : r[i]? = some (some (.v (.ref p)))) : Own K [p, l, sd] r (r.set i (some (.ob p C b.fs))) G H := by
  have hO := A.ob
  obtain ⟨gp, gl, gs, dx, wv, fvs, svs, h1, h2, h3, h4, h5, h6⟩ := A
  have no : ∀ a, a ∈ [p, l, sd] → G a = none := fun a ha => by
    simp only [List.mem_cons, List.not_mem_nil, or_false] at ha
    rcases ha with rfl | rfl | rfl
    · exact gp
    · exact gl
    · exact gs
  refine ⟨no, fun a ha => ?_, fun σ n => (n.up (plus_g no)).re hi hO⟩
  simp only [List.mem_cons, List.not_mem_nil, or_false] at ha
  rcases ha with rfl | rfl | rfl
  · exact ⟨_, h1, (fun _ z => nomatch z), (fun _ _ z => nomatch z)⟩
  · exact ⟨_, h3, (fun _ z => nomatch z), (fun _ _ z => nomatch z)⟩
  · exact ⟨_, h5, (fun _ z => nomatch z), (fun _ _ z => nomatch z)⟩
end
theorem Own.refl {K : PySem.W.Frag} {r : Rho} {G H : Hp} : Own K [] r r G H := ⟨fun _ h => absurd h (by simp), fun _ h => absurd h (by simp), fun σ n => by
  have : plus G H [] = G := by funext a; exact plus_out (by simp)
  rw [this]; exact n⟩
/-- the promise of a method that changes the book: R of the book, the arguments, the book then, the answer; or, B, an error, and the book as it was -/
def spM (K : PySem.W.Frag) (C : Addr) (R : Bk → List PyData → Bk → PyData → Prop) (B : Bk → List PyData → Addr → Prop) : Sp := fun vs H Q E => ∃ (p l sd : Addr) (b : Bk) (us : List V) (ds : List PyData) (G : Hp), vs = .ref p :: us ∧ Ex G H ∧ CopyAt K C G H p l sd b ∧ DpAll K G us ds ∧
  ((∃ b' d, R b ds b' d ∧ ∀ v G' H' sd', Gx [p, l, sd] G H G' H' → (sd' = sd ∨ H sd' = none) → CopyAt K C G' H' p l sd' b' → Dp K G' v d → Q v H') ∨ (∃ A, B b ds A ∧ ∀ G' H', Gr G H G' H' → E (.ref A) none H'))
end Fb

/-! FbH: loops that change what is owned; methods' promises; fields of the book; sorted of one; data that may be compared. -/
namespace Fb
open PySem PySem.Spec PyProof.Rows L2 Evl
section
variable {X : Cx} {a b c e o : Expr} {es : List Expr} {sts ss rest : List Stmt} {r r' : Rho} {d d1 d2 d3 : Dn} {pos p p1 p2 p3 p4 apos : Pos} {D : Ends} {G0 H0 G H : Hp} {W : WX} {Q : V → Hp → Hp → Prop}
/-- o.f = e, the object known -/
theorem gx_put {q C dx : Addr} {f : Str} {fs : List (Str × V)} {p' : Pos} (hc : Cls X.K C) (hn : NoAttr X.K C f) (ho : Pv X o r (.v (.ref q))) (he : Pv X e r d) (gq : G0 q = none) (hq : H0 q = some (.ins C dx fs)) (hl : fs.length < 1000)
    (k : ∀ v G1 H1, Gx [q] G0 H0 G1 H1 → G1 q = none → H1 q = some (.ins C dx (putF f v fs)) → Den X.K G1 v d → Go X rest D G1 H1 r) (hs : swapsWith e (some (.Attribute o f p')) pos.line X.env = pure false := by rfl) : Go X (.Assign [.Attribute o f p'] e pos :: rest) D G0 H0 r :=
  gx_fld hc hn ho (fun G H g => fx_pv g.s he fun v G1 H1 g1 q1 => by
    have kk := g.trans g1
    have g1q := kk.out gq (some_nt hq)
    exact ⟨dx, fs, kk.h _ _ hq, hl, g1q, k v G1 _ (kk.x.trans (Gx.set g1.s (by simp) g1q)) g1q upd_same q1⟩) hs
theorem gx_putL {q C dx : Addr} {f : Str} {fs : List (Str × V)} {p' : Pos} (hc : Cls X.K C) (hn : NoAttr X.K C f) (ho : Pv X o r (.v (.ref q))) (gq : G0 q = none) (hq : H0 q = some (.ins C dx fs)) (hl : fs.length < 1000)
    (k : ∀ l G1 H1, H0 l = none → Gx [q] G0 H0 G1 H1 → G1 q = none → G1 l = none → H1 q = some (.ins C dx (putF f (.ref l) fs)) → H1 l = some (.lst []) → Go X rest D G1 H1 r) (hs : swapsWith (.List [] p) (some (.Attribute o f p')) pos.line X.env = pure false := by rfl) : Go X (.Assign [.Attribute o f p'] (.List [] p) pos :: rest) D G0 H0 r :=
  gx_fld hc hn ho (fun G H g => fx_newL g.s fun l hn => by
    have hq' := g.h _ _ hq
    have ne : q ≠ l := fun z => by rw [z, hn] at hq'; cases hq'
    have gq' := g.out gq (some_nt hq)
    refine ⟨dx, fs, by rw [upd_ne ne]; exact hq', hl, gq', k l G _ (fresh_back g.h hn) ((g.x.trans (Gx.lay g.s hn)).trans (Gx.set (g.s.trans (Ex.new hn)) (by simp) gq')) gq' (fresh_back g.s hn) upd_same ?_⟩
    rw [upd_ne ne.symm, upd_same]) hs
theorem gx_putD {q C dx : Addr} {f : Str} {fs : List (Str × V)} {p' : Pos} (hc : Cls X.K C) (hn : NoAttr X.K C f) (ho : Pv X o r (.v (.ref q))) (gq : G0 q = none) (hq : H0 q = some (.ins C dx fs)) (hl : fs.length < 1000)
    (k : ∀ l G1 H1, H0 l = none → Gx [q] G0 H0 G1 H1 → G1 q = none → G1 l = none → H1 q = some (.ins C dx (putF f (.ref l) fs)) → H1 l = some (.dT []) → Go X rest D G1 H1 r) (hs : swapsWith (.Dict [] [] p) (some (.Attribute o f p')) pos.line X.env = pure false := by rfl) : Go X (.Assign [.Attribute o f p'] (.Dict [] [] p) pos :: rest) D G0 H0 r :=
  gx_fld hc hn ho (fun G H g => fx_newD g.s fun l hn => by
    have hq' := g.h _ _ hq
    have ne : q ≠ l := fun z => by rw [z, hn] at hq'; cases hq'
    have gq' := g.out gq (some_nt hq)
    refine ⟨dx, fs, by rw [upd_ne ne]; exact hq', hl, gq', k l G _ (fresh_back g.h hn) ((g.x.trans (Gx.lay g.s hn)).trans (Gx.set (g.s.trans (Ex.new hn)) (by simp) gq')) gq' (fresh_back g.s hn) upd_same ?_⟩
    rw [upd_ne ne.symm, upd_same]) hs
/-- behind a turn -/
def Lp (K : PySem.W.Frag) (I : Nat → Rho → Hp → Hp → Prop) (i : Nat) (G1 : Hp) : L2.St → Hp → Prop := fun σ H => ∃ r3 G5, I i r3 G5 H ∧ Ex G1 G5 ∧ Ex G5 H ∧ En K G5 σ r3
/-- for tg in iter, whose turns change what is owned -/
theorem gx_for {al : Type} {tg iter : Expr} {xs : List al} {enc : al → Dn} (I : Nat → Rho → Hp → Hp → Prop) (hp : PassesOwn (model X.prog X.w) X.A X.env X.xe) (hc : X.calm = true) (hw : Wk X tg iter r (xs.map enc)) (hm : ∀ i r G H G2 H2, I i r G H → Gr G H G2 H2 → I i r G2 H2) (h0 : ∀ G H, Gr G0 H0 G H → I 0 r G H)
    (hs : ∀ i x r1 G1 H1, xs[i]? = some x → Ex G1 H1 → I i r1 G1 H1 → ∃ r2 js, Pg X tg r1 (enc x) r2 js ∧ Go X ss { D with nx := Lp X.K I (i + 1) G1, ct := Lp X.K I (i + 1) G1, bk := wSs X rest D } G1 H1 r2)
    (hd : ∀ r1 G1 H1, I xs.length r1 G1 H1 → Ex G1 H1 → Go X rest D G1 H1 r1) (hfs : ∀ v, foldedSetIterable iter X.env v = pure v := by intro _; rfl) : Go X (.For tg iter ss [] pos :: rest) D G0 H0 r := by
  obtain ⟨wi, hi, hwi⟩ := hw
  intro σ G H g n
  refine wSs_of (pss_cons (ps_for hp hc hi pg_w pss_w hfs) pss_w) ?_
  refine hwi σ G H g.s n _ fun J G1 H1 k1 hgo hyl hst => ?_
  rw [List.length_map] at hgo hst
  refine ⟨fun i m σ' H' => m = xs.length - i ∧ i ≤ xs.length ∧ ∃ r1 G', I i r1 G' H' ∧ Ex G1 G' ∧ Ex G' H' ∧ En X.K G' σ' r1, ⟨xs.length, by simp, Nat.zero_le _, r, G1, h0 _ _ (g.trans k1), Ex.refl _, k1.s, n.up k1.g⟩, ?_⟩
  rintro i m σ' H' ⟨rfl, hi2, r1, G', hP, e', s', n'⟩
  by_cases hlt : i < xs.length
  · obtain ⟨x, hx⟩ : ∃ x, xs[i]? = some x := ⟨xs[i], List.getElem?_eq_getElem hlt⟩
    refine .inr ⟨hgo i H' (e'.trans s') hlt, fun σ3 H3 => ∃ r3 G3, I (i + 1) r3 G3 H3 ∧ Ex G1 G3 ∧ Ex G3 H3 ∧ En X.K G3 σ3 r3, fun σ3 H3 ⟨r3, G3, q1, q2, q3, q4⟩ => ⟨xs.length - (i + 1), by omega, rfl, hlt, r3, G3, q1, q2, q3, q4⟩, fun v H3 yl => ?_⟩
    obtain ⟨G3, k3, q3⟩ := hyl i G' H' v H3 e' s' yl (enc x) (by rw [List.getElem?_map, hx]; rfl)
    obtain ⟨r2, js, hg, hb⟩ := hs i x r1 G3 H3 hx k3.s (hm _ _ _ _ _ _ hP k3)
    refine wG_imp (hg σ' G3 H3 v k3.s (n'.up k3.g) q3) fun σ2 H4 ⟨e4, n4, _⟩ => ?_
    subst e4
    have fin : ∀ σ5 H5, Lp X.K I (i + 1) G3 σ5 H5 → ∃ r3 G5, I (i + 1) r3 G5 H5 ∧ Ex G1 G5 ∧ Ex G5 H5 ∧ En X.K G5 σ5 r3 := fun σ5 H5 ⟨r5, G5, q1, q2, q5, q6⟩ => ⟨r5, G5, q1, (e'.trans k3.g).trans q2, q5, q6⟩
    exact wSs_imp (hb σ2 G3 H4 (Gr.refl k3.s) n4) fin (fun _ _ z => z) (fun _ _ z => z) fin
  · have hi3 : i = xs.length := by omega
    subst hi3
    exact .inl ⟨hst _ H' (e'.trans s') (Nat.le_refl _), hd r1 G' H' hP s' σ' G' H' (Gr.refl s') n'⟩
theorem perm_one {α : Type} {xs ys : List α} (h : xs.length ≤ 1) (hp : ys.Perm xs) : ys = xs := by
  cases xs with
  | nil => exact List.perm_nil.mp hp
  | cons x t =>
    cases t with
    | nil => exact List.perm_singleton.mp hp
    | cons y t => simp at h
/-- sorted(xs) of at most one thing -/
theorem cr_sorted1 : CallR X (.builtin "sorted") (fun vs H Q => ∃ a xs, vs = [V.ref a] ∧ SqL X.K H a xs ∧ xs.length ≤ 1 ∧ ∀ p, H p = none → Q (.ref p) (upd H p (.lst xs))) := by
  intro pins s σ H vs us Q I r h
  obtain ⟨a, xs, rfl, hs, hx, q⟩ := h
  obtain ⟨its, rv, hl, hz⟩ := I.list hs
  obtain ⟨u, rfl, ru⟩ := vals1 r
  obtain rfl : u = Value.ref a := ru
  have hlen : its.length ≤ 1 := by rw [← rv.length]; exact hx
  refine Srt.sorted_any hl.isList (by rw [← rv.length]; exact hz) (fun h2 => absurd h2 (by omega)) fun out hp => ?_
  have ho : out = its := perm_one hlen hp
  subst ho
  obtain ⟨n, hn⟩ := PyProof.Rows.sortedAll_at s.heap out out.toArray
  exact ⟨.ref (s.heap.objs.size + 1), upd H (s.heap.objs.size + 1) (.lst xs), I.laid (t' := s.toks) (fun b o e => PyProof.Rows.sortedAll_old e) (Nat.le_succ _) ⟨hz, out, n, rv, hn⟩, rfl, q _ (I.hok.fresh (Nat.le_succ _))⟩
theorem pv_sorted1 {xs : List PyData} (hm : X.mg "sorted" = none) (ha : Pv X a r (.d (.list xs))) (h1 : xs.length ≤ 1) (hg : Gl X "sorted" := by rfl) (he : starEach [a] X.env = (false, eval a X.env) :: starEach [] X.env := by rfl) (hpl : (backTo pos (starEach [] X.env)).any (·.1) = false := by rfl) :
    Pv X (.Call (.Name "sorted" p) [a] [] pos) r (.d (.list xs)) :=
  pv_callB cr_sorted1 hg hm PyProof.Rows.boot_sorted (pa_cons ha pa_nil he) (fun vs G H Q g hd k => by
    obtain ⟨v, rfl, hv⟩ := dens1 hd
    cases hv with
    | lst q1 q2 => exact ⟨_, _, rfl, .inl (ex_rd g q1), by rw [DpAll.len q2]; exact h1, fun l hl => k _ _ _ (Gr.new g hl) (Dp.lst (.inl upd_same) (dpAll_up (Ex.new (fresh_back g hl)) _ _ q2))⟩) (he := he) (hpl := hpl)
end
/-- a method that changes the book -/
theorem okM {P : Program} {w : World} {K : PySem.W.Frag} {mg : Str → Option Value} {base : Heap} {C : Addr} {x qual : Str} {st : Stmt} {f : Addr} {fd : FuncData} {N ps : List Str} {k : Nat} {R : Bk → List PyData → Bk → PyData → Prop} {B : Bk → List PyData → Addr → Prop} (F : Fun K x qual st f fd) (S : FnScope N ps (defScope st))
    (hR : ∀ b ds b' d, R b ds b' d → ds.length + 1 = ps.length) (hB : ∀ b ds A, B b ds A → ds.length + 1 = ps.length)
    (body : ∀ (cdv : Value) (A : Around) (outer : List Env) (s : Shared) (H : Hp) (Q : VK) (E : XK) (p l sd : Addr) (b : Bk) (ds : List PyData) (b' : Bk) (d : PyData) (G : Hp), Room k (A.deeper (envOfC qual (defScope st) s.heap.objs.size f cdv)) → Ex G H → CopyAt K C G H p l sd b → R b ds b' d →
      (∀ v G' H' sd', Gx [p, l, sd] G H G' H' → (sd' = sd ∨ H sd' = none) → CopyAt K C G' H' p l sd' b' → Dp K G' v d → Q v H') →
      Go (cxOf (L2.CX P w) P w K mg base N qual (defScope st) f cdv A outer s H E) (defBody st) { nx := fun _ H' => Q .non H', rt := Q } G H (some (.v (.ref p)) :: (ds.map fun y => some (.d y)) ++ List.replicate (N.length - (ds.length + 1)) none))
    (bad : ∀ (cdv : Value) (A : Around) (outer : List Env) (s : Shared) (H : Hp) (Q : VK) (E : XK) (p l sd : Addr) (b : Bk) (ds : List PyData) (Z : Addr) (G : Hp), Room k (A.deeper (envOfC qual (defScope st) s.heap.objs.size f cdv)) → Ex G H → CopyAt K C G H p l sd b → B b ds Z →
      (∀ G' H', Gr G H G' H' → E (.ref Z) none H') →
      Go (cxOf (L2.CX P w) P w K mg base N qual (defScope st) f cdv A outer s H E) (defBody st) { nx := fun _ H' => Q .non H', rt := Q } G H (some (.v (.ref p)) :: (ds.map fun y => some (.d y)) ++ List.replicate (N.length - (ds.length + 1)) none)) : FnOk P w K mg base (L2.CX P w) (k + 1) f fd ps (spM K C R B) := by
  refine F.okX S ?_ (fun cdv A outer s H vs Q E hr h => ⟨_, pss_w, ?_⟩)
  · rintro vs H Q E ⟨p, l, sd, b, us, ds, G, rfl, _, _, hd, ⟨b', d, hr, _⟩ | ⟨Z, hb, _⟩⟩
    · rw [List.length_cons, DpAll.len hd]; exact hR _ _ _ _ hr
    · rw [List.length_cons, DpAll.len hd]; exact hB _ _ _ hb
  · obtain ⟨p, l, sd, b, us, ds, G, rfl, g, A1, hd, h⟩ := h
    have hD : Dens K G (.ref p :: us) (.v (.ref p) :: ds.map Dn.d) := .cons (show Den K G (.ref p) (.v (.ref p)) from rfl) (Dens.of hd)
    have e : ((Dn.v (.ref p) :: ds.map Dn.d).map some ++ List.replicate (N.length - (V.ref p :: us).length) none : Rho) = some (.v (.ref p)) :: (ds.map fun y => some (.d y)) ++ List.replicate (N.length - (ds.length + 1)) none := by
      rw [List.length_cons, DpAll.len hd, List.map_cons, List.map_map]
      rfl
    refine go_in g hD ?_
    rw [e]
    rcases h with ⟨b', d, hr', k'⟩ | ⟨Z, hb, k'⟩
    · exact body cdv A outer s H Q E p l sd b ds b' d G hr g A1 hr' k'
    · exact bad cdv A outer s H Q E p l sd b ds Z G hr g A1 hb k'

/-! ### the book's fields -/
theorem lk_hit {α : Type} {k : Str} {v : α} {r : List (Str × α)} : List.lookup k ((k, v) :: r) = some v := by simp [List.lookup]
theorem lk_miss {α : Type} {k g : Str} {v : α} {r : List (Str × α)} (h : (k == g) = false) : List.lookup k ((g, v) :: r) = List.lookup k r := by simp only [List.lookup, h]
theorem lk_none {α : Type} {m : Str} : ∀ {l : List (Str × α)}, ((l.map (·.1)).all fun g => !(m == g)) = true → l.lookup m = none
  | [], _ => rfl
  | (g, v) :: l, h => by
    rw [List.map_cons, List.all_cons, Bool.and_eq_true] at h
    rw [lk_miss (by simpa using h.1)]
    exact lk_none h.2
theorem pf_hit {f : Str} {v x : V} {r : List (Str × V)} : putF f v ((f, x) :: r) = (f, v) :: r := if_pos rfl
theorem pf_past {f g : Str} {v x : V} {r : List (Str × V)} (h : ¬ g = f) : putF f v ((g, x) :: r) = (g, x) :: putF f v r := if_neg h
section
variable (b : Bk) (wv : V) (l sd : Addr)
theorem fs_world : b.fs.lookup ("world" : Str) = some (.d b.wd) := lk_hit
theorem fs_mine : b.fs.lookup ("mine" : Str) = some (.d (.int b.mine)) := (lk_miss (by decide +kernel)).trans lk_hit
theorem fs_facts : b.fs.lookup ("facts" : Str) = some (.d (.list b.facts)) := (lk_miss (by decide +kernel)).trans ((lk_miss (by decide +kernel)).trans lk_hit)
theorem fs_clock : b.fs.lookup ("clock" : Str) = some (.d (.int b.clock)) := (lk_miss (by decide +kernel)).trans ((lk_miss (by decide +kernel)).trans ((lk_miss (by decide +kernel)).trans lk_hit))
theorem fs_own : b.fs.lookup ("own" : Str) = some (.d (.int b.own)) := (lk_miss (by decide +kernel)).trans ((lk_miss (by decide +kernel)).trans ((lk_miss (by decide +kernel)).trans ((lk_miss (by decide +kernel)).trans lk_hit)))
theorem fs_seen : b.fs.lookup ("seen" : Str) = some (.t b.seen) := (lk_miss (by decide +kernel)).trans ((lk_miss (by decide +kernel)).trans ((lk_miss (by decide +kernel)).trans ((lk_miss (by decide +kernel)).trans ((lk_miss (by decide +kernel)).trans lk_hit))))
theorem bf_facts : (bkF b wv l sd).lookup ("facts" : Str) = some (.ref l) := (lk_miss (by decide +kernel)).trans ((lk_miss (by decide +kernel)).trans lk_hit)
theorem bf_clock : (bkF b wv l sd).lookup ("clock" : Str) = some (.int b.clock) := (lk_miss (by decide +kernel)).trans ((lk_miss (by decide +kernel)).trans ((lk_miss (by decide +kernel)).trans lk_hit))
theorem bf_own : (bkF b wv l sd).lookup ("own" : Str) = some (.int b.own) := (lk_miss (by decide +kernel)).trans ((lk_miss (by decide +kernel)).trans ((lk_miss (by decide +kernel)).trans ((lk_miss (by decide +kernel)).trans lk_hit)))
theorem bf_setC (i : Int) : putF "clock" (.int i) (bkF b wv l sd) = bkF { b with clock := i } wv l sd := (pf_past (by decide +kernel)).trans (congrArg _ ((pf_past (by decide +kernel)).trans (congrArg _ ((pf_past (by decide +kernel)).trans (congrArg _ pf_hit)))))
theorem bf_setO (i : Int) : putF "own" (.int i) (bkF b wv l sd) = bkF { b with own := i } wv l sd := (pf_past (by decide +kernel)).trans (congrArg _ ((pf_past (by decide +kernel)).trans (congrArg _ ((pf_past (by decide +kernel)).trans (congrArg _ ((pf_past (by decide +kernel)).trans (congrArg _ pf_hit)))))))
theorem bf_setS (z : Addr) : putF "seen" (.ref z) (bkF b wv l sd) = bkF b wv l z := (pf_past (by decide +kernel)).trans (congrArg _ ((pf_past (by decide +kernel)).trans (congrArg _ ((pf_past (by decide +kernel)).trans (congrArg _ ((pf_past (by decide +kernel)).trans (congrArg _ ((pf_past (by decide +kernel)).trans (congrArg _ pf_hit)))))))))
/-- no field has the name of a method -/
def fieldNames : List Str := ["world", "mine", "facts", "clock", "own", "seen"]
theorem fs_no {m : Str} (h : (fieldNames.all fun g => !(m == g)) = true) : b.fs.lookup m = none := lk_none h
theorem bf_no {m : Str} (h : (fieldNames.all fun g => !(m == g)) = true) : (bkF b wv l sd).lookup m = none := lk_none h
end
/-- made: the six fields, in turn -/
theorem bf_made (b : Bk) (wv : V) (l sd : Addr) : putF "seen" (.ref sd) (putF "own" (.int b.own) (putF "clock" (.int b.clock) (putF "facts" (.ref l) (putF "mine" (.int b.mine) (putF "world" wv []))))) = bkF b wv l sd := by
  rw [show putF "world" wv [] = [(("world" : Str), wv)] from rfl, show putF "mine" (.int b.mine) [(("world" : Str), wv)] = [(("world" : Str), wv), ("mine", .int b.mine)] from pf_past (by decide +kernel)]
  rw [show putF "facts" (.ref l) [(("world" : Str), wv), ("mine", .int b.mine)] = [(("world" : Str), wv), ("mine", .int b.mine), ("facts", .ref l)] from (pf_past (by decide +kernel)).trans (congrArg _ (pf_past (by decide +kernel)))]
  rw [show putF "clock" (.int b.clock) [(("world" : Str), wv), ("mine", .int b.mine), ("facts", .ref l)] = [(("world" : Str), wv), ("mine", .int b.mine), ("facts", .ref l), ("clock", .int b.clock)] from (pf_past (by decide +kernel)).trans (congrArg _ ((pf_past (by decide +kernel)).trans (congrArg _ (pf_past (by decide +kernel)))))]
  rw [show putF "own" (.int b.own) [(("world" : Str), wv), ("mine", .int b.mine), ("facts", .ref l), ("clock", .int b.clock)] = [(("world" : Str), wv), ("mine", .int b.mine), ("facts", .ref l), ("clock", .int b.clock), ("own", .int b.own)] from (pf_past (by decide +kernel)).trans (congrArg _ ((pf_past (by decide +kernel)).trans (congrArg _ ((pf_past (by decide +kernel)).trans (congrArg _ (pf_past (by decide +kernel)))))))]
  exact (pf_past (by decide +kernel)).trans (congrArg _ ((pf_past (by decide +kernel)).trans (congrArg _ ((pf_past (by decide +kernel)).trans (congrArg _ ((pf_past (by decide +kernel)).trans (congrArg _ (pf_past (by decide +kernel)))))))))

/-! ### data that may be compared, and is never changed -/
structure Good (y : PyData) : Prop where
  im : imm y = true
  lay : y.canLay0 = true
  dp : y.depth ≤ 8
theorem Good.shaped {y : PyData} (h : Good y) : SeqAt.shaped y = true := by
  unfold SeqAt.shaped
  rw [h.lay, Bool.true_and]
  exact decide_eq_true (Nat.le_trans h.dp (by decide))
theorem good_all : ∀ {xs : List PyData}, (∀ x, x ∈ xs → Good x) → PyData.canLayAll0 xs = true ∧ PyData.depthAll xs ≤ 8 ∧ immAll xs = true
  | [], _ => ⟨rfl, by simp [PyData.depthAll], rfl⟩
  | x :: xs, h => by
    obtain ⟨h1, h2, h3⟩ := good_all fun y hy => h y (List.mem_cons_of_mem _ hy)
    have hx := h x List.mem_cons_self
    refine ⟨?_, ?_, ?_⟩
    · simp only [PyData.canLayAll0, hx.lay, h1, Bool.and_self]
    · simp only [PyData.depthAll]; exact Nat.max_le.mpr ⟨hx.dp, h2⟩
    · rw [immAll, hx.im, h3]; rfl
theorem good_list {xs : List PyData} (h : ∀ x, x ∈ xs → Good x) : SeqAt.shaped (.list xs) = true := by
  obtain ⟨h1, h2, _⟩ := good_all h
  unfold SeqAt.shaped
  simp only [PyData.canLay0, PyData.depth, h1, Bool.true_and]
  exact decide_eq_true (by omega)
theorem good_tup {xs : List PyData} (h : ∀ x, x ∈ xs → Good x) (hd : PyData.depthAll xs ≤ 7) : Good (.tuple xs) := by
  obtain ⟨h1, h2, h3⟩ := good_all h
  refine ⟨by simpa [imm] using h3, by simpa only [PyData.canLay0] using h1, ?_⟩
  simp only [PyData.depth]
  omega
theorem shaped_tup {xs : List PyData} (h : ∀ x, x ∈ xs → Good x) : SeqAt.shaped (.tuple xs) = true := by
  obtain ⟨h1, h2, _⟩ := good_all h
  unfold SeqAt.shaped
  simp only [PyData.canLay0, PyData.depth, h1, Bool.true_and]
  exact decide_eq_true (by omega)
end Fb

/-! FbI: for i, x in enumerate(t), t a tuple; a sign of a text by its place. -/
namespace Fb
open PySem PySem.Spec PyProof.Rows L2 Evl
theorem enumT_new {v : Value} {o : Obj} {H : Heap → Prop} (B : Begins v o H) :
    Meets (Builtin.«enumerate.__new__» ⟨[.type "enumerate", v], []⟩) (fun _ R s => H s.heap ∧ R (.ok (.ret (.ref (s.heap.push o).objs.size))) { s with heap := (s.heap.push o).push { cls := .type "enumerate", data := .fields #[.none, .bool false, .ref s.heap.objs.size, rawInt 0, .none, .none] } }) :=
  .of_wp fun prog w A R s h => by
    obtain ⟨hp, g, d, tk, os⟩ := s
    obtain ⟨h1, h⟩ := h
    have hsub := sub_enumerate
    have q1 : ∀ {A' : Around} {E : Value → Shared → Prop} {Q : Value → Shared → Prop}, Q (.ref hp.objs.size) ⟨hp.push o, g, d, tk, os⟩ → wpAny (model prog w) A' (pyIter v) Q E ⟨hp, g, d, tk, os⟩ := fun q => B.iter prog w _ _ ⟨hp, g, d, tk, os⟩ _ h1 q
    wp_walk using q1
    refine wpAny_stack_any fun st => wpAny_pure ?_
    split
    · rename_i c _ _ _ _ _
      cases (c == Value.type "enumerate") <;> (wp_walk using q1; exact ⟨_, rfl, h⟩)
    · wp_walk using q1
      exact ⟨_, rfl, h⟩
theorem enumT_call {prog : Program} {w : World} {A : Around} {E : Value → Shared → Prop} {s : Shared} {v : Value} {o : Obj} {H : Heap → Prop} {Q : Value → Shared → Prop} (B : Begins v o H) (h1 : H s.heap)
    (h : ∀ h', IsEnum h' (s.heap.objs.size + 1) s.heap.objs.size 0 .none → h'.get? s.heap.objs.size = some o → (∀ b o, s.heap.get? b = some o → h'.get? b = some o) → Q (.ref (s.heap.objs.size + 1)) { s with heap := h' }) : wpAny (model prog w) A (call (.type "enumerate") [v]) Q E s := by
  refine callType_new F.called_enumerate (by decide) (F.typeCall_enumerate_1 _) (F.newCall_enumerate_1 _) (fun obj => F.args_object_init_2 obj _) F.entry_enumerate_new (enumT_new B) ⟨h1, ?_⟩
  have hz : (s.heap.push o).objs.size = s.heap.objs.size + 1 := Heap.size_push ..
  show _ ∧ _
  rw [hz]
  have he : IsEnum ((s.heap.push o).push { cls := .type "enumerate", data := .fields #[.none, .bool false, .ref s.heap.objs.size, rawInt 0, .none, .none] }) (s.heap.objs.size + 1) s.heap.objs.size 0 .none := by
    have := Heap.get?_push_size (s.heap.push o) (o := { cls := .type "enumerate", data := .fields #[.none, .bool false, .ref s.heap.objs.size, rawInt 0, .none, .none] }) rfl
    rw [hz] at this
    exact this
  exact ⟨⟨_, he, rfl⟩, h _ he (Heap.get?_push_of_some _ (Heap.get?_push_size _ B.free)) fun b o x => Heap.get?_push_of_some _ (Heap.get?_push_of_some _ x)⟩
def ItEt (K : PySem.W.Frag) (a : Addr) : It :=
  ⟨fun i H => ∃ (xs : List V) (x : V), SqT K H a xs ∧ xs[i]? = some x, fun i H v H' => ∃ T x, v = .ref T ∧ H T = none ∧ H' = upd H T (.tup [.int (i : Nat), x]) ∧ ∀ xs, SqT K H a xs → xs[i]? = some x, fun i H => ∃ xs : List V, SqT K H a xs ∧ xs.length ≤ i⟩
theorem turn_enumT {P : Program} {w : World} {K : PySem.W.Frag} {elts : List Expr} {kk : Nat} {tpos : Pos} (a e it : Addr) :
    Turn P w K (.Tuple elts kk tpos) (ItEt K a) [e, it] e (fun i h => (∃ old, IsEnum h e it ((i : Nat) : Int) old) ∧ h.IsTupleIter it a i ∧ e ≠ it) where
  mem := by simp
  obj := fun i h st b hb => by
    obtain ⟨⟨old, he⟩, ⟨o, ho, hc, hd⟩, _⟩ := st
    have e' : b = e ∨ b = it := by simpa using hb
    rcases e' with z | z
    · rw [z]; exact ⟨_, he, fun v q => nomatch q⟩
    · rw [z]; exact ⟨o, ho, fun v q => by rw [hd] at q; cases q⟩
  keep := fun i h h' st k => let ⟨⟨old, he⟩, hi, hne⟩ := st; ⟨⟨old, k e (by simp) _ he⟩, hi.at fun o q => k it (by simp) o q, hne⟩
  item := by
    intro X hP hw hK hc i pins s σ H E I hf st hg
    subst hP hw hK
    obtain ⟨⟨old, he⟩, hit, hne⟩ := st
    obtain ⟨xs, x, hq, hx⟩ := hg
    obtain ⟨its, rv, p, hz⟩ := I.tuple hq
    obtain ⟨u, hu, ru⟩ := rv.get hx
    have hel : e < s.heap.objs.size := Heap.lt_size he
    have hil : it < s.heap.objs.size := by obtain ⟨_, q, _⟩ := hit; exact Heap.lt_size q
    have nea : e ≠ a := fun z => by
      obtain ⟨o, ho, hoc, _⟩ := (show s.heap.IsTuple a its.toArray from p)
      rw [← z] at ho
      rw [show s.heap.get? e = _ from he] at ho
      cases ho
      exact absurd (Value.type.inj hoc) (by decide)
    have nia : a ≠ it := fun z => by
      obtain ⟨o, ho, hoc, _⟩ := (show s.heap.IsTuple a its.toArray from p)
      obtain ⟨o2, ho2, hoc2, _⟩ := hit
      rw [z, ho2] at ho
      cases ho
      rw [hoc2] at hoc
      exact absurd (Value.type.inj hoc) (by decide)
    have hd := I.ok.hd hc
    refine wpAny_pyNext_enum_itemD (Draws.tuple (A := X.A.in1) (by exact hd) it a nia its.toArray) he ⟨hit, p⟩ (by
      obtain ⟨h1, _⟩ := List.getElem?_eq_some_iff.mp hu
      simpa using h1) hne (by simp [hne, nea]) fun x1 h' tk hx1 ho hst hT hsz hk => ?_
    obtain rfl : x1 = u := by
      rw [show its.toArray[i]? = some u from by simpa using hu] at hx1
      exact (Option.some.inj hx1).symm
    obtain ⟨hit', _⟩ := hst
    refine ⟨_, rfl, wpAny_letOwnedTupleGo_enum (s := { s with heap := h', toks := tk + 1 }) ho fun h'' he' sb => ?_⟩
    have hT2 : h''.get? s.heap.objs.size = some { cls := .type "tuple", data := .seq #[.int i tk, x1] } := (sb.2 _ (Nat.ne_of_gt hel)).trans hT
    have new : ObjOk X.prog X.w (upd H s.heap.objs.size (.tup [.int (i : Nat), x])) h'' s.heap.objs.size (.tup [.int (i : Nat), x]) :=
      ⟨by show 2 ≤ sizeLine; decide, [.int i tk, x1], .cons ⟨_, rfl⟩ (.cons ru .nil), ⟨_, hT2, rfl, _, rfl⟩⟩
    have I1 : Inv X pins σ (upd H s.heap.objs.size (.tup [.int (i : Nat), x])) { s with heap := h'', toks := tk + 1 } :=
      I.turnedNew (ch := [e, it]) (fun b ob hb q => (sb.2 b (fun z => hb (by simp [z]))).trans (hk b ob (fun z => hb (by simp [z])) (fun z => hb (by simp [z])) q)) hf (Nat.le_refl _) new
    refine ⟨.ref s.heap.objs.size, _, I1, rfl, ⟨_, x, rfl, I.hok.fresh (Nat.le_refl _), rfl, fun ys hy => by rw [I.tuple_inj hy hq]; exact hx⟩, ⟨⟨x1, ?_⟩, hit'.at fun o q => (sb.2 it (Ne.symm hne)).trans q, hne⟩, fun b hb => ?_⟩
    · have e1 : ((i + 1 : Nat) : Int) = (i : Int) + 1 := by omega
      rw [e1]; exact he'
    · have hb' : b < s.heap.objs.size := by
        have e' : b = e ∨ b = it := by simpa using hb
        rcases e' with z | z
        · rw [z]; exact hel
        · rw [z]; exact hil
      rw [upd_ne (Nat.ne_of_lt hb')]
      exact (hf b hb).1
  done := by
    intro X hP hw hK hc i pins s σ H E I hf st hg
    subst hP hw hK
    obtain ⟨⟨old, he⟩, hit, hne⟩ := st
    obtain ⟨xs, hq, hx⟩ := hg
    obtain ⟨its, rv, p, hz⟩ := I.tuple hq
    obtain ⟨f0, f1, f2, f3, f4, f5⟩ := hf it (by simp)
    have hl := rv.length
    have hd := I.ok.hd hc
    have hT : s.TypeIs (.ref e) "enumerate" := ⟨_, he, rfl⟩
    unfold pyNext
    refine wpAny_bind (wpAny_attempt (wpAny_callSpecial?_slot (name := Str.ofString "__next__") hT F.slot_enumerate_next (wpAny_call_entry F.slot_enumerate_next hT F.entry_enumerate_next ?_ (F.args_enumerate_next_1 _))))
    show wpAny _ _ (field (.ref e) 2 >>= _) _ _ _
    refine wpAny_bind (wpAny_field he rfl (x := .ref it) rfl ?_)
    refine wpAny_bind (wpAny_nextOf_tuple_end (by exact hd) hit p (by simp; omega) fun h' x he' hx' => ?_)
    obtain ⟨o, ho, hc'⟩ := hx'
    refine wpAny_bind (wpAny_isInstance (T := "StopIteration") (b := true) ⟨o, ho, hc'⟩ isSubtype_stop ?_)
    exact wpAny_pure ⟨rfl, I.turned (t' := s.toks) (fun b o hb q => he' b o hb q) f0 f1 f3 f4 f5⟩
  self := fun A i s Q E st h => let ⟨⟨_, he⟩, _⟩ := st; wpAny_pyIter_enum he h
section
variable {X : Cx} {e : Expr} {r : Rho} {p pos tpos : Pos} {elts : List Expr} {kk : Nat}
theorem pi_enumT {ta : TA} (hg : Gl X "enumerate") (hm : X.mg "enumerate" = none) (ha : PA X [e] ta) (hs : starEach [e] X.env = [(false, eval e X.env)] := by rfl) :
    PI X (.Tuple elts kk tpos) (.Call (.Name "enumerate" p) [e] [] pos) (fun σ H R => ta σ H fun vs H1 => ∃ a xs, vs = [.ref a] ∧ SqT X.K H1 a xs ∧ R (ItEt X.K a) H1) := by
  refine ⟨fun pins s σ H R I h => ?_⟩
  refine Call_ (ld_blt I hg hm boot_enumerate (PyProof.Rows.callWith_type1 (thn (ha.run pos pins s σ H _ I h) fun us s1 ⟨vs, H1, I1, r1, q1⟩ => ?_) hs rfl))
  obtain ⟨a, xs, ex, hq, q⟩ := q1
  subst ex
  cases r1 with
  | cons r rr =>
    cases rr
    cases r
    obtain ⟨its, rv, p', hz⟩ := I1.tuple hq
    refine enumT_call (begins_tuple a its.toArray) p' fun h' he hit hk => wpAny_pyIter_enum he ?_
    have I2 : Inv X pins σ H1 { s1 with heap := h' } := I1.kept (t' := s1.toks) hk
    refine ⟨s1.heap.objs.size + 1, [s1.heap.objs.size + 1, s1.heap.objs.size], _, _, H1, rfl, I2, turn_enumT a (s1.heap.objs.size + 1) s1.heap.objs.size, ⟨⟨.none, he⟩, ⟨_, hit, rfl, rfl⟩, Nat.succ_ne_self _⟩, fun b hb => ?_, q⟩
    have e' : b = s1.heap.objs.size + 1 ∨ b = s1.heap.objs.size := by simpa using hb
    have hle : s1.heap.objs.size ≤ b := by
      rcases e' with z | z
      · rw [z]; exact Nat.le_add_right _ _
      · rw [z]; exact Nat.le_refl _
    exact I1.fpOk hle (I1.hok.fresh hle)
def enumD (ds : List PyData) : List PyData := (List.range ds.length).map fun i => .tuple [.int (i : Nat), ds.getD i .none]
theorem enumD_get {ds : List PyData} {i : Nat} {d : PyData} (h : (enumD ds)[i]? = some d) : ∃ x, ds[i]? = some x ∧ d = .tuple [.int (i : Nat), x] := by
  unfold enumD at h
  rw [List.getElem?_map] at h
  by_cases hi : i < ds.length
  · rw [List.getElem?_range hi] at h
    cases h
    refine ⟨ds[i], List.getElem?_eq_getElem hi, ?_⟩
    show PyData.tuple [.int (i : Nat), ds.getD i .none] = _
    rw [List.getD_eq_getElem?_getD, List.getElem?_eq_getElem hi]
    rfl
  · rw [List.getElem?_eq_none (by simpa using hi)] at h
    cases h
theorem enumD_len (ds : List PyData) : (enumD ds).length = ds.length := by unfold enumD; simp
/-- for i, x in enumerate(e), e a tuple -/
theorem wk_enumT {ds : List PyData} (hm : X.mg "enumerate" = none) (h : Pv X e r (.d (.tuple ds))) (hg : Gl X "enumerate" := by rfl) (hs : starEach [e] X.env = [(false, eval e X.env)] := by rfl) : Wk X (.Tuple elts kk tpos) (.Call (.Name "enumerate" p) [e] [] pos) r ((enumD ds).map Dn.d) := by
  refine ⟨_, pi_enumT hg hm pa_w hs, fun σ G H g n R k => wA_imp ((pa_cons h pa_nil hs : Pa X [e] r _) σ G H g n) fun vs H1 ⟨G1, k1, q1⟩ => ?_⟩
  obtain ⟨v, rfl, hv⟩ := dens1 q1
  cases hv with
  | @tup a xs _ h1 h2 =>
    have hl := DpAll.len h2
    have hlen : ((enumD ds).map Dn.d).length = xs.length := by rw [List.length_map, enumD_len, hl]
    refine ⟨a, xs, rfl, ex_t k1.s h1.sq, k _ G1 H1 k1 (fun i H2 e2 hi => ?_) (fun i G2 H2 x H3 e2 s2 y d hd => ?_) (fun i H2 e2 hi => ⟨xs, ex_t e2 h1.sq, by rw [hlen] at hi; exact hi⟩)⟩
    · rw [hlen] at hi
      exact ⟨xs, xs[i], ex_t e2 h1.sq, List.getElem?_eq_getElem hi⟩
    · obtain ⟨T, z, rfl, hT, rfl, y⟩ := y
      have hx := y xs (ex_t (e2.trans s2) h1.sq)
      rw [List.getElem?_map] at hd
      cases hq : (enumD ds)[i]? with
      | none => rw [hq] at hd; cases hd
      | some d0 =>
        rw [hq] at hd
        cases hd
        obtain ⟨x0, q3, rfl⟩ := enumD_get hq
        obtain ⟨v0, q4, q5⟩ := DpAll.get h2 q3
        rw [hx] at q4
        cases q4
        have kn := Gr.new (o := .tup [.int (i : Nat), z]) s2 hT
        exact ⟨_, kn, Dp.tup (.inl upd_same) (.cons (Dp.int _) (.cons (dp_up (e2.trans kn.g) _ _ q5) .nil))⟩
/-- a text's sign by its place -/
theorem pv_ixS {a b : Expr} {z : Str} {i : Int} {c : Nat} (ha : Pv X a r (.d (.str z))) (hb : Pv X b r (.d (.int i))) (hi : atI z.cps.toList i = some c) (hl : z.length ≤ 100000) (hs : PlainIx b := by exact fun _ _ => rfl) : Pv X (.Subscript a b pos) r (.d (.str ⟨#[c]⟩)) := fun σ G H g n =>
  wE_of (pe_ix ix_str pe_w pe_w hs) (wE_imp (ha σ G H g n) fun x H1 ⟨G1, k1, q1⟩ => wE_imp (hb σ G1 H1 k1.s (n.up k1.g)) fun u H2 ⟨G2, k2, q2⟩ =>
    ⟨z, i, c, den_str q1, den_int q2, sz_of hl, hi, G2, k1.trans k2, Dp.str _⟩)
end
end Fb

/-! FbN: what the laws draw of numbers: cells, seeds, worlds, wishes; plain functions. -/
namespace Fb
open PySem PySem.Spec PyProof.Rows L2 Evl
def cellZ (ns : List Int) (k : Nat) : Int := ns.getD k 0
def seedZ (s k : Int) : Int := ((s * 1103515245 + 7919 * k + 12345) % 2147483647) ^ 5 % 2147483647
def pickZ (s m : Int) : Int := s / 97 % m
theorem seedZ_lo (s k : Int) : 0 ≤ seedZ s k := Int.emod_nonneg _ (by decide)
theorem seedZ_hi (s k : Int) : seedZ s k < 2147483647 := Int.emod_lt_of_pos _ (by decide)
def keyAt (i : Int) : Str := keyNames.getD i.toNat "rank"
def addKey (some : List Str) (key : Str) : List Str := some ++ if some.contains key then [] else [key]
def keysOf (z : Int) (n : Nat) : List Str := (upto 0 n).foldl (fun some k => addKey some (keyAt (pickZ (seedZ z k) 4))) []
def worldC (z : Int) : Int := 1 + z / 5 % 5
def worldR (z : Int) : Int := 1 + z / 7 % 3
def worldK (z : Int) : List Str := keysOf z (z / 3 % 5).toNat
def worldOf (cell : Int) : PyData := wD (worldC (seedZ cell 9)) (worldR (seedZ cell 9)) (worldK (seedZ cell 9))
theorem upto_at {lo : Int} {n i : Nat} {x : Int} (h : (upto lo n)[i]? = some x) : x = lo + i ∧ i < n := by
  unfold upto at h
  rw [List.getElem?_map] at h
  by_cases hi : i < n
  · rw [List.getElem?_range hi] at h
    cases h
    exact ⟨rfl, hi⟩
  · rw [List.getElem?_eq_none (by simpa using hi)] at h
    cases h
theorem upto_succ (lo : Int) (n : Nat) : upto lo (n + 1) = upto lo n ++ [lo + n] := by
  unfold upto
  rw [List.range_succ, List.map_append]
  rfl
theorem keysOf_succ (z : Int) (n : Nat) : keysOf z (n + 1) = addKey (keysOf z n) (keyAt (pickZ (seedZ z n) 4)) := by
  unfold keysOf
  rw [upto_succ, List.foldl_append]
  show addKey _ (keyAt (pickZ (seedZ z (0 + n)) 4)) = _
  rw [Int.zero_add]
theorem keyAt_mem (i : Int) : keyAt i ∈ keyNames := by
  unfold keyAt
  rw [List.getD_eq_getElem?_getD]
  cases h : keyNames[i.toNat]? with
  | none => exact List.mem_cons_self
  | some k => exact List.mem_of_getElem? h
theorem keysOf_ok (z : Int) (n : Nat) : (∀ k ∈ keysOf z n, k ∈ keyNames) ∧ (keysOf z n).Nodup := by
  induction n with
  | zero => exact ⟨fun k hk => absurd hk (by simp [keysOf, upto]), by simp [keysOf, upto]⟩
  | succ n ih =>
    rw [keysOf_succ]
    unfold addKey
    split
    · rw [List.append_nil]; exact ih
    · rename_i hc
      refine ⟨fun k hk => ?_, ?_⟩
      · rcases List.mem_append.mp hk with h | h
        · exact ih.1 k h
        · simp at h; subst h; exact keyAt_mem _
      · rw [List.nodup_append]
        refine ⟨ih.2, by simp, fun a ha b hb => ?_⟩
        simp at hb
        subst hb
        intro e
        subst e
        exact hc (by simpa using ha)
/-! wishes -/
def smallAt (i : Int) : Nat := smallTxt.cps.toList.getD i.toNat 97
def nameOf (s : Int) : List Nat := (upto 0 (1 + s / 3 % 4).toNat).map fun k => smallAt (pickZ (seedZ s k) 26)
def sel2 (a b i : Int) : Int := if i = 0 then a else b
def sel3 (a b c i : Int) : Int := if i = 0 then a else if i = 1 then b else c
def minZ (i j : Int) : Int := if j < i then j else i
def longOf (s : Int) : Int := 1 + s / 5 % sel2 6 3 (s / 7 % 2)
def hourOf (s : Int) : Int := minZ (24 - longOf s) (sel3 (8 + s / 11 % 5) (s / 11 % 24) 24 (pickZ s 5 / 2))
def roomOf (r s : Int) : Int := s / 13 % sel2 r 1 (s / 17 % 2)
def rankOf (s : Int) : Int := s / 19 % sel2 10 3 (s / 23 % 2)
def wishOf (r s : Int) : PyData := .tuple [.str (SX.S (nameOf s)), .int (roomOf r s), .int (hourOf s), .int (longOf s), .int (rankOf s)]
theorem sel2_cases (a b i : Int) : sel2 a b i = a ∨ sel2 a b i = b := by unfold sel2; split <;> simp
theorem longOf_in (s : Int) : 1 ≤ longOf s ∧ longOf s ≤ 6 := by
  unfold longOf
  rcases sel2_cases 6 3 (s / 7 % 2) with h | h <;> rw [h] <;> omega
theorem smallAt_mem (i : Int) : smallAt i ∈ smallTxt.cps.toList := by
  unfold smallAt
  rw [List.getD_eq_getElem?_getD]
  cases h : smallTxt.cps.toList[i.toNat]? with
  | none => show (97 : Nat) ∈ smallTxt.cps.toList; decide +kernel
  | some k => exact List.mem_of_getElem? h
theorem wishOf_ok {r s : Int} (hr : 1 ≤ r) : isWish r (wishOf r s) = true := by
  have hl := longOf_in s
  have hn : isName (.str (SX.S (nameOf s))) = true := by
    have hlen : (SX.S (nameOf s)).length = (1 + s / 3 % 4).toNat := by rw [SX.S_len]; unfold nameOf; rw [List.length_map, upto_len]
    show ((decide (1 ≤ ((SX.S (nameOf s)).length : Int)) && decide (((SX.S (nameOf s)).length : Int) ≤ 4)) && ((SX.S (nameOf s)).cps.toList.all fun c => decide (c ∈ smallTxt.cps.toList))) = true
    rw [hlen, decide_eq_true (by omega), decide_eq_true (by omega), Bool.true_and, Bool.true_and, List.all_eq_true]
    intro c hc
    have hc' : c ∈ nameOf s := by simpa [SX.S] using hc
    unfold nameOf at hc'
    obtain ⟨k, _, rfl⟩ := List.mem_map.mp hc'
    exact decide_eq_true (smallAt_mem _)
  have hroom : 0 ≤ roomOf r s ∧ roomOf r s ≤ r - 1 := by
    unfold roomOf
    rcases sel2_cases r 1 (s / 17 % 2) with h | h <;> rw [h]
    · exact ⟨Int.emod_nonneg _ (by omega), by have := Int.emod_lt_of_pos (s / 13) (show 0 < r by omega); omega⟩
    · omega
  have hrank : 0 ≤ rankOf s ∧ rankOf s ≤ 9 := by
    unfold rankOf
    rcases sel2_cases 10 3 (s / 23 % 2) with h | h <;> rw [h] <;> omega
  have hhour : 0 ≤ hourOf s ∧ hourOf s ≤ 24 - longOf s := by
    have h3 : 0 ≤ sel3 (8 + s / 11 % 5) (s / 11 % 24) 24 (pickZ s 5 / 2) := by
      unfold sel3
      split
      · omega
      · split <;> omega
    unfold hourOf minZ
    split <;> omega
  show (isName _ && (decide (1 ≤ longOf s) && decide (longOf s ≤ 6)) && (isPlace r (longOf s) (.int (roomOf r s)) (.int (hourOf s)) && within (.int (rankOf s)) 0 9)) = true
  rw [hn]
  show (true && (decide (1 ≤ longOf s) && decide (longOf s ≤ 6)) && (((decide (0 ≤ roomOf r s) && decide (roomOf r s ≤ r - 1)) && (decide (0 ≤ hourOf s) && decide (hourOf s ≤ 24 - longOf s))) && (decide (0 ≤ rankOf s) && decide (rankOf s ≤ 9)))) = true
  simp only [decide_eq_true hl.1, decide_eq_true hl.2, decide_eq_true hroom.1, decide_eq_true hroom.2, decide_eq_true hhour.1, decide_eq_true hhour.2, decide_eq_true hrank.1, decide_eq_true hrank.2, Bool.and_self]
theorem wD_ok {c r : Int} {ks : List Str} (hc : 1 ≤ c ∧ c ≤ 5) (hr : 1 ≤ r ∧ r ≤ 3) (hk : ∀ k ∈ ks, k ∈ keyNames) (hn : ks.Nodup) : isWorld (wD c r ks) = true := by
  show ((decide (1 ≤ c) && decide (c ≤ 5)) && (decide (1 ≤ r) && decide (r ≤ 3)) && keysOk (ks.map PyData.str)) = true
  unfold keysOk
  rw [strsOf_map]
  simp only [decide_eq_true hc.1, decide_eq_true hc.2, decide_eq_true hr.1, decide_eq_true hr.2, Bool.and_self, Bool.true_and, Bool.and_eq_true, List.all_eq_true]
  exact ⟨fun k h => by simpa using hk k h, decide_eq_true ((dcn_nodup ks).mpr hn)⟩
theorem worldOf_ok (cell : Int) : isWorld (worldOf cell) = true :=
  wD_ok (by unfold worldC; omega) (by unfold worldR; omega) (keysOf_ok _ _).1 (keysOf_ok _ _).2
/-! indices -/
theorem ix_of {xs : List PyData} {i : Int} {z : PyData} (h0 : 0 ≤ i) (h : xs[i.toNat]? = some z) : ixD (.list xs) i = some z := by
  show atI xs i = some z
  have := atI_nat h
  rwa [Int.toNat_of_nonneg h0] at this
theorem ixT_of {xs : List PyData} {i : Int} {z : PyData} (h0 : 0 ≤ i) (h : xs[i.toNat]? = some z) : ixD (.tuple xs) i = some z := by
  show atI xs i = some z
  have := atI_nat h
  rwa [Int.toNat_of_nonneg h0] at this
theorem ix2 {a b i : Int} (h0 : 0 ≤ i) (h1 : i < 2) : ixD (.list [.int a, .int b]) i = some (.int (sel2 a b i)) := by
  have : i = 0 ∨ i = 1 := by omega
  rcases this with rfl | rfl <;> rfl
theorem ix3 {a b c i : Int} (h0 : 0 ≤ i) (h1 : i < 3) : ixD (.list [.int a, .int b, .int c]) i = some (.int (sel3 a b c i)) := by
  have : i = 0 ∨ i = 1 ∨ i = 2 := by omega
  rcases this with rfl | rfl | rfl <;> rfl
theorem ix_key {i : Int} (h0 : 0 ≤ i) (h1 : i < 4) : ixD (.list (keyNames.map PyData.str)) i = some (.str (keyAt i)) := by
  have : i = 0 ∨ i = 1 ∨ i = 2 ∨ i = 3 := by omega
  rcases this with rfl | rfl | rfl | rfl <;> rfl
theorem any_str (x : Str) : ∀ xs : List Str, ((xs.map PyData.str).any fun z => PyData.eqv z (.str x)) = xs.contains x
  | [] => rfl
  | y :: ys => by
    rw [List.map_cons, List.any_cons, any_str x ys, List.contains_cons]
    congr 1
    show (y == x) = (x == y)
    rw [Bool.eq_iff_iff, beq_iff_eq, beq_iff_eq]
    exact eq_comm
theorem join_nil : ∀ cs : List Nat, TL.joinL [] (cs.map fun c => [c]) = cs
  | [] => rfl
  | [c] => rfl
  | a :: b :: cs => by
    have ih := join_nil (b :: cs)
    show [a] ++ ([] ++ TL.joinL [] ((b :: cs).map fun c => [c])) = a :: b :: cs
    rw [ih]
    rfl
theorem join_small (cs : List Nat) : Txt.join ("" : Str) (cs.map fun c => (⟨#[c]⟩ : Str)) = SX.S cs := by
  have h := SX.join_S [] (cs.map fun c => [c])
  rw [List.map_map, join_nil] at h
  exact h
end Fb

/-! FbZ: from the head's facts to what the walk leans on. -/
namespace Fb
open PySem PySem.Spec PyProof.Rows L2 Evl
section
variable {K : PySem.W.Frag} {w : World} {h : Heap} {mg : Str → Option Value}
theorem fun_of {x qual : Str} {st : Stmt} {kws : List (Str × V)} {f : Addr} {fd : FuncData} (F : FunD K x qual (defArgs st) (defBody st) (defScope st) [] kws f fd) : Fun K x qual st f fd := by
  obtain ⟨⟨oc, od, dV, kV, doc, pm, an, cdv, ct, osl, h1, h2, h3, h4, _⟩, kp⟩ := F
  rcases h4 with ⟨_, rfl⟩ | ⟨h4, _⟩
  · exact ⟨⟨oc, od, kV, doc, pm, an, cdv, ct, osl, h1, h2, h3⟩, kp⟩
  · exact absurd rfl h4
theorem keys_lit {P : Params} {x : Str} : ∀ {l : List DictEntry} {ks : List Str}, l.map He.keyOf = He.keysIn P ks → x ∉ ks → l.find? (·.key.isStr x) = none
  | [], _, _, _ => rfl
  | e :: r, [], h, _ => by cases h
  | e :: r, k :: ks, h, hx => by
    have h1 : He.keyOf e :: r.map He.keyOf = some (k, PyData.keyHash P k) :: He.keysIn P ks := h
    injection h1 with h2 h3
    rw [List.mem_cons, not_or] at hx
    unfold He.keyOf at h2
    split at h2
    · rename_i y t q
      have h4 := Option.some.inj h2
      obtain ⟨h5, h6⟩ := Prod.mk.inj h4
      rw [List.find?_cons_of_neg (by rw [q]; show ¬ (y == x) = true; rw [beq_iff_eq, h5]; exact fun z => hx.1 z.symm)]
      exact keys_lit h3 hx.2
    · cases h2
theorem keys_noref {P : Params} : ∀ {l : List DictEntry} {ks : List Str}, l.map He.keyOf = He.keysIn P ks → l.any (·.refKey) = false
  | [], _, _ => rfl
  | e :: r, [], h => by cases h
  | e :: r, k :: ks, h => by
    have h1 : He.keyOf e :: r.map He.keyOf = some (k, PyData.keyHash P k) :: He.keysIn P ks := h
    injection h1 with h2 h3
    rw [List.any_cons, keys_noref h3, Bool.or_false]
    unfold He.keyOf at h2
    split at h2
    · rename_i y t q
      unfold DictEntry.refKey
      rw [q]
    · cases h2
/-- a dict of the top with text keys and int values -/
theorem kd_of {a : Addr} {kvs : List (Str × Int)} (h : He.dicW K a = some (He.keysIn w.params (kvs.map (·.1)))) (hv : He.valsB K a (kvs.map fun q => (q.1, .int q.2)) = true) (get : Str → Option Int) (hg : ∀ q, q ∈ kvs → get q.1 = some q.2) (hn : ∀ x, x ∉ kvs.map (·.1) → get x = none) : Kd K w a get := by
  obtain ⟨es, n, D⟩ := He.dicW_ok h
  refine ⟨es, n, D, fun x => ?_⟩
  by_cases hx : x ∈ kvs.map (·.1)
  · obtain ⟨q, hq, rfl⟩ := List.mem_map.mp hx
    obtain ⟨u, h1, h2⟩ := He.valsB_ok hv (q := (q.1, .int q.2)) (List.mem_map.mpr ⟨q, hq, rfl⟩)
    obtain ⟨t, rfl⟩ : ∃ t, u = .int q.2 t := h2
    exact .inr ⟨q.2, t, h1, hg q hq⟩
  · refine .inl ⟨?_, hn x hx⟩
    have h2 := h
    unfold He.dicW at h2
    rw [D.at_] at h2
    have h3 : es.toList.map He.keyOf = He.keysIn w.params (kvs.map (·.1)) := by
      dsimp only at h2
      split at h2
      · exact Option.some.inj h2
      · cases h2
    unfold PySem.W.nsIn
    rw [D.at_]
    dsimp only
    rw [keys_lit h3 hx]
    show (if es.toList.any (·.refKey) = true then none else some none) = some none
    rw [keys_noref h3]
    rfl
theorem tab_of {fa : List He.Fa} {fn : List He.DefD} {ts : List He.Tab} (c : He.SaysT fa fn ts w K) (i : Nat) {t : He.Tab} (h : ts[i]? = some t := by rfl) : He.dicW K (t.1 K) = some (He.keysIn w.params t.2) := by
  have e : ts.map (fun t => He.dicW K (t.1 K)) = ts.map fun t => some (He.keysIn w.params t.2) := congrArg (fun z : He.AlT => z.2) c
  have e2 : (ts.map fun t => He.dicW K (t.1 K))[i]? = (ts.map fun t => some (He.keysIn w.params t.2))[i]? := by rw [e]
  rw [List.getElem?_map, List.getElem?_map, h] at e2
  exact Option.some.inj e2
/-- a tuple of texts of the top -/
theorem strs_of {x : Str} {ss : List Str} (h : He.tupB K x (ss.map He.Dv.str) = true) (H : Hp) : Dp K H (.ref (He.ga K x)) (.tuple (ss.map PyData.str)) := by
  have q := He.tupB_ok h H
  rw [List.map_map] at q
  refine Dp.tup (.inr ⟨q, by rw [List.all_map]; exact List.all_eq_true.mpr fun _ _ => rfl⟩) ?_
  clear q h
  induction ss with
  | nil => exact .nil
  | cons s ss ih => exact .cons (.str s) ih
theorem ec_of (X : K.In h) (G : h.Ns mainGlobals mg) {x : Str} (g : (He.Fa.glo x).ok K = true) (c : (He.Fa.exc x).ok K = true) : Ec K mg x (He.ga K x) := by
  obtain ⟨h1, h2, h3, h4⟩ := He.exc_ok c
  exact ⟨He.glo_ok X G g, h1, h2, h3, h4⟩
end
/-- a law's end: F gives the written part, the function object, the promise over every base -/
theorem walkF {l : PySem.W.OpenLaw} {n k : Nat} {q : Program} {loose : List Str} {XP : (Str → Option Value) → Heap → Prop} {YP : World → Heap → Prop} {d : DefRec} {x : Str}
    (hn : l.most = some n) (hn2 : n ≤ sizeLine) (hdf : d.params.defaults = []) (hr : Room k callerA)
    (F : ∀ (w : World) (mg : Str → Option Value) (fa : Addr) (h : Heap), YP w h → h.Ns mainGlobals mg → mg d.name = some (.ref fa) →
      ∃ (K : PySem.W.Frag) (fd : FuncData) (sp : Sp), K.In h ∧ (∀ (s : Shared) (u : Value), BindsTo s fd ⟨[u], []⟩ [(x, u)]) ∧
        (∀ (H : Hp) (a : Addr) (ns : List Int), ns.length ≤ n → Only H → SqL K H a (ns.map V.int) → sp [.ref a] H (fun v _ => v = .bl true) fun _ _ _ => False) ∧
        ∀ base : Heap, K.In base → base.Ns mainGlobals mg → FnOk l.prog w K mg base (L2.CX l.prog w) k fa fd [x] sp) :
    PySem.W.WalkO q loose XP YP l.row.toRowW d [] (fun f vs => PySem.call f vs) := by
  refine Att.attach_call hn hdf fun w s₀ s₁ mg mb fa o pm cd doc a vs ns G Y ho hd hcd hmg hobj hints hlen hg => ?_
  obtain ⟨K, fd, sp, KX, hb, hsp, hF⟩ := F w mg fa _ Y G.T.g hmg
  exact law_call KX G.T.g G.T.b G.T.builtins G.T.nolimit hg hobj hints (Nat.le_trans hlen hn2) hr hF hb (fun H hO hS => hsp H a ns hlen hO hS) fun H e s' ⟨_, _, _, _, _, _, _, _, _, _, _, _, z⟩ => z
end Fb

/-! FbO: the order of data; sorted, max, min of lists of tuples. -/
namespace Fb
open PySem PySem.Spec PyProof.Rows L2 Evl
/-! ### sorting by insertion -/
section
variable {α β : Type}
def ins (lt : α → α → Bool) (x : α) : List α → List α
  | [] => [x]
  | y :: ys => if lt y x = true then y :: ins lt x ys else x :: y :: ys
def isort (lt : α → α → Bool) : List α → List α
  | [] => []
  | x :: xs => ins lt x (isort lt xs)
variable {lt : α → α → Bool}
theorem ins_perm (x : α) : ∀ l : List α, (ins lt x l).Perm (x :: l)
  | [] => List.Perm.refl _
  | y :: ys => by
    unfold ins
    split
    · exact ((ins_perm x ys).cons y).trans (List.Perm.swap x y ys)
    · exact List.Perm.refl _
theorem isort_perm : ∀ l : List α, (isort lt l).Perm l
  | [] => List.Perm.refl _
  | x :: xs => (ins_perm x _).trans ((isort_perm xs).cons x)
theorem isort_len (l : List α) : (isort lt l).length = l.length := (isort_perm l).length_eq
theorem isort_mem {l : List α} {x : α} : x ∈ isort lt l ↔ x ∈ l := (isort_perm l).mem_iff
theorem ins_srtd (O : SrtO.Swo lt) (x : α) : ∀ {l : List α}, SrtO.Srtd lt l → SrtO.Srtd lt (ins lt x l)
  | [], _ => List.pairwise_singleton _ _
  | y :: ys, h => by
    obtain ⟨h1, h2⟩ := List.pairwise_cons.mp h
    unfold ins
    split
    · rename_i hy
      refine List.pairwise_cons.mpr ⟨fun z hz => ?_, ins_srtd O x h2⟩
      rcases List.mem_cons.mp ((ins_perm x ys).mem_iff.mp hz) with rfl | hz
      · exact O.asym _ _ hy
      · exact h1 z hz
    · rename_i hy
      have hy' : lt y x = false := by simpa using hy
      refine List.pairwise_cons.mpr ⟨fun z hz => ?_, h⟩
      rcases List.mem_cons.mp hz with rfl | hz
      · exact hy'
      · exact O.tr x y z hy' (h1 z hz)
theorem isort_srtd (O : SrtO.Swo lt) : ∀ l : List α, SrtO.Srtd lt (isort lt l)
  | [] => List.Pairwise.nil
  | x :: xs => ins_srtd O x (isort_srtd O xs)
theorem ins_stb (O : SrtO.Swo lt) (x : α) : ∀ l : List α, SrtO.Stb lt (ins lt x l) (x :: l)
  | [] => SrtO.Stb.refl _
  | y :: ys => by
    refine ⟨ins_perm x (y :: ys), fun z => ?_⟩
    unfold ins
    split
    · rename_i hy
      have ih := (ins_stb O x ys).cls z
      cases hzx : SrtO.eqv lt z x with
      | false =>
        rw [List.filter_cons_of_neg (a := x) (by rw [hzx]; decide)] at ih ⊢
        cases hzy : SrtO.eqv lt z y with
        | true => rw [List.filter_cons_of_pos hzy, List.filter_cons_of_pos hzy, ih]
        | false => rw [List.filter_cons_of_neg (by rw [hzy]; decide), List.filter_cons_of_neg (by rw [hzy]; decide), ih]
      | true =>
        have hzy : SrtO.eqv lt z y = false := by
          cases q : SrtO.eqv lt z y with
          | false => rfl
          | true =>
            have e := SrtO.eqv_trans O (v := y) hzx
            rw [q] at e
            obtain ⟨_, e2⟩ := SrtO.eqv_iff.mp e.symm
            rw [hy] at e2
            cases e2
        rw [List.filter_cons_of_neg (by rw [hzy]; decide), ih, List.filter_cons_of_pos hzx, List.filter_cons_of_pos hzx, List.filter_cons_of_neg (by rw [hzy]; decide)]
    · rfl
theorem Stb_cons {x : α} {l m : List α} (h : SrtO.Stb lt l m) : SrtO.Stb lt (x :: l) (x :: m) := ⟨h.perm.cons x, fun z => by
  rw [List.filter_cons, List.filter_cons, h.cls z]⟩
theorem isort_stb (O : SrtO.Swo lt) : ∀ l : List α, SrtO.Stb lt (isort lt l) l
  | [] => SrtO.Stb.refl _
  | x :: xs => (ins_stb O x _).trans (Stb_cons (isort_stb O xs))
theorem ins_map {lt2 : β → β → Bool} (f : α → β) (x : α) : ∀ (l : List α), (∀ y ∈ l, lt2 (f y) (f x) = lt y x) → ins lt2 (f x) (l.map f) = (ins lt x l).map f
  | [], _ => rfl
  | y :: ys, h => by
    have ih := ins_map f x ys fun z hz => h z (List.mem_cons_of_mem _ hz)
    have hy := h y List.mem_cons_self
    show (if lt2 (f y) (f x) = true then f y :: ins lt2 (f x) (ys.map f) else f x :: f y :: ys.map f) = (if lt y x = true then y :: ins lt x ys else x :: y :: ys).map f
    rw [hy, ih]
    split <;> rfl
theorem isort_map {lt2 : β → β → Bool} (f : α → β) : ∀ (l : List α), (∀ x ∈ l, ∀ y ∈ l, lt2 (f x) (f y) = lt x y) → isort lt2 (l.map f) = (isort lt l).map f
  | [], _ => rfl
  | x :: xs, h => by
    show ins lt2 (f x) (isort lt2 (xs.map f)) = (ins lt x (isort lt xs)).map f
    rw [isort_map f xs fun y hy z hz => h y (List.mem_cons_of_mem _ hy) z (List.mem_cons_of_mem _ hz)]
    exact ins_map f x _ fun y hy => h y (List.mem_cons_of_mem _ (isort_mem.mp hy)) x List.mem_cons_self
/-- two rearrangements of a list whose items the order parts are sorted to the same list -/
theorem isort_perm_eq (O : SrtO.Swo lt) {l m : List α} (p : l.Perm m) (h : ∀ x ∈ l, ∀ y ∈ l, lt x y = false → lt y x = false → x = y) : isort lt l = isort lt m := by
  have hp : (isort lt l).Perm (isort lt m) := ((isort_perm l).trans p).trans (isort_perm m).symm
  have h2 : ∀ x ∈ isort lt l, ∀ y ∈ isort lt l, lt x y = false → lt y x = false → x = y := fun x hx y hy => h x (isort_mem.mp hx) y (isort_mem.mp hy)
  refine go (isort_srtd O l) (isort_srtd O m) hp h2
where
  go : ∀ {a b : List α}, SrtO.Srtd lt a → SrtO.Srtd lt b → a.Perm b → (∀ x ∈ a, ∀ y ∈ a, lt x y = false → lt y x = false → x = y) → a = b
  | [], b, _, _, hp, _ => (List.Perm.eq_nil hp.symm).symm
  | x :: a, [], _, _, hp, _ => absurd hp.length_eq (by simp)
  | x :: a, y :: b, ha, hb, hp, h => by
    obtain ⟨ha1, ha2⟩ := List.pairwise_cons.mp ha
    obtain ⟨hb1, hb2⟩ := List.pairwise_cons.mp hb
    have hy : y ∈ x :: a := hp.mem_iff.mpr List.mem_cons_self
    have hx : x ∈ y :: b := hp.mem_iff.mp List.mem_cons_self
    have e : x = y := by
      rcases List.mem_cons.mp hy with q | q
      · exact q.symm
      · rcases List.mem_cons.mp hx with q2 | q2
        · exact q2
        · exact h x List.mem_cons_self y hy (hb1 x q2) (ha1 y q)
    subst e
    rw [go ha2 hb2 hp.cons_inv fun u hu v hv => h u (List.mem_cons_of_mem _ hu) v (List.mem_cons_of_mem _ hv)]
/-- a sorted list stays -/
theorem isort_id (O : SrtO.Swo lt) : ∀ {l : List α}, SrtO.Srtd lt l → isort lt l = l
  | [], _ => rfl
  | x :: xs, h => by
    obtain ⟨h1, h2⟩ := List.pairwise_cons.mp h
    show ins lt x (isort lt xs) = x :: xs
    rw [isort_id O h2]
    cases xs with
    | nil => rfl
    | cons y ys =>
      show (if lt y x = true then _ else _) = _
      rw [if_neg (by rw [h1 y List.mem_cons_self]; decide)]
end
/-! ### the order of data -/
abbrev ltD : PyData → PyData → Bool := PySem.W.dataLt
theorem swo_data : SrtO.Swo ltD := by
  refine ⟨fun x y h => ?_, fun x y z h1 h2 => ?_⟩
  · cases q : ltD y x with
    | false => rfl
    | true =>
      have t := (listOrd itemOrd).trans _ _ _ h q
      rw [(listOrd itemOrd).irrefl] at t
      cases t
  · cases q : ltD z x with
    | false => rfl
    | true =>
      rcases (listOrd itemOrd).negTrans _ (PySem.W.keyToks y) _ q with t | t
      · rw [show ltD z y = true from t] at h2
        cases h2
      · rw [show ltD y x = true from t] at h1
        cases h1
def sortD : List PyData → List PyData := isort ltD
/-- comparable, place by place, up to the first that differs -/
def cmpT : List PyData → List PyData → Bool
  | x :: xs, y :: ys => PySem.W.alike x y && (if PyData.eqv x y = true then cmpT xs ys else true)
  | _, _ => true
structure SortOk (ds : List PyData) : Prop where
  tup : ∀ d ∈ ds, ∃ x r, d = .tuple (x :: r)
  lay : ∀ d ∈ ds, d.canLay0 = true
  dp : ∀ d ∈ ds, d.depth ≤ 8
  fst : ∀ x r y q, PyData.tuple (x :: r) ∈ ds → PyData.tuple (y :: q) ∈ ds → PySem.W.dataType x = PySem.W.dataType y
  cmp : ∀ xs ys, PyData.tuple xs ∈ ds → PyData.tuple ys ∈ ds → cmpT xs ys = true
theorem alike_cmpT : ∀ {xs ys : List PyData}, PySem.W.alikeAll xs ys = true → cmpT xs ys = true
  | [], _, _ => by unfold cmpT; rfl
  | x :: xs, [], _ => by unfold cmpT; rfl
  | x :: xs, y :: ys, h => by
    obtain ⟨h1, h2⟩ := PySem.W.alike_all_cons h
    unfold cmpT
    rw [h1, alike_cmpT h2]
    simp
section
variable {prog : Program} {w : World} {A : Around} {s : Shared}
theorem katLex_cmp {b fin : Bool} {Q : Bool → Shared → Prop} : ∀ (xs ys : List PyData) (i : Nat) (vs ws : List Value) (as bs : List Addr), ReadsAll s.heap vs xs as → ReadsAll s.heap ws ys bs → cmpT xs ys = true → PyData.canLayAll0 xs = true → PyData.canLayAll0 ys = true →
    A.units + min (PyData.depthAll xs) (PyData.depthAll ys) < cLine → (b = true → i = 0 → ∀ x r t, xs = x :: r → x ≠ .tuple t) → fin = decide (xs.length < ys.length) → Q (PyProof.Rows.lexLt itemOrd (PySem.W.keyToksAll xs) (PySem.W.keyToksAll ys)) s → PySem.W.KatLex prog w A b fin Q (vs.zip ws) i s
  | [], [], i, _, _, _, _, ra, rb, _, _, _, _, _, hf, hq => by
    cases ra
    cases rb
    have e : fin = false := by rw [hf]; rfl
    subst e
    rw [lex_irrefl] at hq
    exact PySem.W.kat_nil hq
  | [], y :: ys, i, _, _, _, _, ra, rb, _, _, _, _, _, hf, hq => by
    cases ra
    have e : fin = true := by rw [hf]; exact decide_eq_true (Nat.succ_pos _)
    subst e
    rw [PySem.W.toks_all_cons] at hq
    simp only [PySem.W.keyToksAll] at hq
    rw [lex_diff (O := itemOrd) (by simp)] at hq
    rw [List.zip_nil_left]
    exact PySem.W.kat_nil (by simpa [itemLt] using hq)
  | x :: xs, [], i, _, _, _, _, ra, rb, _, _, _, _, _, hf, hq => by
    cases rb
    have e : fin = false := by rw [hf]; exact decide_eq_false (Nat.not_lt_zero _)
    subst e
    rw [PySem.W.toks_all_cons] at hq
    simp only [PySem.W.keyToksAll] at hq
    rw [lex_diff (O := itemOrd) (by simp)] at hq
    rw [List.zip_nil_right]
    exact PySem.W.kat_nil (by simpa [itemLt] using hq)
  | x :: xs, y :: ys, i, _, _, _, _, ra, rb, h, lx, ly, hu, hb, hf, hq => by
    unfold cmpT at h
    rw [Bool.and_eq_true] at h
    obtain ⟨h1, h2⟩ := h
    simp only [PyData.canLayAll0, Bool.and_eq_true] at lx ly
    have hf' : fin = decide (xs.length < ys.length) := by
      rw [hf]
      simp only [List.length_cons, Nat.add_lt_add_iff_right]
    cases ra with
    | cons r rs =>
      cases rb with
      | cons r' rs' =>
        rw [List.zip_cons_cons]
        refine PySem.W.kat_cons (PySem.W.eqAt_alike x y A s _ _ _ _ r r' h1 (SeqAt.room_head hu) prog w _ _ ?_)
        cases hx : PyData.eqv x y with
        | true =>
          rw [PySem.W.dataLt_all_yes h1 hx] at hq
          rw [hx, if_pos rfl] at h2
          exact PySem.W.kat_yes (katLex_cmp xs ys (i + 1) _ _ _ _ rs rs' h2 lx.2 ly.2 (SeqAt.room_tail hu) (fun _ hi => absurd hi (Nat.succ_ne_zero i)) hf' hq)
        | false =>
          rw [PySem.W.dataLt_all_no h1 hx] at hq
          refine PySem.W.kat_no (PySem.W.oneLt_alike (fun hbi t => ?_) r r' h1 (PySem.W.ne_none_of h1 hx) (SeqAt.room_head hu) hq)
          rw [Bool.and_eq_true] at hbi
          exact hb hbi.1 (by simpa using hbi.2) x xs t rfl
end
/-- what a value reads as -/
noncomputable def rdV (h : Heap) (v : Value) : PyData := open Classical in if q : ∃ d : PyData, d.canLay0 = true ∧ ∃ as, Reads h v d as then q.choose else .none
theorem rdV_eq {h : Heap} {v : Value} {d : PyData} {as : List Addr} (r : Reads h v d as) (hl : d.canLay0 = true) : rdV h v = d := by
  have q : ∃ d : PyData, d.canLay0 = true ∧ ∃ as, Reads h v d as := ⟨d, hl, as, r⟩
  unfold rdV
  rw [dif_pos q]
  obtain ⟨h1, as', h2⟩ := q.choose_spec
  exact SeqAt.Reads.unique _ _ v _ _ h1 h2 r
theorem readsAll_each {h : Heap} : ∀ {vs : List Value} {ds : List PyData} {as : List Addr}, ReadsAll h vs ds as → PySem.W.EachIs (fun v d => ∃ as, Reads h v d as) vs ds
  | _, _, _, .nil => .nil
  | _, _, _, .cons r rs => .cons ⟨_, r⟩ (readsAll_each rs)
section
variable {X : Cx}
theorem zip_get {α β : Type} : ∀ {xs : List α} {ys : List β} {i : Nat} {x : α} {y : β}, xs[i]? = some x → ys[i]? = some y → (x, y) ∈ xs.zip ys
  | x' :: xs, y' :: ys, 0, x, y, h1, h2 => by
    simp at h1 h2
    subst h1 h2
    simp
  | x' :: xs, y' :: ys, i + 1, x, y, h1, h2 => by
    rw [List.zip_cons_cons]
    exact List.mem_cons_of_mem _ (zip_get (i := i) (by simpa using h1) (by simpa using h2))
  | [], _, i, _, _, h1, _ => by simp at h1
  | _ :: _, [], i, _, _, _, h2 => by simp at h2
theorem readsAll_ix {h : Heap} : ∀ {vs : List Value} {ds : List PyData} {as : List Addr} {i : Nat} {v : Value}, ReadsAll h vs ds as → vs[i]? = some v → ∃ d as', ds[i]? = some d ∧ Reads h v d as'
  | _, _, _, i, _, .nil, e => by simp at e
  | _, _, _, 0, _, .cons r _, e => by simp at e; subst e; exact ⟨_, _, rfl, r⟩
  | _, _, _, i + 1, _, .cons _ rs, e => by
    obtain ⟨d, as', h1, h2⟩ := readsAll_ix (i := i) rs (by simpa using e)
    exact ⟨d, as', by simpa using h1, h2⟩
/-- sorted(xs), a list of tuples that can be compared -/
def rSortD (K : PySem.W.Frag) : List V → Hp → VK → Prop := fun vs H Q => ∃ (a : Addr) (xs : List V) (ds : List PyData), vs = [V.ref a] ∧ SqL K H a xs ∧ L2.DpAll K H xs ds ∧ SortOk ds ∧
  ∀ (zs : List (V × PyData)) (p : Addr), (∀ z ∈ zs, z ∈ xs.zip ds) → zs.map (·.2) = sortD ds → H p = none → Q (.ref p) (upd H p (.lst (zs.map (·.1))))
theorem dpAll_ref {K : PySem.W.Frag} {H : Hp} : ∀ {xs : List V} {ds : List PyData}, L2.DpAll K H xs ds → (∀ d ∈ ds, ∃ x r, d = .tuple (x :: r)) → ∀ x ∈ xs, ∃ t, x = V.ref t
  | _, _, .nil, _, x, hx => by cases hx
  | _, _, .cons h t, hd, x, hx => by
    rcases List.mem_cons.mp hx with rfl | hx
    · obtain ⟨y, r, rfl⟩ := hd _ List.mem_cons_self
      cases h with
      | tup _ _ => exact ⟨_, rfl⟩
    · exact dpAll_ref t (fun d hm => hd d (List.mem_cons_of_mem _ hm)) x hx
/-- the items can be sorted, wherever the objects are kept -/
theorem sortable_data {prog : Program} {w : World} {A : Around} {s : Shared} {h₀ : Heap} {a : Addr} {vs : List Value} {ds : List PyData} {as : List Addr} (hr : ReadsAll h₀ vs ds as) (ok : SortOk ds) (h0 : 0 < vs.length) (hu : A.units + 64 < cLine) (kk : ∀ b o, h₀.get? b = some o → b ≠ a ∧ s.heap.get? b = some o) :
    SrtO.SortableO prog w A s a vs fun v u => ltD (rdV h₀ v) (rdV h₀ u) := by
  intro h' keep
  have kp : ∀ b o, h₀.get? b = some o → h'.get? b = some o := fun b o e => keep b o (kk b o e).1 (kk b o e).2
  have hr' : ReadsAll h' vs ds as := ReadsAll.keeps kp hr
  have each := readsAll_each hr'
  have hlen : ds.length = vs.length := (SeqAt.ReadsAll.length _ _ _ hr).symm
  obtain ⟨d0, ds0, rfl⟩ : ∃ d0 ds0, ds = d0 :: ds0 := by
    cases ds with
    | nil => simp at hlen; omega
    | cons d0 ds0 => exact ⟨d0, ds0, rfl⟩
  obtain ⟨x0, r0, rfl⟩ := ok.tup d0 List.mem_cons_self
  refine ⟨tuples' (PySem.W.dataType x0 != Value.type "tuple"), fun Q E hq => ?_, fun p q hm hm' => ?_⟩
  · obtain ⟨fs, t1, t2, t3⟩ := PySem.W.each_katTups each ok.tup
    refine PySem.W.kat_kind (T := PySem.W.dataType x0) t1 (by omega) (fun f hf => ?_) (beq_self_eq_true _) hq
    obtain ⟨x, r, as', m1, m2⟩ := t3 f hf
    rw [← ok.fst x r x0 r0 m1 List.mem_cons_self]
    exact PySem.W.looks_reads m2
  · obtain ⟨pv, pk⟩ := p
    obtain ⟨qv, qk⟩ := q
    dsimp only at hm hm'
    obtain ⟨i, hi⟩ := List.mem_iff_getElem?.mp hm
    obtain ⟨j, hj⟩ := List.mem_iff_getElem?.mp hm'
    obtain ⟨d, as1, hd, ra⟩ := readsAll_ix hr' hi
    obtain ⟨d', as2, hd', rb⟩ := readsAll_ix hr' hj
    obtain ⟨d1, as3, hd1, ra0⟩ := readsAll_ix hr hi
    obtain ⟨d2, as4, hd2, rb0⟩ := readsAll_ix hr hj
    rw [hd] at hd1
    rw [hd'] at hd2
    cases hd1
    cases hd2
    have md := List.mem_of_getElem? hd
    have md' := List.mem_of_getElem? hd'
    have e1 := rdV_eq ra0 (ok.lay d md)
    have e2 := rdV_eq rb0 (ok.lay d' md')
    show wpAny (model prog w) A (keyLt' _ pv qv) (fun r s' => s' = { s with heap := h' } ∧ r = ltD (rdV h₀ pv) (rdV h₀ qv)) (fun _ _ => False) { s with heap := h' }
    rw [e1, e2]
    have lay := ok.lay d md
    have lay' := ok.lay d' md'
    have dp := ok.dp d md
    obtain ⟨x1, r1, rfl⟩ := ok.tup d md
    obtain ⟨x2, r2, rfl⟩ := ok.tup d' md'
    cases ra with
    | @tuple l o xs n _ _ h1 h2 h3 h4 =>
      cases rb with
      | @tuple l' o' xs' n' _ _ k1 k2 k3 k4 =>
        have n1 : xs.size = (x1 :: r1).length := by simpa using SeqAt.ReadsAll.length _ _ _ h4
        have n2 : xs'.size = (x2 :: r2).length := by simpa using SeqAt.ReadsAll.length _ _ _ k4
        have dp' : PyData.depthAll (x1 :: r1) ≤ 8 := by simp only [PyData.depth] at dp; omega
        refine PySem.W.kat_lt (s := { s with heap := h' }) h1 h3 k1 k3 (katLex_cmp (x1 :: r1) (x2 :: r2) 0 _ _ _ _ h4 k4 (ok.cmp _ _ md md') (by simpa only [PyData.canLay0] using lay) (by simpa only [PyData.canLay0] using lay') (by have := Nat.min_le_left (PyData.depthAll (x1 :: r1)) (PyData.depthAll (x2 :: r2)); omega) (fun hb _ x r t ex => ?_) (by rw [n1, n2]) ⟨rfl, (PySem.W.dataLt_tuple _ _).symm⟩)
        obtain ⟨rfl, rfl⟩ := List.cons.inj ex
        rw [← ok.fst x1 r1 x0 r0 md List.mem_cons_self] at hb
        exact PySem.W.dataType_tuple hb t
theorem cr_sortD (hu : X.A.units + 70 < cLine) : CallR X (.builtin "sorted") (rSortD X.K) := by
  intro pins s σ H vs us Q I r h
  obtain ⟨a, xs, ds, rfl, hs, hd, ok, q⟩ := h
  obtain ⟨its, rv, hl, hz⟩ := I.list hs
  obtain ⟨u, rfl, ru⟩ := vals1 r
  obtain rfl : u = Value.ref a := ru
  obtain ⟨as, hr⟩ := L2.Dp.readsAll I ds xs its hd rv
  obtain ⟨e1, e2⟩ := refs_back rv (dpAll_ref hd ok.tup)
  have O : SrtO.Swo fun v u => ltD (rdV s.heap v) (rdV s.heap u) := ⟨fun x y => swo_data.asym _ _, fun x y z => swo_data.tr _ _ _⟩
  refine SrtO.sorted_ord O hl.isList (by rw [← rv.length]; exact hz) (fun h2 h₁ a' ha kk => sortable_data (s := { s with heap := h₁ }) hr ok (by omega) (by show X.A.units + 1 + 1 + 64 < cLine; omega) kk) fun out h1 h2 => ?_
  obtain ⟨ep, he'⟩ := PyProof.Rows.sortedAll_at s.heap its out.toArray
  have h3 : ∀ u ∈ out, ∃ a, u = Value.ref a := fun u hu => e2 u (h2.perm.mem_iff.mp hu)
  have hlen : (out.map backV).length ≤ sizeLine := by
    rw [List.length_map, h2.perm.length_eq, ← rv.length]
    exact hz
  have hds : its.map (rdV s.heap) = ds := by
    have hL : its.length = ds.length := SeqAt.ReadsAll.length _ _ _ hr
    refine List.ext_getElem? fun i => ?_
    rw [List.getElem?_map]
    cases hi : its[i]? with
    | none =>
      have : ds.length ≤ i := by rw [← hL]; exact List.getElem?_eq_none_iff.mp hi
      rw [List.getElem?_eq_none this]
      rfl
    | some v =>
      obtain ⟨d, as', h4, h5⟩ := readsAll_ix hr hi
      rw [h4, Option.map_some, rdV_eq h5 (ok.lay d (List.mem_of_getElem? h4))]
  have hout : out.map (rdV s.heap) = sortD ds := by
    rw [← hds]
    exact SrtO.stb_uniq swo_data (SrtO.srtd_map h1) (isort_srtd swo_data _) ((SrtO.Stb.map swo_data (rdV s.heap) h2).trans ⟨(isort_perm _).symm, fun x => ((isort_stb swo_data _).cls x).symm⟩)
  have hq := q (out.map fun v => (backV v, rdV s.heap v)) (s.heap.objs.size + 1) (fun z hz => ?_) (by rw [List.map_map]; exact hout) (I.hok.fresh (Nat.le_succ _))
  · rw [List.map_map] at hq
    exact ⟨.ref _, upd H (s.heap.objs.size + 1) (.lst (out.map backV)), I.laid (t' := s.toks) (fun _ _ => PyProof.Rows.sortedAll_old) (Nat.le_succ _) ⟨hlen, out, ep, vals_back h3, he'⟩, rfl, hq⟩
  · obtain ⟨v, hv, rfl⟩ := List.mem_map.mp hz
    have hv' : v ∈ its := h2.perm.mem_iff.mp hv
    obtain ⟨i, hi⟩ := List.mem_iff_getElem?.mp hv'
    obtain ⟨d, as', h4, h5⟩ := readsAll_ix hr hi
    rw [rdV_eq h5 (ok.lay d (List.mem_of_getElem? h4))]
    refine zip_get (i := i) ?_ h4
    rw [e1, List.getElem?_map, hi]
    rfl
theorem dpAll_pick {K : PySem.W.Frag} {G : Hp} {xs : List V} {ds : List PyData} (h : DpAll K G xs ds) : ∀ {zs : List (V × PyData)}, (∀ z ∈ zs, z ∈ xs.zip ds) → DpAll K G (zs.map (·.1)) (zs.map (·.2))
  | [], _ => .nil
  | z :: zs, hz => .cons (pick h (hz z List.mem_cons_self)) (dpAll_pick h fun y hy => hz y (List.mem_cons_of_mem _ hy))
where
  pick : ∀ {xs : List V} {ds : List PyData} {z : V × PyData}, DpAll K G xs ds → z ∈ xs.zip ds → Dp K G z.1 z.2
  | _, _, _, .nil, hz => by simp at hz
  | _, _, _, .cons h t, hz => by
    rw [List.zip_cons_cons] at hz
    rcases List.mem_cons.mp hz with rfl | hz
    · exact h
    · exact pick t hz
variable {a b e : Expr} {r : Rho} {pos p : Pos}
theorem pv_sorted {xs : List PyData} (hm : X.mg "sorted" = none) (hu : X.A.units + 70 < cLine) (ha : Pv X a r (.d (.list xs))) (ok : SortOk xs) (hg : Gl X "sorted" := by rfl) (he : starEach [a] X.env = (false, eval a X.env) :: starEach [] X.env := by rfl) (hpl : (backTo pos (starEach [] X.env)).any (·.1) = false := by rfl) :
    Pv X (.Call (.Name "sorted" p) [a] [] pos) r (.d (.list (sortD xs))) :=
  pv_callB (cr_sortD hu) hg hm PyProof.Rows.boot_sorted (pa_cons ha pa_nil he) (fun vs G H Q g hd k => by
    obtain ⟨v, rfl, hv⟩ := dens1 hd
    cases hv with
    | lst q1 q2 =>
      refine ⟨_, _, xs, rfl, .inl (ex_rd g q1), DpAll.l2 _ _ (dpAll_up g _ _ q2), ok, fun zs l hz hs hl => k _ _ _ (Gr.new g hl) (Dp.lst (.inl upd_same) ?_)⟩
      rw [← hs]
      exact dpAll_up (Ex.new (fresh_back g hl)) _ _ (dpAll_pick q2 hz)) (he := he) (hpl := hpl)
/-- max(xs), min(xs), xs a list of things alike -/
theorem cr_maxD (hc : X.calm = true) (hu : X.A.units + 70 < cLine) : CallR X (.builtin "max") (fun vs H Q => ∃ (a : Addr) (xs : List V) (d : PyData) (ds : List PyData), vs = [V.ref a] ∧ SqL X.K H a xs ∧ L2.DpAll X.K H xs (d :: ds) ∧ PySem.W.AlikeAll (d :: ds) ∧ PyData.depthAll (d :: ds) ≤ 8 ∧ PyData.canLayAll0 (d :: ds) = true ∧ ∀ (i : Nat) (x : V), xs[i]? = some x → (d :: ds)[i]? = some (PySem.W.maxD d ds) → Q x H) := by
  intro pins s σ H vs us Q I r h
  obtain ⟨a, xs, d, ds, rfl, hs, hd, al, dp, lay, q⟩ := h
  obtain ⟨its, rv, hl, hz⟩ := I.list hs
  rw [Vals.ref1 r]
  obtain ⟨as, hr⟩ := L2.Dp.readsAll I (d :: ds) xs its hd rv
  refine PySem.W.max_list_data (I.ok.hd hc) hl.isList (by simpa using hr) al (by omega) fun i v h' tk bs hv rd kp => ?_
  have hv' : its[i]? = some v := by simpa using hv
  obtain ⟨x, hx, rx⟩ := vals_ix rv hv'
  obtain ⟨d', as', h4, h5⟩ := readsAll_ix hr hv'
  have e := SeqAt.Reads.unique _ _ v _ _ (lay_mem0 lay d' (List.mem_of_getElem? h4)) (Reads.keeps kp h5) rd
  rw [e] at h4
  exact ⟨x, H, I.kept kp, rx, q i x hx h4⟩
where
  vals_ix : ∀ {xs : List V} {its : List Value} {i : Nat} {v : Value}, Vals xs its → its[i]? = some v → ∃ x, xs[i]? = some x ∧ RelV x v
  | _, _, i, _, .nil, e => by simp at e
  | _, _, 0, _, .cons r _, e => by simp at e; subst e; exact ⟨_, rfl, r⟩
  | _, _, i + 1, _, .cons _ t, e => by
    obtain ⟨x, h1, h2⟩ := vals_ix (i := i) t (by simpa using e)
    exact ⟨x, by simpa using h1, h2⟩
  lay_mem0 : ∀ {ds : List PyData}, PyData.canLayAll0 ds = true → ∀ d ∈ ds, d.canLay0 = true
  | x :: xs, h, d, hd => by
    simp only [PyData.canLayAll0, Bool.and_eq_true] at h
    rcases List.mem_cons.mp hd with rfl | hd
    · exact h.1
    · exact lay_mem0 h.2 d hd
theorem cr_minD (hc : X.calm = true) (hu : X.A.units + 70 < cLine) : CallR X (.builtin "min") (fun vs H Q => ∃ (a : Addr) (xs : List V) (d : PyData) (ds : List PyData), vs = [V.ref a] ∧ SqL X.K H a xs ∧ L2.DpAll X.K H xs (d :: ds) ∧ PySem.W.AlikeAll (d :: ds) ∧ PyData.depthAll (d :: ds) ≤ 8 ∧ PyData.canLayAll0 (d :: ds) = true ∧ ∀ (i : Nat) (x : V), xs[i]? = some x → (d :: ds)[i]? = some (PySem.W.minD d ds) → Q x H) := by
  intro pins s σ H vs us Q I r h
  obtain ⟨a, xs, d, ds, rfl, hs, hd, al, dp, lay, q⟩ := h
  obtain ⟨its, rv, hl, hz⟩ := I.list hs
  rw [Vals.ref1 r]
  obtain ⟨as, hr⟩ := L2.Dp.readsAll I (d :: ds) xs its hd rv
  refine PySem.W.min_list_data (I.ok.hd hc) hl.isList (by simpa using hr) al (by omega) fun i v h' tk bs hv rd kp => ?_
  have hv' : its[i]? = some v := by simpa using hv
  obtain ⟨x, hx, rx⟩ := cr_maxD.vals_ix rv hv'
  obtain ⟨d', as', h4, h5⟩ := readsAll_ix hr hv'
  have e := SeqAt.Reads.unique _ _ v _ _ (cr_maxD.lay_mem0 lay d' (List.mem_of_getElem? h4)) (Reads.keeps kp h5) rd
  rw [e] at h4
  exact ⟨x, H, I.kept kp, rx, q i x hx h4⟩
theorem pv_maxL {d : PyData} {ds : List PyData} (hm : X.mg "max" = none) (hu : X.A.units + 70 < cLine) (ha : Pv X a r (.d (.list (d :: ds)))) (al : PySem.W.AlikeAll (d :: ds)) (dp : PyData.depthAll (d :: ds) ≤ 8) (lay : PyData.canLayAll0 (d :: ds) = true) (hc : X.calm = true := by rfl) (hg : Gl X "max" := by rfl) (he : starEach [a] X.env = (false, eval a X.env) :: starEach [] X.env := by rfl) (hpl : (backTo pos (starEach [] X.env)).any (·.1) = false := by rfl) :
    Pv X (.Call (.Name "max" p) [a] [] pos) r (.d (PySem.W.maxD d ds)) :=
  pv_callB (cr_maxD hc hu) hg hm PyProof.Rows.boot_max (pa_cons ha pa_nil he) (fun vs G H Q g hd k => by
    obtain ⟨v, rfl, hv⟩ := dens1 hd
    cases hv with
    | lst q1 q2 =>
      refine ⟨_, _, d, ds, rfl, .inl (ex_rd g q1), DpAll.l2 _ _ (dpAll_up g _ _ q2), al, dp, lay, fun i x hx hi => k _ _ _ (Gr.refl g) ?_⟩
      obtain ⟨v', h1, h2⟩ := DpAll.get q2 hi
      rw [hx] at h1
      cases h1
      exact h2) (he := he) (hpl := hpl)
theorem pv_minL {d : PyData} {ds : List PyData} (hm : X.mg "min" = none) (hu : X.A.units + 70 < cLine) (ha : Pv X a r (.d (.list (d :: ds)))) (al : PySem.W.AlikeAll (d :: ds)) (dp : PyData.depthAll (d :: ds) ≤ 8) (lay : PyData.canLayAll0 (d :: ds) = true) (hc : X.calm = true := by rfl) (hg : Gl X "min" := by rfl) (he : starEach [a] X.env = (false, eval a X.env) :: starEach [] X.env := by rfl) (hpl : (backTo pos (starEach [] X.env)).any (·.1) = false := by rfl) :
    Pv X (.Call (.Name "min" p) [a] [] pos) r (.d (PySem.W.minD d ds)) :=
  pv_callB (cr_minD hc hu) hg hm PyProof.Rows.boot_min (pa_cons ha pa_nil he) (fun vs G H Q g hd k => by
    obtain ⟨v, rfl, hv⟩ := dens1 hd
    cases hv with
    | lst q1 q2 =>
      refine ⟨_, _, d, ds, rfl, .inl (ex_rd g q1), DpAll.l2 _ _ (dpAll_up g _ _ q2), al, dp, lay, fun i x hx hi => k _ _ _ (Gr.refl g) ?_⟩
      obtain ⟨v', h1, h2⟩ := DpAll.get q2 hi
      rw [hx] at h1
      cases h1
      exact h2) (he := he) (hpl := hpl)
end
end Fb

/-! FbU: walks over a dict with tuple keys (locked meanwhile); list(d), sorted(d); d[k] = v. -/
namespace Fb
open PySem PySem.Spec PyProof.Rows L2 Evl
section
variable {K : PySem.W.Frag} {G G' : Hp} {d : Addr}
/-- what stands at d is exchanged, and is neither a list nor a tuple -/
structure Swp (d : Addr) (G G' : Hp) : Prop where
  ne : ∀ a, a ≠ d → G' a = G a
  nl : ∀ xs, ¬ Rd G d (.lst xs)
  nt : ∀ xs, ¬ Rd G d (.tup xs)
theorem Swp.rd (s : Swp d G G') {a : Addr} {u : HO} (h : Rd G a u) (hn : a ≠ d) : Rd G' a u := by
  rcases h with h | ⟨o, h⟩
  · exact .inl (by rw [s.ne a hn]; exact h)
  · exact .inr ⟨o, by rw [s.ne a hn]; exact h⟩
theorem Swp.t (s : Swp d G G') {a : Addr} {xs : List V} (h : SqT K G a xs) : SqT K G' a xs := by
  rcases h with h | h
  · exact .inl (s.rd h fun z => by subst z; exact s.nt xs h)
  · exact .inr h
theorem Swp.l (s : Swp d G G') {a : Addr} {xs : List V} (h : SqL K G a xs) : SqL K G' a xs := by
  rcases h with h | h
  · exact .inl (s.rd h fun z => by subst z; exact s.nl xs h)
  · exact .inr h
mutual
theorem dp_swp (s : Swp d G G') : ∀ (y : PyData) (v : V), Dp K G v y → Dp K G' v y
  | .none, _, h => by cases h; exact .non
  | .bool _, _, h => by cases h; exact .bl _
  | .int _, _, h => by cases h; exact .int _
  | .str _, _, h => by cases h; exact .str _
  | .list ds, _, h => by
    cases h with
    | lst h1 h2 => exact .lst (s.rd h1 fun z => by subst z; exact s.nl _ h1) (dpAll_swp s ds _ h2)
  | .tuple ds, _, h => by
    cases h with
    | @tup a xs _ h1 h2 =>
      refine .tup ?_ (dpAll_swp s ds _ h2)
      rcases h1 with h1 | ⟨h1, h3⟩
      · exact .inl (by rw [s.ne a fun z => by subst z; exact s.nt _ (.inl h1)]; exact h1)
      · exact .inr ⟨s.t h1, h3⟩
  | .dict _, _, h => nomatch h
theorem dpAll_swp (s : Swp d G G') : ∀ (ys : List PyData) (vs : List V), DpAll K G vs ys → DpAll K G' vs ys
  | [], _, h => by cases h; exact .nil
  | y :: ys, _, h => by
    cases h with
    | cons h1 h2 => exact .cons (dp_swp s y _ h1) (dpAll_swp s ys _ h2)
end
theorem prd_swp (s : Swp d G G') {ws : List (List Key × V)} {kvs : List (List Key × PyData)} (h : PrD K G ws kvs) : PrD K G' ws kvs := L2.Paired.mapP h fun _ _ z => ⟨z.1, dp_swp s _ _ z.2⟩
theorem denF_swp (s : Swp d G G') (ht : ∀ ws, Rd G d (.dT ws) → Rd G' d (.dT ws)) {x : V} : ∀ {y : Fd}, DenF K G x y → DenF K G' x y
  | .d y, h => dp_swp s y x h
  | .t kvs, ⟨a, ws, h1, h2, h3⟩ => ⟨a, ws, h1, (by
      by_cases z : a = d
      · subst z; exact ht _ h2
      · exact s.rd h2 z), prd_swp s h3⟩
theorem den_swp (s : Swp d G G') (ht : ∀ ws, Rd G d (.dT ws) → Rd G' d (.dT ws)) (hk : ∀ ws, ¬ Rd G d (.dK ws)) (hi : ∀ C dx fs, G d ≠ some (.ins C dx fs)) (hz : ∀ o u, G d ≠ some (.frz o u)) {x : V} : ∀ {y : Dn}, Den K G x y → Den K G' x y
  | .d y, h => dp_swp s y x h
  | .t kvs, ⟨a, ws, h1, h2, h3⟩ => ⟨a, ws, h1, (by
      by_cases z : a = d
      · subst z; exact ht _ h2
      · exact s.rd h2 z), prd_swp s h3⟩
  | .k kvs, ⟨a, ws, h1, h2, h3⟩ => ⟨a, ws, h1, s.rd h2 (fun z => by subst z; exact hk _ h2), L2.Paired.mapP h3 fun _ _ z => ⟨z.1, dp_swp s _ _ z.2⟩⟩
  | .v y, h => h
  | .sc ns, ⟨a, h1, h2⟩ => ⟨a, h1, s.l h2⟩
  | .ob p C fs, ⟨dx, ws, h1, h2, h3⟩ => ⟨dx, ws, h1, (by rw [s.ne p fun z => by subst z; exact hi _ _ _ h2]; exact h2), L2.Paired.mapP h3 fun _ _ z => ⟨z.1, denF_swp s ht z.2⟩⟩
  | .z kvs, ⟨a, o, ws, h1, h2, h3⟩ => ⟨a, o, ws, h1, (by rw [s.ne a fun z => by subst z; exact hz _ _ h2]; exact h2), prd_swp s h3⟩
  | .os l, ⟨a, h1, h2, h3⟩ => ⟨a, h1, s.rd h2 (fun z => by subst z; exact s.nl _ h2), fun o ho => by
    obtain ⟨dx, ws, h4, h5⟩ := h3 o ho
    exact ⟨dx, ws, (by rw [s.ne o.1 fun z => by rw [z] at h4; exact hi _ _ _ h4]; exact h4), L2.Paired.mapP h5 fun _ _ z => ⟨z.1, denF_swp s ht z.2⟩⟩⟩
end
theorem swp_t {d : Addr} {G : Hp} {ws : List (List Key × V)} {u : HO} (hd : G d = some (.dT ws)) : Swp d G (upd G d u) := by
  refine ⟨fun a ha => upd_ne ha, fun xs z => ?_, fun xs z => ?_⟩
  · rcases z with z | ⟨o, z⟩
    · rw [hd] at z; cases z
    · rw [hd] at z; cases z
  · rcases z with z | ⟨o, z⟩
    · rw [hd] at z; cases z
    · rw [hd] at z; cases z
theorem swp_z {d : Addr} {G : Hp} {ws : List (List Key × V)} {u : HO} {od : Obj} (hd : G d = some (.frz od (.dT ws))) : Swp d G (upd G d u) := by
  refine ⟨fun a ha => upd_ne ha, fun xs z => ?_, fun xs z => ?_⟩
  · rcases z with z | ⟨o, z⟩
    · rw [hd] at z; cases z
    · rw [hd] at z; cases z
  · rcases z with z | ⟨o, z⟩
    · rw [hd] at z; cases z
    · rw [hd] at z; cases z
section
variable {X : Cx} {a b c e f o : Expr} {es : List Expr} {r : Rho} {d d1 d2 d3 : Dn} {pos p p1 p2 apos cpos : Pos} {k : List Key} {kvs : List (List Key × PyData)}
theorem en_set_den {K : PySem.W.Frag} {G : Hp} {σ : L2.St} {r : Rho} {i : Nat} {d : Dn} {v : V} (n : En K G σ r) (hi : i < r.length) (hv : σ[i]? = some (some v)) (q : Den K G v d) : En K G σ (r.set i (some d)) := by
  refine ⟨by rw [List.length_set]; exact n.len, fun j e hj => ?_⟩
  by_cases hij : i = j
  · subst hij
    rw [List.getElem?_set_self hi] at hj
    cases hj
    exact ⟨v, hv, q⟩
  · rw [List.getElem?_set_ne hij] at hj
    exact n.at_ j e hj
/-- the dict in slot i is locked while e runs -/
theorem pv_lock (i : Nat) {y : PyData} (hi : r[i]? = some (some (.t kvs))) (h : Pv X e (r.set i (some (.z kvs))) (.d y)) : Pv X e r (.d y) := fun σ G H g n => by
  obtain ⟨v, hv, q, ws, rfl, hd, hp⟩ := n.at_ i _ hi
  have hl : i < r.length := (List.getElem?_eq_some_iff.mp hi).1
  rcases hd with hd | ⟨o, hd⟩
  · have hH := g _ _ hd
    refine wE_of (pe_lock pe_w) ⟨q, .dT ws, hH, trivial, fun od => ?_⟩
    have sw : Swp q G (upd G q (.frz od (.dT ws))) := swp_t hd
    have n2 : En X.K (upd G q (.frz od (.dT ws))) σ r := ⟨n.len, fun j dn hj => by
      obtain ⟨u, h1, h2⟩ := n.at_ j dn hj
      refine ⟨u, h1, den_swp sw (fun w z => ?_) (fun w z => ?_) (fun _ _ _ z => by rw [hd] at z; cases z) (fun _ _ z => by rw [hd] at z; cases z) h2⟩
      · rcases z with z | ⟨_, z⟩
        · rw [hd] at z
          cases z
          exact .inr ⟨od, upd_same⟩
        · rw [hd] at z; cases z
      · rcases z with z | ⟨_, z⟩
        · rw [hd] at z; cases z
        · rw [hd] at z; cases z⟩
    have g2 : Ex (upd G q (.frz od (.dT ws))) (upd H q (.frz od (.dT ws))) := fun a u z => by
      by_cases ha : a = q
      · subst ha; rw [upd_same] at z ⊢; exact z
      · rw [upd_ne ha] at z ⊢; exact g a u z
    refine wE_imp (h σ _ _ g2 (en_set_den n2 hl hv ⟨q, od, ws, rfl, upd_same, prd_swp sw hp⟩)) fun v2 H2 ⟨G2, k2, q2⟩ => ?_
    have e2 : G2 q = some (.frz od (.dT ws)) := k2.g _ _ upd_same
    refine ⟨k2.h _ _ upd_same, upd G2 q (.dT ws), ⟨fun a u z => ?_, fun a u z => ?_, fun a u z => ?_, fun a z1 z2 => ?_⟩, ?_⟩
    · by_cases ha : a = q
      · subst ha; rw [upd_same]; rw [hd] at z; exact z
      · rw [upd_ne ha]; exact k2.g a u (by rw [upd_ne ha]; exact z)
    · by_cases ha : a = q
      · subst ha; rw [upd_same] at z ⊢; exact z
      · rw [upd_ne ha] at z ⊢; exact k2.s a u z
    · by_cases ha : a = q
      · subst ha; rw [upd_same]; rw [hH] at z; exact z
      · rw [upd_ne ha]; exact k2.h a u (by rw [upd_ne ha]; exact z)
    · have ha : a ≠ q := fun w => by subst w; rw [hd] at z1; cases z1
      rw [upd_ne ha] at z2
      intro u hu
      exact k2.f a (by rw [upd_ne ha]; exact z1) z2 u (by rw [upd_ne ha]; exact hu)
    · exact dp_swp (swp_z e2) y v2 q2
  · exact h σ G H g (en_set_den n hl hv ⟨q, o, ws, rfl, hd, hp⟩)
/-- for .. in d, d locked: the keys -/
theorem wk_keysZ {tg : Expr} (h : Pv X e r (.z kvs)) : Wk X tg e r (kvs.map fun q => Dn.d (keyD q.1)) := ⟨_, pi_keys pe_w, fun σ G H g n R k => wE_imp (h σ G H g n) fun v H1 ⟨G1, k1, q, o, ws, ev, hq, hp⟩ => by
  have hl := prd_len hp
  refine ⟨q, o, ev, .inr ⟨ws, k1.s _ _ hq, k _ G1 H1 k1 (fun i H2 e2 hi => ⟨e2 _ _ hq, by rw [hl]; simpa using hi⟩) (fun i G2 H2 x H3 e2 s2 y d hd => ?_) (fun i H2 e2 hi => ⟨e2 _ _ hq, by rw [hl]; simpa using hi⟩)⟩⟩
  obtain ⟨rfl, kk, v', b, hi, rfl, hb⟩ := y
  obtain ⟨G3, k3, h3⟩ := Gr.tup s2 hb
  rw [List.getElem?_map] at hd
  have ek : ∃ q', kvs[i]? = some q' ∧ q'.1 = kk := by
    have : ∀ {ws : List (List Key × V)} {kvs : List (List Key × PyData)} {i : Nat} {kk : List Key} {v' : V}, PrD X.K G1 ws kvs → ws[i]? = some (kk, v') → ∃ q', kvs[i]? = some q' ∧ q'.1 = kk := by
      intro ws kvs i kk v' hp
      induction hp generalizing i with
      | nil => intro z; simp at z
      | cons h1 _ ih =>
        intro z
        cases i with
        | zero => simp at z; subst z; exact ⟨_, rfl, h1.1.symm⟩
        | succ i => obtain ⟨q', z1, z2⟩ := ih (by simpa using z); exact ⟨q', by simpa using z1, z2⟩
    exact this hp hi
  obtain ⟨q', e1, e2'⟩ := ek
  rw [e1] at hd
  cases hd
  exact ⟨G3, k3, by show Dp X.K G3 (V.ref b) (keyD q'.1); rw [e2']; exact key_dp h3⟩⟩
theorem keys_in {K : PySem.W.Frag} {G H : Hp} (g : Ex G H) : ∀ {ws : List (List Key × V)} {kvs : List (List Key × PyData)} {bs : List Addr}, PrD K G ws kvs → IsKeys H ws bs → ∃ G2, Gr G H G2 H ∧ DpAll K G2 (bs.map V.ref) (kvs.map fun q => keyD q.1)
  | _, _, _, .nil, h => by cases h; exact ⟨G, Gr.refl g, .nil⟩
  | _, _, _, .cons h1 t, h => by
    cases h with
    | cons hb h =>
      obtain ⟨G2, k2, q2⟩ := keys_in g t h
      obtain ⟨G3, k3, h3⟩ := Gr.tup k2.s hb
      exact ⟨G3, k2.trans k3, .cons (by dsimp only; rw [← h1.1]; exact key_dp h3) (dpAll_up k3.g _ _ q2)⟩
/-- list(d) -/
theorem pv_listT (hm : X.mg "list" = none) (ha : Pv X a r (.t kvs)) (hc : X.calm = true := by rfl) (hg : Gl X "list" := by rfl) (he : starEach [a] X.env = (false, eval a X.env) :: starEach [] X.env := by rfl) (hpl : (backTo pos (starEach [] X.env)).any (·.1) = false := by rfl) :
    Pv X (.Call (.Name "list" p) [a] [] pos) r (.d (.list (kvs.map fun q => keyD q.1))) :=
  pv_callTy (call_list_dT hc) hg hm PyProof.Rows.boot_list (pa_cons ha pa_nil he) (fun vs G H Q g hd k => by
    obtain ⟨v, rfl, q, ws, ev, hq, hp⟩ := dens1 hd
    refine ⟨q, ws, by rw [ev], ex_rd g hq, fun l bs hl hb => ?_⟩
    obtain ⟨G2, k2, q2⟩ := keys_in g hp hb
    exact k _ _ _ (k2.trans (Gr.new k2.s hl)) (Dp.lst (.inl upd_same) (dpAll_up (Ex.new (fresh_back k2.s hl)) _ _ q2))) (he := he) (hpl := hpl)
/-- sorted(d) -/
theorem cr_sortT (hc : X.calm = true) (hu : X.A.units + 70 < cLine) : CallR X (.builtin "sorted") (fun vs H Q => ∃ (d : Addr) (ws : List (List Key × V)), vs = [V.ref d] ∧ Rd H d (.dT ws) ∧ SortOk (ws.map fun q => keyD q.1) ∧
    ∀ (bs : List Addr) (zs : List (V × PyData)) (p : Addr), IsKeys H ws bs → (∀ z ∈ zs, z ∈ (bs.map V.ref).zip (ws.map fun q => keyD q.1)) → zs.map (·.2) = sortD (ws.map fun q => keyD q.1) → H p = none → Q (.ref p) (upd H p (.lst (zs.map (·.1))))) := by
  intro pins s σ H vs us Q I r h
  obtain ⟨d, ws, rfl, hd, ok, q⟩ := h
  obtain ⟨u, rfl, rx⟩ := r.one
  cases rx
  obtain ⟨z, hs, ks, pr, oo, es, ep, ho, hx, hdt, he, hn⟩ := (show ObjOk X.prog X.w H s.heap d (.dT ws) from hd.ok I.hok)
  have l1 : es.size = ks.length := size_of_entries he
  have l2 : ws.length = ks.length := Paired.length pr
  refine Calls.call_function_entry PyProof.Rows.kind_sorted PyProof.Rows.plain_sorted PyProof.Rows.entry_sorted (PyProof.Rows.args_sorted1 _) ?_
  unfold Builtin.«sorted»
  refine wpAny_bind (m := checkCount "sorted" 1 1 _) (wpAny_pure ?_)
  refine wpAny_bind (PySem.W.kdu_collect (A := X.A.in1) (kdl_raw hs hx hdt) (I.ok.hd hc) ho (by omega) fun h' tk acc' kp it => ?_)
  have ea : acc'.toList = ks.map fun x => Value.ref x.2.1 := by
    have hl : acc'.toList.length = ks.length := by rw [Array.length_toList, it.1]; exact l1
    apply List.ext_getElem?
    intro j
    rw [List.getElem?_map]
    cases hj : acc'.toList[j]? with
    | none =>
      have h1 := List.getElem?_eq_none_iff.mp hj
      rw [List.getElem?_eq_none (by omega)]
      all_goals rfl
    | some v =>
      obtain ⟨en, hen, hv⟩ := it.2 j v (by rw [← Array.getElem?_toList]; exact hj)
      have qe := entry_at he j
      rw [hen] at qe
      cases hb : ks[j]? with
      | none =>
        rw [hb] at qe
        exact nomatch (show some en = none from qe)
      | some b =>
        rw [hb] at qe
        have e2 : en = entryOfKey (tupleKind (mixKind X.prog X.w)) b := Option.some.inj qe
        rw [hv, e2]
        all_goals rfl
  have eb : acc'.toList = (ks.map fun x => x.2.1).map Value.ref := by rw [ea, List.map_map]; all_goals rfl
  rw [eb]
  have hik := isKeys_of pr
  generalize hbs : (ks.map fun x => x.2.1) = bs at eb hik
  have rv : Vals (bs.map V.ref) (bs.map Value.ref) := vals_refs bs
  have hbl : bs.length = ks.length := by rw [← hbs, List.length_map]
  have I1 : L2.Inv X pins σ H { s with heap := h', toks := tk } := I.kept kp
  have hD : L2.DpAll X.K H (bs.map V.ref) (ws.map fun q => keyD q.1) := by
    have : ∀ {ws : List (List Key × V)} {bs : List Addr}, IsKeys H ws bs → L2.DpAll X.K H (bs.map V.ref) (ws.map fun q => keyD q.1) := by
      intro ws bs hh
      unfold IsKeys at hh
      induction hh with
      | nil => exact .nil
      | cons h1 _ ih => exact .cons (Dp.l2 _ _ (key_dp h1)) ih
    exact this hik
  obtain ⟨as, hr⟩ := L2.Dp.readsAll I1 _ _ _ hD rv
  have hr : ReadsAll h' (bs.map Value.ref) (ws.map fun q => keyD q.1) as := hr
  obtain ⟨e1, e2⟩ := refs_back rv (dpAll_ref hD ok.tup)
  have O : SrtO.Swo fun v u => ltD (rdV h' v) (rdV h' u) := ⟨fun x y => swo_data.asym _ _, fun x y z => swo_data.tr _ _ _⟩
  refine wpAny_bind (wpAny_newList ?_ (by rw [List.length_map]; omega))
  have hoL : (h'.push (seqObj "list" (bs.map Value.ref).toArray 0)).get? h'.objs.size = some (seqObj "list" (bs.map Value.ref).toArray 0) := Heap.get?_push_size _ rfl
  show wpAny _ _ _ _ _ { s with heap := h'.push (seqObj "list" (bs.map Value.ref).toArray 0), toks := tk }
  have kk : ∀ b o, h'.get? b = some o → b ≠ h'.objs.size ∧ (h'.push (seqObj "list" (bs.map Value.ref).toArray 0)).get? b = some o := fun b o e => ⟨Nat.ne_of_lt (Heap.lt_size e), Heap.get?_push_of_some _ e⟩
  refine wpAny_bind (wpAny_holding (wpAny_call_entry PyProof.Rows.slot_list_sort ⟨_, hoL, rfl⟩ PyProof.Rows.entry_list_sort
    (SrtO.list_sort_ord O (s := { s with heap := h'.push (seqObj "list" (bs.map Value.ref).toArray 0), toks := tk }) hoL (by rw [List.length_map]; omega) (fun h2 => sortable_data (s := { s with heap := h'.push (seqObj "list" (bs.map Value.ref).toArray 0), toks := tk }) hr ok (by omega) (by show X.A.units + 1 + 1 + 64 < cLine; omega) kk) fun out h1 h2 => ⟨_, rfl, ?_⟩)
    (PyProof.Rows.args_list_sort _)))
  obtain ⟨e', he'⟩ := PyProof.Rows.sortedHeap_at (vs := bs.map Value.ref) (out := out.toArray) hoL
  have h3 : ∀ u ∈ out, ∃ a, u = Value.ref a := fun u hu => e2 u (h2.perm.mem_iff.mp hu)
  have hlen : (out.map backV).length ≤ sizeLine := by
    rw [List.length_map, h2.perm.length_eq, List.length_map]
    omega
  have hds : (bs.map Value.ref).map (rdV h') = ws.map fun q => keyD q.1 := by
    have hL : (bs.map Value.ref).length = (ws.map fun q => keyD q.1).length := SeqAt.ReadsAll.length _ _ _ hr
    refine List.ext_getElem? fun i => ?_
    rw [List.getElem?_map]
    cases hi : (bs.map Value.ref)[i]? with
    | none =>
      have : (ws.map fun q => keyD q.1).length ≤ i := by rw [← hL]; exact List.getElem?_eq_none_iff.mp hi
      rw [List.getElem?_eq_none this]
      rfl
    | some v =>
      obtain ⟨d, as', h4, h5⟩ := readsAll_ix hr hi
      rw [h4, Option.map_some, rdV_eq h5 (ok.lay d (List.mem_of_getElem? h4))]
  have hout : out.map (rdV h') = sortD (ws.map fun q => keyD q.1) := by
    rw [← hds]
    exact SrtO.stb_uniq swo_data (SrtO.srtd_map h1) (isort_srtd swo_data _) ((SrtO.Stb.map swo_data (rdV h') h2).trans ⟨(isort_perm _).symm, fun x => ((isort_stb swo_data _).cls x).symm⟩)
  have hq := q bs (out.map fun v => (backV v, rdV h' v)) h'.objs.size hik (fun z hz => ?_) (by rw [List.map_map]; exact hout) (I1.hok.fresh (Nat.le_refl _))
  · rw [List.map_map] at hq
    refine wpAny_pure ⟨_, rfl, .ref h'.objs.size, upd H h'.objs.size (.lst (out.map backV)), I1.laid (t' := tk) (fun b u e => ?_) (Nat.le_refl _) (show ObjOk X.prog X.w _ _ _ (.lst (out.map backV)) from ⟨hlen, out, e', vals_back h3, he'⟩), rfl, hq⟩
    have hb : b < h'.objs.size := Heap.lt_size e
    rw [PyProof.Rows.sortedHeap_old (Nat.ne_of_lt hb) (by rw [size_push']; exact Nat.lt_succ_of_lt hb)]
    exact Heap.get?_push_of_some _ e
  · obtain ⟨v, hv, rfl⟩ := List.mem_map.mp hz
    have hv' : v ∈ bs.map Value.ref := h2.perm.mem_iff.mp hv
    obtain ⟨i, hi⟩ := List.mem_iff_getElem?.mp hv'
    obtain ⟨d, as', h4, h5⟩ := readsAll_ix hr hi
    rw [rdV_eq h5 (ok.lay d (List.mem_of_getElem? h4))]
    refine zip_get (i := i) ?_ h4
    rw [e1, List.getElem?_map, hi]
    rfl
theorem prd_keys {K : PySem.W.Frag} {G : Hp} {ws : List (List Key × V)} {kvs : List (List Key × PyData)} (h : PrD K G ws kvs) : (ws.map fun q => keyD q.1) = kvs.map fun q => keyD q.1 := by
  induction h with
  | nil => rfl
  | cons h1 _ ih => rw [List.map_cons, List.map_cons, ih, h1.1]
theorem pv_sortedT (hm : X.mg "sorted" = none) (hu : X.A.units + 70 < cLine) (ha : Pv X a r (.t kvs)) (ok : SortOk (kvs.map fun q => keyD q.1)) (hc : X.calm = true := by rfl) (hg : Gl X "sorted" := by rfl) (he : starEach [a] X.env = (false, eval a X.env) :: starEach [] X.env := by rfl) (hpl : (backTo pos (starEach [] X.env)).any (·.1) = false := by rfl) :
    Pv X (.Call (.Name "sorted" p) [a] [] pos) r (.d (.list (sortD (kvs.map fun q => keyD q.1)))) :=
  pv_callB (cr_sortT hc hu) hg hm PyProof.Rows.boot_sorted (pa_cons ha pa_nil he) (fun vs G H Q g hd k => by
    obtain ⟨v, rfl, q, ws, ev, hq, hp⟩ := dens1 hd
    have ek := prd_keys hp
    refine ⟨q, ws, by rw [ev], ex_rd g hq, by rw [ek]; exact ok, fun bs zs l hb hz hs hl => ?_⟩
    obtain ⟨G2, k2, q2⟩ := keys_in g hp hb
    rw [ek] at hz hs
    refine k _ _ _ (k2.trans (Gr.new k2.s hl)) (Dp.lst (.inl upd_same) ?_)
    rw [← hs]
    exact dpAll_up (Ex.new (fresh_back k2.s hl)) _ _ (dpAll_pick q2 hz)) (he := he) (hpl := hpl)
end
end Fb

/-! FbV: dicts and lists of a def's own: made, changed, read, handed back. -/
namespace Fb
open PySem PySem.Spec PyProof.Rows L2 Evl
/-- a dict with tuple keys that is owned; a list that is owned -/
structure DtAt (K : PySem.W.Frag) (G H : Hp) (d : Addr) (kvs : List (List Key × PyData)) : Prop where
  no : G d = none
  ex : ∃ ws, H d = some (.dT ws) ∧ PrD K G ws kvs
structure LsAt (K : PySem.W.Frag) (G H : Hp) (d : Addr) (ys : List PyData) : Prop where
  no : G d = none
  ex : ∃ vs, H d = some (.lst vs) ∧ DpAll K G vs ys
section
variable {K : PySem.W.Frag} {G H G2 H2 : Hp} {d l : Addr} {kvs : List (List Key × PyData)} {ys : List PyData} {os : List Addr} {r r' r'' : Rho}
theorem DtAt.frame (A : DtAt K G H d kvs) (k : Gx os G H G2 H2) (hd : d ∉ os) : DtAt K G2 H2 d kvs := by
  obtain ⟨no, ws, h1, h2⟩ := A
  exact ⟨k.out no (some_nt h1), ws, k.h _ _ hd h1, prd_up k.g h2⟩
theorem DtAt.up (A : DtAt K G H d kvs) (k : Gr G H G2 H2) : DtAt K G2 H2 d kvs := A.frame (os := []) k.x (by simp)
theorem LsAt.frame (A : LsAt K G H d ys) (k : Gx os G H G2 H2) (hd : d ∉ os) : LsAt K G2 H2 d ys := by
  obtain ⟨no, ws, h1, h2⟩ := A
  exact ⟨k.out no (some_nt h1), ws, k.h _ _ hd h1, dpAll_up k.g _ _ h2⟩
theorem LsAt.up (A : LsAt K G H d ys) (k : Gr G H G2 H2) : LsAt K G2 H2 d ys := A.frame (os := []) k.x (by simp)
theorem LsAt.is (A : LsAt K G H d ys) {zs : List PyData} (h : ys = zs) : LsAt K G H d zs := h ▸ A
theorem DtAt.is (A : DtAt K G H d kvs) {zs : List (List Key × PyData)} (h : kvs = zs) : DtAt K G H d zs := h ▸ A
theorem DtAt.ne (A : DtAt K G H d kvs) (B : LsAt K G H l ys) : d ≠ l := fun z => by
  subst z
  obtain ⟨_, ws, h1, _⟩ := A
  obtain ⟨_, vs, h2, _⟩ := B
  rw [h1] at h2
  cases h2
/-- one more thing that is owned may be read -/
theorem Own.more {p : Addr} {i : Nat} {d : Dn} {o : HO} (O : Own K os r r' G H) (hp : G p = none) (hi : r'[i]? = some (some (.v (.ref p)))) (ho : H p = some o) (h1 : ∀ xs, o ≠ .tup xs) (h2 : ∀ z u, o ≠ .frz z u) (hd : ∀ G', Ex G G' → G' p = some o → Den K G' (.ref p) d) : Own K (p :: os) r (r'.set i (some d)) G H := by
  refine ⟨fun a ha => ?_, fun a ha => ?_, fun σ n => ?_⟩
  · rcases List.mem_cons.mp ha with rfl | ha
    · exact hp
    · exact O.no a ha
  · rcases List.mem_cons.mp ha with rfl | ha
    · exact ⟨o, ho, h1, h2⟩
    · exact O.ob a ha
  · have n1 := O.en σ n
    have e : Ex (plus G H os) (plus G H (p :: os)) := fun a u h => by
      by_cases ha : a ∈ os
      · rw [plus_in ha] at h
        rw [plus_in (List.mem_cons_of_mem _ ha)]
        exact h
      · rw [plus_out ha] at h
        by_cases hap : a = p
        · subst hap; rw [hp] at h; cases h
        · rw [plus_out (by simp [hap, ha])]; exact h
    refine (n1.up e).re hi (hd _ (plus_g fun a ha => ?_) (by rw [plus_in (by simp)]; exact ho))
    rcases List.mem_cons.mp ha with rfl | ha
    · exact hp
    · exact O.no a ha
theorem DtAt.more {i : Nat} (A : DtAt K G H d kvs) (O : Own K os r r' G H) (hi : r'[i]? = some (some (.v (.ref d)))) : Own K (d :: os) r (r'.set i (some (.t kvs))) G H := by
  obtain ⟨no, ws, h1, h2⟩ := A
  exact O.more no hi h1 (fun _ z => nomatch z) (fun _ _ z => nomatch z) fun G' e q => ⟨d, ws, rfl, .inl q, prd_up e h2⟩
theorem LsAt.more {i : Nat} (A : LsAt K G H d ys) (O : Own K os r r' G H) (hi : r'[i]? = some (some (.v (.ref d)))) : Own K (d :: os) r (r'.set i (some (.d (.list ys)))) G H := by
  obtain ⟨no, ws, h1, h2⟩ := A
  exact O.more no hi h1 (fun _ z => nomatch z) (fun _ _ z => nomatch z) fun G' e q => Dp.lst (.inl q) (dpAll_up e _ _ h2)
theorem DtAt.own {i : Nat} (A : DtAt K G H d kvs) (hi : r[i]? = some (some (.v (.ref d)))) : Own K [d] r (r.set i (some (.t kvs))) G H := A.more Own.refl hi
theorem LsAt.own {i : Nat} (A : LsAt K G H d ys) (hi : r[i]? = some (some (.v (.ref d)))) : Own K [d] r (r.set i (some (.d (.list ys)))) G H := A.more Own.refl hi
/-- handed back -/
theorem Gr.give {p : Addr} {o : HO} {G0 H0 : Hp} (k : Gr G0 H0 G H) (hp : H0 p = none) (hG : G p = none) (ho : H p = some o) : Gr G0 H0 (L2.upd G p o) H := by
  refine ⟨k.g.trans (Ex.new hG), fun a u h => ?_, k.h, fun a h1 h2 => ?_⟩
  · by_cases ha : a = p
    · subst ha; rw [upd_same] at h; rw [ho]; exact h
    · rw [upd_ne ha] at h; exact k.s a u h
  · by_cases ha : a = p
    · subst ha; exact .of hp
    · rw [upd_ne ha] at h2; exact k.f a h1 h2
theorem DtAt.give {G0 H0 : Hp} (A : DtAt K G H d kvs) (k : Gr G0 H0 G H) (hp : H0 d = none) : ∃ G', Gr G0 H0 G' H ∧ Den K G' (.ref d) (.t kvs) := by
  obtain ⟨no, ws, h1, h2⟩ := A
  exact ⟨_, k.give hp no h1, d, ws, rfl, .inl upd_same, prd_up (Ex.new no) h2⟩
theorem LsAt.give {G0 H0 : Hp} (A : LsAt K G H d ys) (k : Gr G0 H0 G H) (hp : H0 d = none) : ∃ G', Gr G0 H0 G' H ∧ Dp K G' (.ref d) (.list ys) := by
  obtain ⟨no, ws, h1, h2⟩ := A
  exact ⟨_, k.give hp no h1, Dp.lst (.inl upd_same) (dpAll_up (Ex.new no) _ _ h2)⟩
theorem DtAt.new (g : Ex G H) (h : H d = none) : DtAt K G (upd H d (.dT [])) d [] := ⟨fresh_back g h, [], upd_same, .nil⟩
theorem LsAt.new (g : Ex G H) (h : H d = none) : LsAt K G (upd H d (.lst [])) d [] := ⟨fresh_back g h, [], upd_same, .nil⟩
end
section
variable {X : Cx} {a b c e o i : Expr} {es : List Expr} {sts ss rest : List Stmt} {r r' : Rho} {pos p p1 p2 p3 p4 apos cpos : Pos} {D : Ends} {G0 H0 G H : Hp} {W : WX} {Q : V → Hp → Hp → Prop} {os : List Addr} {d : Addr} {kvs : List (List Key × PyData)} {ys : List PyData}
/-- x = {}, x = [] -/
theorem gx_newD (j : Nat) {x : Str} {p' : Pos} (h : ∀ d G1 H1, H0 d = none → Gx [] G0 H0 G1 H1 → DtAt X.K G1 H1 d [] → Go X rest D G1 H1 (r.set j (some (.v (.ref d))))) (hN : X.N.Nodup) (hi : X.N[j]? = some x := by rfl) (hx : Loc X.env.scope x := by first | exact Or.inl rfl | exact Or.inr rfl)
    (hs : swapsWith (.Dict [] [] p) (some (.Name x p')) pos.line X.env = pure false := by rfl) (hf : X.fn x = true ∨ X.env.scope.names.lookup x = some .local := by first | exact .inl rfl | exact .inr rfl) : Go X (.Assign [.Name x p'] (.Dict [] [] p) pos :: rest) D G0 H0 r :=
  gx_set j (fun G H g => fx_newD g.s fun l hl => ⟨.v (.ref l), rfl, h l G _ (fresh_back g.h hl) (g.x.trans (Gx.lay g.s hl)) (DtAt.new g.s hl)⟩) hN hi hx hs hf
theorem gx_newL (j : Nat) {x : Str} {p' : Pos} (h : ∀ d G1 H1, H0 d = none → Gx [] G0 H0 G1 H1 → LsAt X.K G1 H1 d [] → Go X rest D G1 H1 (r.set j (some (.v (.ref d))))) (hN : X.N.Nodup) (hi : X.N[j]? = some x := by rfl) (hx : Loc X.env.scope x := by first | exact Or.inl rfl | exact Or.inr rfl)
    (hs : swapsWith (.List [] p) (some (.Name x p')) pos.line X.env = pure false := by rfl) (hf : X.fn x = true ∨ X.env.scope.names.lookup x = some .local := by first | exact .inl rfl | exact .inr rfl) : Go X (.Assign [.Name x p'] (.List [] p) pos :: rest) D G0 H0 r :=
  gx_set j (fun G H g => fx_newL g.s fun l hl => ⟨.v (.ref l), rfl, h l G _ (fresh_back g.h hl) (g.x.trans (Gx.lay g.s hl)) (LsAt.new g.s hl)⟩) hN hi hx hs hf
/-- d[k] = e -/
theorem gx_putT {k : List Key} {y : PyData} {p' : Pos} (hu : X.A.units + 1 < cLine) (A : DtAt X.K G0 H0 d kvs) (O : ∀ G H, Gr G0 H0 G H → Own X.K os r r' G H) (hv : Pv X e r' (.d y)) (hy : imm y = true) (ho : Pv X o r (.v (.ref d))) (hi : Pv X i r (.d (keyD k))) (hk : kInt k = true) (hl : kvs.length ≤ 100000)
    (h : ∀ G1 H1, Gx [d] G0 H0 G1 H1 → DtAt X.K G1 H1 d (putA kvs k y) → Go X rest D G1 H1 r) (hs : swapsWith e (some (.Subscript o i p')) pos.line X.env = pure false := by rfl) : Go X (.Assign [.Subscript o i p'] e pos :: rest) D G0 H0 r := fun σ G H g n => by
  have O1 := O G H g
  refine wSs_of (pss_cons (ps_dput hu pe_w pe_w pe_w hs) pss_w) (wE_imp (hv σ _ H (plus_s g.s) (O1.en σ n)) fun v H1 ⟨G1', k1', q1'⟩ => ?_)
  have k1 := own_back O1.no k1'
  have q1 := O1.tup k1' hy q1'
  refine wE_imp (ho σ _ H1 k1.s (n.up k1.g)) fun x H2 ⟨G2, k2, q2⟩ => wE_imp (hi σ G2 H2 k2.s ((n.up k1.g).up k2.g)) fun z H3 ⟨G3, k3, q3⟩ => ?_
  obtain rfl : x = .ref d := q2
  obtain ⟨b, rfl, hb⟩ := key_tr hk q3
  have gg := ((g.trans k1).trans k2).trans k3
  obtain ⟨no, ws, h1, h2⟩ := A.up gg
  have hlen := prd_len h2
  refine ⟨d, _, rfl, DPut.t h1 (k3.s _ _ hb) (by rw [hlen, sizeLine_eq]; omega), ?_⟩
  refine h G3 _ (gg.x.trans (Gx.set k3.s (by simp) no)) ⟨no, _, upd_same, prd_put h2 k (dp_up (k2.g.trans k3.g) _ _ q1)⟩ σ G3 _ (Gr.refl (k3.s.mut no)) (((n.up k1.g).up k2.g).up k3.g)
/-- l.append(e) -/
theorem gx_append {y : PyData} (A : LsAt X.K G0 H0 d ys) (O : ∀ G H, Gr G0 H0 G H → Own X.K os r r' G H) (hv : Pv X e r' (.d y)) (hy : imm y = true) (ho : Pv X o r (.v (.ref d))) (hl : ys.length ≤ 100000)
    (h : ∀ G1 H1, Gx [d] G0 H0 G1 H1 → LsAt X.K G1 H1 d (ys ++ [y]) → Go X rest D G1 H1 r)
    (hbase : attributeBase o "append" X.env (eval o X.env) = eval o X.env := by rfl)
    (hfew : ((backTo cpos (starEach [e] X.env)).all (fun x => !x.1) && (backToKw cpos (keywordEach [] X.env)).all (fun x => x.1.isSome) && decide ([e].length + ([] : List Keyword).length + (if ([] : List Keyword).isEmpty then 0 else 1) < 30)) = true := by rfl)
    (hline : (apos.endLine == cpos.line) = true := by rfl) (hs : starEach [e] X.env = (false, eval e X.env) :: starEach [] X.env := by rfl) (hplain : (backTo cpos (starEach [] X.env)).any (·.1) = false := by rfl)
    (hsw : swapsWith (.Call (.Attribute o "append" apos) [e] [] cpos) none pos.line X.env = pure false := by rfl) :
    Go X (.Expr (.Call (.Attribute o "append" apos) [e] [] cpos) pos :: rest) D G0 H0 r :=
  gx_expr (fun G H g => fx_append (fx_pv g.s ho fun v G1 H1 g1 q1 => by
    obtain rfl : v = .ref d := q1
    have A1 := (A.up g).up g1
    obtain ⟨no, vs, h1, h2⟩ := A1
    refine ⟨d, vs, rfl, h1, fx_own g1.s (O G1 H1 (g.trans g1)) hv hy fun yv G2 H2 g2 q2 => ?_⟩
    have no2 := g2.out no (some_nt h1)
    have hlen := DpAll.len h2
    refine ⟨vs, g2.h _ _ h1, by rw [hlen, sizeLine_eq]; omega, no2, h G2 _ (((g.trans g1).trans g2).x.trans (Gx.set g2.s (by simp) no2)) ⟨no2, _, upd_same, DpAll.app (dpAll_up g2.g _ _ h2) (.cons q2 .nil)⟩⟩) hbase hfew hline hs hplain) hsw
/-- x = e, what is owned being read -/
theorem gx_let (j : Nat) {x : Str} {p' : Pos} {y : PyData} (O : ∀ G H, Gr G0 H0 G H → Own X.K os r r' G H) (he : Pv X e r' (.d y)) (hy : imm y = true) (h : ∀ G1 H1, Gr G0 H0 G1 H1 → Go X rest D G1 H1 (r.set j (some (.d y)))) (hN : X.N.Nodup) (hi : X.N[j]? = some x := by rfl) (hx : Loc X.env.scope x := by first | exact Or.inl rfl | exact Or.inr rfl)
    (hs : swapsWith e (some (.Name x p')) pos.line X.env = pure false := by rfl) (hf : X.fn x = true ∨ X.env.scope.names.lookup x = some .local := by first | exact .inl rfl | exact .inr rfl) : Go X (.Assign [.Name x p'] e pos :: rest) D G0 H0 r :=
  gx_set j (fun G H g => fx_own g.s (O G H g) he hy fun v G1 H1 g1 q1 => ⟨.d y, q1, h G1 H1 (g.trans g1)⟩) hN hi hx hs hf
/-- if c: .., what is owned being read -/
theorem gx_test {q : Bool} (O : ∀ G H, Gr G0 H0 G H → Own X.K os r r' G H) (hc : Pt X c r' q) (h1 : q = true → ∀ G1 H1, Gr G0 H0 G1 H1 → Go X ss { D with nx := wSs X rest D } G1 H1 r) (h2 : q = false → ∀ G1 H1, Gr G0 H0 G1 H1 → Go X rest D G1 H1 r) : Go X (.If c ss [] pos :: rest) D G0 H0 r :=
  gx_when fun G H g => ft_own g.s (O G H g) hc fun G1 H1 g1 => ⟨fun z => h1 z G1 H1 (g.trans g1), fun z => h2 z G1 H1 (g.trans g1)⟩
/-- return e, what is owned being read -/
theorem gx_retO {y : PyData} (O : ∀ G H, Gr G0 H0 G H → Own X.K os r r' G H) (he : Pv X e r' (.d y)) (hy : imm y = true) (h : ∀ v G1 H1, Gr G0 H0 G1 H1 → Dp X.K G1 v y → D.rt v H1) : Go X (.Return (some e) pos :: rest) D G0 H0 r :=
  gx_ret fun G H g => fx_own g.s (O G H g) he hy fun v G1 H1 g1 q1 => h v G1 H1 (g.trans g1) q1
/-- the growth so far forgotten -/
theorem Go.at (h : Go X sts D G0 H0 r) {G1 H1 : Hp} (k : Gr G0 H0 G1 H1) : Go X sts D G1 H1 r := fun σ G H g n => h σ G H (k.trans g) n
end
end Fb

/-! FbP: facts, wishes, plans as plain Lean. -/
namespace Fb
open PySem PySem.Spec PyProof.Rows L2 Evl
abbrev Pr := Int × Int
structure Wsh where
  name : Str
  room : Int
  hour : Int
  long : Int
  rank : Int
deriving DecidableEq
inductive Fct where
  | off (b : Pr)
  | pin (b m p : Pr)
  | wish (b m : Pr) (w : Wsh)
deriving DecidableEq
def prD (p : Pr) : PyData := .tuple [.int p.1, .int p.2]
def wshD (w : Wsh) : PyData := .tuple [.str w.name, .int w.room, .int w.hour, .int w.long, .int w.rank]
def Fct.d : Fct → PyData
  | .off b => .tuple [.str "off", prD b]
  | .pin b m p => .tuple [.str "pin", prD b, prD m, prD p]
  | .wish b m w => .tuple [.str "wish", prD b, prD m, wshD w]
def Fct.bk : Fct → Pr
  | .off b => b
  | .pin b _ _ => b
  | .wish b _ _ => b
def kB (b : Pr) : List Key := [.inl b.1, .inl b.2]
theorem keyD_kB (b : Pr) : keyD (kB b) = prD b := rfl
theorem kInt_kB (b : Pr) : kInt (kB b) = true := rfl
theorem kB_inj {a b : Pr} (h : kB a = kB b) : a = b := by
  unfold kB at h
  simp only [List.cons.injEq, Sum.inl.injEq, and_true] at h
  exact Prod.ext h.1 h.2
/-! ### facts that are some -/
structure WshOk (r : Int) (w : Wsh) : Prop where
  name : isName (.str w.name) = true
  room : 0 ≤ w.room ∧ w.room ≤ r - 1
  hour : 0 ≤ w.hour ∧ w.hour ≤ 24 - w.long
  long : 1 ≤ w.long ∧ w.long ≤ 6
  rank : 0 ≤ w.rank ∧ w.rank ≤ 9
def BkgOk (c : Int) (b : Pr) : Prop := 0 ≤ b.1 ∧ b.1 ≤ c - 1 ∧ 0 ≤ b.2 ∧ b.2 ≤ 11
def MomOk (c : Int) (m : Pr) : Prop := 1 ≤ m.1 ∧ m.1 ≤ 9999 ∧ 0 ≤ m.2 ∧ m.2 ≤ c - 1
def FctOk (c r : Int) : Fct → Prop
  | .off b => BkgOk c b
  | .pin b m p => BkgOk c b ∧ MomOk c m ∧ 0 ≤ p.1 ∧ p.1 ≤ r - 1 ∧ 0 ≤ p.2 ∧ p.2 ≤ 23
  | .wish b m w => BkgOk c b ∧ MomOk c m ∧ WshOk r w ∧ m.2 = b.1
theorem within_iff {i lo hi : Int} : within (.int i) lo hi = true ↔ lo ≤ i ∧ i ≤ hi := by
  show (decide (lo ≤ i) && decide (i ≤ hi)) = true ↔ _
  rw [Bool.and_eq_true, decide_eq_true_iff, decide_eq_true_iff]
theorem isBooking_iff {c : Int} {b : Pr} : isBooking c (prD b) = true ↔ BkgOk c b := by
  show (within (.int b.1) 0 (c - 1) && within (.int b.2) 0 11) = true ↔ _
  rw [Bool.and_eq_true, within_iff, within_iff]
  unfold BkgOk
  constructor
  · rintro ⟨⟨a, b⟩, c, d⟩; exact ⟨a, b, c, d⟩
  · rintro ⟨a, b, c, d⟩; exact ⟨⟨a, b⟩, c, d⟩
theorem booking_of {c : Int} {y : PyData} (h : isBooking c y = true) : ∃ b, y = prD b ∧ BkgOk c b := by
  unfold isBooking at h
  split at h
  · rw [Bool.and_eq_true] at h
    obtain ⟨i, rfl, i1, i2⟩ := within_int h.1
    obtain ⟨j, rfl, j1, j2⟩ := within_int h.2
    exact ⟨(i, j), rfl, i1, i2, j1, j2⟩
  · cases h
theorem isWish_iff {r : Int} {w : Wsh} : isWish r (wshD w) = true ↔ WshOk r w := by
  show (isName (.str w.name) && (decide (1 ≤ w.long) && decide (w.long ≤ 6)) && ((within (.int w.room) 0 (r - 1) && within (.int w.hour) 0 (24 - w.long)) && within (.int w.rank) 0 9)) = true ↔ _
  simp only [Bool.and_eq_true, within_iff, decide_eq_true_iff]
  constructor
  · rintro ⟨⟨a, b⟩, ⟨c, d⟩, e⟩; exact ⟨a, c, d, b, e⟩
  · rintro ⟨a, c, d, b, e⟩; exact ⟨⟨a, b⟩, ⟨c, d⟩, e⟩
theorem wish_of {r : Int} {y : PyData} (h : isWish r y = true) : ∃ w, y = wshD w ∧ WshOk r w := by
  have h0 := h
  unfold isWish at h
  split at h
  · rename_i nm room hour long rank
    simp only [Bool.and_eq_true] at h
    obtain ⟨⟨h1, _⟩, h2, h3⟩ := h
    unfold isPlace at h2
    rw [Bool.and_eq_true] at h2
    obtain ⟨i, rfl, _⟩ := within_int h2.1
    obtain ⟨j, rfl, _⟩ := within_int h2.2
    obtain ⟨k, rfl, _⟩ := within_int h3
    unfold isName at h1
    split at h1
    · rename_i z
      exact ⟨⟨z, i, j, long, k⟩, rfl, isWish_iff.mp h0⟩
    · cases h1
  · cases h
theorem isFact_iff {c r : Int} {f : Fct} : isFact c r f.d = true ↔ FctOk c r f := by
  cases f with
  | off b =>
    show (decide (("off" : Str) = "off") && isBooking c (prD b)) = true ↔ _
    rw [decide_eq_true rfl, Bool.true_and]
    exact isBooking_iff
  | pin b m p =>
    show (isBooking c (prD b) && isMoment c (prD m) && (decide (("pin" : Str) = "wish") && (isWish r (prD p) && sameCopy (prD m) (prD b)) || decide (("pin" : Str) = "pin") && isSpot r (prD p))) = true ↔ _
    rw [decide_eq_true (p := ("pin" : Str) = "pin") rfl, decide_eq_false (p := ("pin" : Str) = "wish") (by decide +kernel), Bool.false_and, Bool.false_or, Bool.true_and]
    rw [show isMoment c (prD m) = (within (.int m.1) 1 9999 && within (.int m.2) 0 (c - 1)) from rfl, show isSpot r (prD p) = (within (.int p.1) 0 (r - 1) && within (.int p.2) 0 (24 - 1)) from rfl]
    simp only [Bool.and_eq_true, within_iff, isBooking_iff]
    unfold FctOk MomOk
    constructor
    · rintro ⟨⟨a, ⟨b1, b2⟩, b3, b4⟩, ⟨c1, c2⟩, c3, c4⟩; exact ⟨a, ⟨b1, b2, b3, b4⟩, c1, c2, c3, by omega⟩
    · rintro ⟨a, ⟨b1, b2, b3, b4⟩, c1, c2, c3, c4⟩; exact ⟨⟨a, ⟨b1, b2⟩, b3, b4⟩, ⟨c1, c2⟩, c3, by omega⟩
  | wish b m w =>
    show (isBooking c (prD b) && isMoment c (prD m) && (decide (("wish" : Str) = "wish") && (isWish r (wshD w) && sameCopy (prD m) (prD b)) || decide (("wish" : Str) = "pin") && isSpot r (wshD w))) = true ↔ _
    rw [decide_eq_true (p := ("wish" : Str) = "wish") rfl, decide_eq_false (p := ("wish" : Str) = "pin") (by decide +kernel), Bool.false_and, Bool.or_false, Bool.true_and]
    rw [show isMoment c (prD m) = (within (.int m.1) 1 9999 && within (.int m.2) 0 (c - 1)) from rfl, show sameCopy (prD m) (prD b) = decide (m.2 = b.1) from rfl]
    simp only [Bool.and_eq_true, within_iff, isBooking_iff, isWish_iff, decide_eq_true_iff]
    unfold FctOk MomOk
    constructor
    · rintro ⟨⟨a, ⟨b1, b2⟩, b3, b4⟩, c1, c2⟩; exact ⟨a, ⟨b1, b2, b3, b4⟩, c1, c2⟩
    · rintro ⟨a, ⟨b1, b2, b3, b4⟩, c1, c2⟩; exact ⟨⟨a, ⟨b1, b2⟩, b3, b4⟩, c1, c2⟩
theorem fact_of {c r : Int} {y : PyData} (h : isFact c r y = true) : ∃ f : Fct, y = f.d ∧ FctOk c r f := by
  have h0 := h
  unfold isFact at h
  split at h
  · rw [Bool.and_eq_true, decide_eq_true_iff] at h
    obtain ⟨b, rfl, hb⟩ := booking_of h.2
    rw [h.1]
    exact ⟨.off b, rfl, hb⟩
  · rename_i z q m t
    have h' := h
    rw [Bool.and_eq_true, Bool.and_eq_true] at h
    obtain ⟨⟨h1, h2⟩, h3⟩ := h
    obtain ⟨b, rfl, hb⟩ := booking_of h1
    unfold isMoment at h2
    split at h2
    · rw [Bool.and_eq_true] at h2
      obtain ⟨i, rfl, i1, i2⟩ := within_int h2.1
      obtain ⟨j, rfl, j1, j2⟩ := within_int h2.2
      rw [Bool.or_eq_true, Bool.and_eq_true, Bool.and_eq_true, Bool.and_eq_true, decide_eq_true_iff, decide_eq_true_iff] at h3
      rcases h3 with ⟨rfl, h4, h5⟩ | ⟨rfl, h4⟩
      · obtain ⟨w, rfl, hw⟩ := wish_of h4
        exact ⟨.wish b (i, j) w, rfl, isFact_iff.mp h0⟩
      · unfold isSpot at h4
        split at h4
        · unfold isPlace at h4
          rw [Bool.and_eq_true] at h4
          obtain ⟨k, rfl, _⟩ := within_int h4.1
          obtain ⟨l, rfl, _⟩ := within_int h4.2
          exact ⟨.pin b (i, j) (k, l), rfl, isFact_iff.mp h0⟩
        · cases h4
    · cases h2
  · cases h
theorem facts_of {c r : Int} : ∀ {ys : List PyData}, (∀ y ∈ ys, isFact c r y = true) → ∃ fs : List Fct, ys = fs.map Fct.d ∧ ∀ f ∈ fs, FctOk c r f
  | [], _ => ⟨[], rfl, fun _ h => by cases h⟩
  | y :: ys, h => by
    obtain ⟨f, rfl, hf⟩ := fact_of (h y List.mem_cons_self)
    obtain ⟨fs, rfl, hfs⟩ := facts_of fun z hz => h z (List.mem_cons_of_mem _ hz)
    exact ⟨f :: fs, rfl, fun g hg => by
      rcases List.mem_cons.mp hg with rfl | hg
      · exact hf
      · exact hfs g hg⟩
/-! ### equality of data -/
theorem eqv_pr (a b : Pr) : PyData.eqv (prD a) (prD b) = decide (a = b) := by
  obtain ⟨a1, a2⟩ := a
  obtain ⟨b1, b2⟩ := b
  simp only [prD, PyData.eqv, PyData.eqvAll, Bool.and_true]
  rw [Bool.eq_iff_iff]
  simp [Prod.ext_iff]
theorem eqv_wsh (a b : Wsh) : PyData.eqv (wshD a) (wshD b) = decide (a = b) := by
  obtain ⟨a1, a2, a3, a4, a5⟩ := a
  obtain ⟨b1, b2, b3, b4, b5⟩ := b
  simp only [wshD, PyData.eqv, PyData.eqvAll, Bool.and_true]
  rw [Bool.eq_iff_iff]
  simp [and_assoc]
theorem word_ne : (("off" : Str) == "pin") = false ∧ (("off" : Str) == "wish") = false ∧ (("pin" : Str) == "wish") = false ∧ (("pin" : Str) == "off") = false ∧ (("wish" : Str) == "off") = false ∧ (("wish" : Str) == "pin") = false := by decide +kernel
theorem eqv_fct (f g : Fct) : PyData.eqv f.d g.d = decide (f = g) := by
  obtain ⟨w1, w2, w3, w4, w5, w6⟩ := word_ne
  cases f <;> cases g <;> simp only [Fct.d, PyData.eqv, PyData.eqvAll, w1, w2, w3, w4, w5, w6, Bool.false_and, Bool.and_true] <;> first | (rw [eqv_pr, eqv_pr, eqv_pr, Bool.eq_iff_iff]; simp) | (rw [eqv_pr, eqv_pr, eqv_wsh, Bool.eq_iff_iff]; simp) | (rw [eqv_pr, Bool.eq_iff_iff]; simp) | (symm; exact decide_eq_false (fun z => nomatch z))
theorem any_eqv_fct (g : Fct) (fs : List Fct) : ((fs.map Fct.d).any fun z => PyData.eqv z g.d) = decide (g ∈ fs) := by
  rw [List.any_map, Bool.eq_iff_iff, List.any_eq_true, decide_eq_true_iff]
  constructor
  · rintro ⟨f, hf, h⟩
    simp only [Function.comp, eqv_fct, decide_eq_true_iff] at h
    exact h ▸ hf
  · intro h
    exact ⟨g, h, by simp only [Function.comp, eqv_fct, decide_eq_true_iff]⟩
theorem any_eqv_pr (b : Pr) (l : List Pr) : ((l.map prD).any fun z => PyData.eqv z (prD b)) = decide (b ∈ l) := by
  rw [List.any_map, Bool.eq_iff_iff, List.any_eq_true, decide_eq_true_iff]
  constructor
  · rintro ⟨f, hf, h⟩
    simp only [Function.comp, eqv_pr, decide_eq_true_iff] at h
    exact h ▸ hf
  · intro h
    exact ⟨b, h, by simp only [Function.comp, eqv_pr, decide_eq_true_iff]⟩
/-! ### good data -/
theorem gd_int (i : Int) : Good (.int i) := ⟨rfl, rfl, by simp [PyData.depth]⟩
theorem gd_small {z : Str} (h : z.cps.toList.all (fun c => decide (c ∈ smallTxt.cps.toList)) = true) : Good (.str z) := by
  refine ⟨rfl, ?_, by simp [PyData.depth]⟩
  show PyData.strOk z = true
  have hs : smallTxt.cps.toList.all (fun c => decide (c < 0x110000)) = true := by decide +kernel
  rw [List.all_eq_true] at h hs
  unfold PyData.strOk
  rw [← Array.all_toList, List.all_eq_true]
  intro c hc
  exact hs c (by simpa using h c hc)
theorem good_pr (b : Pr) : Good (prD b) := good_tup (by intro x hx; simp at hx; rcases hx with rfl | rfl <;> exact gd_int _) (by simp [PyData.depthAll, PyData.depth])
theorem dep_pr (b : Pr) : (prD b).depth ≤ 2 := by simp [prD, PyData.depth, PyData.depthAll]
theorem dep_wsh (w : Wsh) : (wshD w).depth ≤ 2 := by simp [wshD, PyData.depth, PyData.depthAll]
theorem gd_name {z : Str} (h : isName (.str z) = true) : Good (.str z) := by
  have h1 : (decide (1 ≤ (z.length : Int)) && decide ((z.length : Int) ≤ 4) && z.cps.toList.all fun c => decide (c ∈ smallTxt.cps.toList)) = true := h
  simp only [Bool.and_eq_true] at h1
  exact gd_small (by simpa using h1.2)
theorem good_wsh {r : Int} {w : Wsh} (h : WshOk r w) : Good (wshD w) := by
  have gz := gd_name h.name
  exact good_tup (by intro x hx; simp at hx; rcases hx with rfl | rfl | rfl | rfl | rfl <;> first | exact gz | exact gd_int _) (by simp [PyData.depthAll, PyData.depth])
theorem gd_word {z : Str} (h : z = "wish" ∨ z = "pin" ∨ z = "off") : Good (.str z) := by
  rcases h with rfl | rfl | rfl <;> exact ⟨rfl, by decide +kernel, by simp [PyData.depth]⟩
theorem dep_fct (f : Fct) : f.d.depth ≤ 4 := by
  cases f <;> simp only [Fct.d, PyData.depth, PyData.depthAll] <;> simp only [prD, wshD, PyData.depth, PyData.depthAll] <;> decide
theorem good_fct {c r : Int} {f : Fct} (h : FctOk c r f) : Good f.d := by
  cases f with
  | off b => exact good_tup (by intro x hx; simp at hx; rcases hx with rfl | rfl; exact gd_word (.inr (.inr rfl)); exact good_pr _) (by simp [PyData.depthAll, PyData.depth, prD])
  | pin b m p => exact good_tup (by intro x hx; simp at hx; rcases hx with rfl | rfl | rfl | rfl; exact gd_word (.inr (.inl rfl)); exact good_pr _; exact good_pr _; exact good_pr _) (by simp [PyData.depthAll, PyData.depth, prD])
  | wish b m w => exact good_tup (by intro x hx; simp at hx; rcases hx with rfl | rfl | rfl | rfl; exact gd_word (.inl rfl); exact good_pr _; exact good_pr _; exact good_wsh h.2.2.1) (by simp [PyData.depthAll, PyData.depth, prD, wshD])
theorem alike_pr (a b : Pr) : PySem.W.alike (prD a) (prD b) = true := by simp [prD, PySem.W.alike, PySem.W.alikeAll]
theorem alike_wsh (a b : Wsh) : PySem.W.alike (wshD a) (wshD b) = true := by simp [wshD, PySem.W.alike, PySem.W.alikeAll]
/-- facts can be sorted -/
theorem sortOk_fct {c r : Int} {fs : List Fct} (h : ∀ f ∈ fs, FctOk c r f) : SortOk (fs.map Fct.d) := by
  have items : ∀ f : Fct, ∃ s x, f.d = .tuple (.str s :: x) := fun f => by cases f <;> exact ⟨_, _, rfl⟩
  refine ⟨fun d hd => ?_, fun d hd => ?_, fun d hd => ?_, fun x r y q hx hy => ?_, fun xs ys hx hy => ?_⟩
  · obtain ⟨f, _, rfl⟩ := List.mem_map.mp hd
    obtain ⟨s, x, e⟩ := items f
    exact ⟨_, _, e⟩
  · obtain ⟨f, hf, rfl⟩ := List.mem_map.mp hd
    exact (good_fct (h f hf)).lay
  · obtain ⟨f, hf, rfl⟩ := List.mem_map.mp hd
    exact (good_fct (h f hf)).dp
  · obtain ⟨f, _, e1⟩ := List.mem_map.mp hx
    obtain ⟨g, _, e2⟩ := List.mem_map.mp hy
    obtain ⟨s, z, e3⟩ := items f
    obtain ⟨t, z', e4⟩ := items g
    rw [e3] at e1
    rw [e4] at e2
    cases e1
    cases e2
    rfl
  · obtain ⟨f, _, e1⟩ := List.mem_map.mp hx
    obtain ⟨g, _, e2⟩ := List.mem_map.mp hy
    obtain ⟨w1, w2, w3, w4, w5, w6⟩ := word_ne
    cases f <;> cases g <;> (cases e1; cases e2; simp [cmpT, PySem.W.alike, PyData.eqv, alike_pr, alike_wsh, w1, w2, w3, w4, w5, w6])
/-- pairs can be sorted -/
theorem sortOk_pr (l : List Pr) : SortOk (l.map prD) := by
  refine ⟨fun d hd => ?_, fun d hd => ?_, fun d hd => ?_, fun x r y q hx hy => ?_, fun xs ys hx hy => ?_⟩
  · obtain ⟨f, _, rfl⟩ := List.mem_map.mp hd
    exact ⟨_, _, rfl⟩
  · obtain ⟨f, hf, rfl⟩ := List.mem_map.mp hd
    exact (good_pr f).lay
  · obtain ⟨f, hf, rfl⟩ := List.mem_map.mp hd
    exact (good_pr f).dp
  · obtain ⟨f, _, e1⟩ := List.mem_map.mp hx
    obtain ⟨g, _, e2⟩ := List.mem_map.mp hy
    cases e1
    cases e2
    rfl
  · obtain ⟨f, _, e1⟩ := List.mem_map.mp hx
    obtain ⟨g, _, e2⟩ := List.mem_map.mp hy
    cases e1
    cases e2
    exact alike_cmpT (by simp [PySem.W.alike, PySem.W.alikeAll])
def ltP2 (a b : Pr) : Bool := decide (a.1 < b.1 ∨ a.1 = b.1 ∧ a.2 < b.2)
def ltFc (f g : Fct) : Bool := ltD f.d g.d
theorem lt_pr (a b : Pr) : ltD (prD a) (prD b) = ltP2 a b := by
  show PyProof.Rows.lexLt itemOrd _ _ = _
  simp only [prD, PySem.W.keyToks, PySem.W.keyToksAll, List.cons_append, List.nil_append]
  rw [show PyProof.Rows.lexLt itemOrd (Sum.inl 1 :: Sum.inl a.1 :: [Sum.inl 1, Sum.inl a.2, Sum.inl 0]) (Sum.inl 1 :: Sum.inl b.1 :: [Sum.inl 1, Sum.inl b.2, Sum.inl 0]) = PyProof.Rows.lexLt itemOrd (Sum.inl a.1 :: [Sum.inl 1, Sum.inl a.2, Sum.inl 0]) (Sum.inl b.1 :: [Sum.inl 1, Sum.inl b.2, Sum.inl 0]) from lex_self (O := itemOrd) _ _ _]
  unfold ltP2
  by_cases h1 : a.1 = b.1
  · rw [h1, lex_self (O := itemOrd), lex_self (O := itemOrd)]
    by_cases h2 : a.2 = b.2
    · rw [h2, lex_irrefl]
      symm
      exact decide_eq_false (by omega)
    · rw [lex_diff (O := itemOrd) (by simpa using h2)]
      show decide (a.2 < b.2) = _
      rw [Bool.eq_iff_iff, decide_eq_true_iff, decide_eq_true_iff]
      omega
  · rw [lex_diff (O := itemOrd) (by simpa using h1)]
    show decide (a.1 < b.1) = _
    rw [Bool.eq_iff_iff, decide_eq_true_iff, decide_eq_true_iff]
    omega
theorem sort_pr (l : List Pr) : sortD (l.map prD) = (isort ltP2 l).map prD := isort_map prD l fun x _ y _ => lt_pr x y
theorem sort_fct (l : List Fct) : sortD (l.map Fct.d) = (isort ltFc l).map Fct.d := isort_map Fct.d l fun x _ y _ => rfl
theorem swo_P2 : SrtO.Swo ltP2 := by
  refine ⟨fun x y h => ?_, fun x y z h1 h2 => ?_⟩
  · unfold ltP2 at h ⊢
    rw [decide_eq_true_iff] at h
    exact decide_eq_false (by omega)
  · unfold ltP2 at h1 h2 ⊢
    rw [decide_eq_false_iff_not] at h1 h2
    exact decide_eq_false (by omega)
theorem swo_Fc : SrtO.Swo ltFc := ⟨fun x y => swo_data.asym _ _, fun x y z => swo_data.tr _ _ _⟩
theorem ltP2_tot {a b : Pr} (h1 : ltP2 a b = false) (h2 : ltP2 b a = false) : a = b := by
  unfold ltP2 at h1 h2
  rw [decide_eq_false_iff_not] at h1 h2
  exact Prod.ext (by omega) (by omega)
end Fb

/-! FbQ: plans as plain Lean: what plans.py computes. -/
namespace Fb
open PySem PySem.Spec PyProof.Rows L2 Evl
section
variable {κ κ' α β : Type} [DecidableEq κ] [DecidableEq κ']
abbrev mapA (f : κ → κ') (g : α → β) (kvs : List (κ × α)) : List (κ' × β) := kvs.map fun e => (f e.1, g e.2)
theorem putA_map {f : κ → κ'} (hf : ∀ a b, f a = f b → a = b) (g : α → β) (kvs : List (κ × α)) (k : κ) (v : α) : putA (mapA f g kvs) (f k) (g v) = mapA f g (putA kvs k v) := by
  have hd : ∀ a b, decide (f a = f b) = decide (a = b) := fun a b => by
    rw [Bool.eq_iff_iff, decide_eq_true_iff, decide_eq_true_iff]
    exact ⟨hf a b, fun h => h ▸ rfl⟩
  unfold putA mapA
  rw [List.any_map]
  have e : ((fun kv : κ' × β => decide (kv.1 = f k)) ∘ fun e : κ × α => (f e.1, g e.2)) = fun kv : κ × α => decide (kv.1 = k) := funext fun kv => hd _ _
  rw [e]
  split
  · rw [List.map_map, List.map_map]
    refine List.map_congr_left fun kv _ => ?_
    simp only [Function.comp]
    by_cases h : kv.1 = k
    · rw [if_pos h, if_pos (by rw [h])]
    · rw [if_neg h, if_neg fun z => h (hf _ _ z)]
  · rw [List.map_append]
    rfl
theorem getA_map {f : κ → κ'} (hf : ∀ a b, f a = f b → a = b) (g : α → β) : ∀ (kvs : List (κ × α)) (k : κ), getA (mapA f g kvs) (f k) = (getA kvs k).map g
  | [], _ => rfl
  | e :: kvs, k => by
    have ih := getA_map hf g kvs k
    unfold getA at ih ⊢
    unfold mapA at ih ⊢
    rw [List.map_cons]
    by_cases h : e.1 = k
    · rw [List.find?_cons_of_pos (by simpa using congrArg f h), List.find?_cons_of_pos (by simpa using h)]
      rfl
    · rw [List.find?_cons_of_neg (by simpa using fun z => h (hf _ _ z)), List.find?_cons_of_neg (by simpa using h)]
      exact ih
theorem mergeA_map {f : κ → κ'} (hf : ∀ a b, f a = f b → a = b) (g : α → β) : ∀ (more kvs : List (κ × α)), mergeA (mapA f g kvs) (mapA f g more) = mapA f g (mergeA kvs more)
  | [], _ => rfl
  | e :: more, kvs => by
    show mergeA (putA (mapA f g kvs) (f e.1) (g e.2)) (mapA f g more) = mapA f g (mergeA (putA kvs e.1 e.2) more)
    rw [putA_map hf g]
    exact mergeA_map hf g more _
theorem getA_put (kvs : List (κ × α)) (k j : κ) (v : α) : getA (putA kvs k v) j = if j = k then some v else getA kvs j := by
  unfold putA
  split
  · rename_i h
    induction kvs with
    | nil => simp at h
    | cons e kvs ih =>
      unfold getA at ih ⊢
      rw [List.map_cons]
      by_cases he : e.1 = k
      · rw [if_pos he]
        by_cases hj : j = k
        · rw [List.find?_cons_of_pos (by simp [he, hj]), if_pos hj]
          rfl
        · rw [List.find?_cons_of_neg (by simp [he]; exact fun z => hj z.symm), List.find?_cons_of_neg (by simp [he]; exact fun z => hj z.symm), if_neg hj]
          by_cases ha : (kvs.any fun kv => decide (kv.1 = k)) = true
          · have := ih ha
            rw [if_neg hj] at this
            exact this
          · have e2 : kvs.map (fun kv => if kv.1 = k then (kv.1, v) else kv) = kvs := by
              have : ∀ kv ∈ kvs, kv.1 ≠ k := fun kv hkv z => ha (List.any_eq_true.mpr ⟨kv, hkv, by simpa using z⟩)
              conv => rhs; rw [← List.map_id kvs]
              exact List.map_congr_left fun kv hkv => if_neg (this kv hkv)
            rw [e2]
      · rw [if_neg he]
        by_cases hj : e.1 = j
        · rw [List.find?_cons_of_pos (by simpa using hj), List.find?_cons_of_pos (by simpa using hj), if_neg fun z => he (hj.trans z)]
        · rw [List.find?_cons_of_neg (by simpa using hj), List.find?_cons_of_neg (by simpa using hj)]
          refine ih ?_
          rw [List.any_cons] at h
          simpa [he] using h
  · rename_i h
    have hn : ∀ kv ∈ kvs, kv.1 ≠ k := fun kv hkv z => h (List.any_eq_true.mpr ⟨kv, hkv, by simpa using z⟩)
    clear h
    induction kvs with
    | nil =>
      unfold getA
      by_cases hj : j = k
      · rw [if_pos hj, List.nil_append, List.find?_cons_of_pos (by simpa using hj.symm)]
        try rfl
      · rw [if_neg hj, List.nil_append, List.find?_cons_of_neg (by simpa using fun z => hj (Eq.symm z))]
        try rfl
    | cons e kvs ih =>
      have ih := ih fun kv hkv => hn kv (List.mem_cons_of_mem _ hkv)
      unfold getA at ih ⊢
      rw [List.cons_append]
      by_cases hj : e.1 = j
      · rw [List.find?_cons_of_pos (by simpa using hj), List.find?_cons_of_pos (by simpa using hj), if_neg fun z => hn e List.mem_cons_self (hj.trans z)]
      · rw [List.find?_cons_of_neg (by simpa using hj), List.find?_cons_of_neg (by simpa using hj)]
        exact ih
theorem getA_mem {kvs : List (κ × α)} {k : κ} {v : α} (h : getA kvs k = some v) : (k, v) ∈ kvs := by
  unfold getA at h
  cases q : kvs.find? fun kv => decide (kv.1 = k) with
  | none => rw [q] at h; cases h
  | some e =>
    rw [q] at h
    cases h
    have h1 := List.find?_some q
    have h2 := List.mem_of_find?_eq_some q
    have h3 : e.1 = k := by simpa using h1
    rw [← h3]
    exact h2
theorem getA_none {kvs : List (κ × α)} {k : κ} : getA kvs k = none ↔ k ∉ kvs.map (·.1) := by
  unfold getA
  rw [Option.map_eq_none_iff, List.find?_eq_none]
  constructor
  · intro h z
    obtain ⟨e, he, rfl⟩ := List.mem_map.mp z
    exact h e he (by simp)
  · intro h e he z
    exact h (List.mem_map.mpr ⟨e, he, by simpa using z⟩)
/-- the keys behind a store -/
theorem putA_keys (kvs : List (κ × α)) (k : κ) (v : α) : (putA kvs k v).map (·.1) = if k ∈ kvs.map (·.1) then kvs.map (·.1) else kvs.map (·.1) ++ [k] := by
  unfold putA
  by_cases h : k ∈ kvs.map (·.1)
  · rw [if_pos h, if_pos (by obtain ⟨e, he, rfl⟩ := List.mem_map.mp h; exact List.any_eq_true.mpr ⟨e, he, by simp⟩), List.map_map]
    refine List.map_congr_left fun e _ => ?_
    simp only [Function.comp]
    split <;> rfl
  · rw [if_neg h, if_neg (by
      intro z
      obtain ⟨e, he, h2⟩ := List.any_eq_true.mp z
      exact h (List.mem_map.mpr ⟨e, he, by simpa using h2⟩)), List.map_append]
    rfl
theorem putA_nodup {kvs : List (κ × α)} (h : (kvs.map (·.1)).Nodup) (k : κ) (v : α) : ((putA kvs k v).map (·.1)).Nodup := by
  rw [putA_keys]
  split
  · exact h
  · rename_i hk
    rw [List.nodup_append]
    exact ⟨h, by simp, fun a ha b hb => by simp at hb; subst hb; exact fun z => hk (z ▸ ha)⟩
theorem mergeA_nodup : ∀ (more : List (κ × α)) {kvs : List (κ × α)}, (kvs.map (·.1)).Nodup → ((mergeA kvs more).map (·.1)).Nodup
  | [], _, h => h
  | e :: more, kvs, h => mergeA_nodup more (putA_nodup h e.1 e.2)
theorem mergeA_mem {P : κ → α → Prop} : ∀ (more : List (κ × α)) {kvs : List (κ × α)}, (∀ e ∈ kvs, P e.1 e.2) → (∀ e ∈ more, P e.1 e.2) → ∀ e ∈ mergeA kvs more, P e.1 e.2
  | [], _, h, _ => h
  | x :: more, kvs, h, hm => mergeA_mem more (kvs := putA kvs x.1 x.2) (fun e he => by
      unfold putA at he
      split at he
      · obtain ⟨y, hy, rfl⟩ := List.mem_map.mp he
        split
        · rename_i hk; dsimp only; rw [hk]; exact hm x List.mem_cons_self
        · exact h y hy
      · rcases List.mem_append.mp he with he | he
        · exact h e he
        · simp at he; subst he; exact hm x List.mem_cons_self) fun e he => hm e (List.mem_cons_of_mem _ he)
theorem putA_mem {P : κ → α → Prop} {kvs : List (κ × α)} {k : κ} {v : α} (h : ∀ e ∈ kvs, P e.1 e.2) (hv : P k v) : ∀ e ∈ putA kvs k v, P e.1 e.2 := mergeA_mem [(k, v)] h (by simpa using hv)
end
/-! ### wishes, pins -/
def offS (fs : List Fct) : List Pr := fs.filterMap fun | .off b => some b | _ => none
def wishE (offs : List Pr) : Fct → Option (Pr × (Pr × Wsh))
  | .wish b m w => if b ∈ offs then none else some (b, (m, w))
  | _ => none
def wishL (fs : List Fct) : List (Pr × (Pr × Wsh)) := fs.filterMap (wishE (offS fs))
def wishesS (fs : List Fct) : List (Pr × (Pr × Wsh)) := mergeA [] (wishL fs)
def mwD (e : Pr × Wsh) : PyData := .tuple [prD e.1, wshD e.2]
abbrev wsT (ws : List (Pr × (Pr × Wsh))) : List (List Key × PyData) := mapA kB mwD ws
def ltPP (x y : Pr × Pr) : Bool := ltP2 x.1 y.1 || (decide (x.1 = y.1) && ltP2 x.2 y.2)
def maxPP (x y : Pr × Pr) : Pr × Pr := if ltPP x y = true then y else x
def pinStep (acc : List (Pr × (Pr × Pr))) : Fct → List (Pr × (Pr × Pr))
  | .pin b m p => putA acc b (maxPP ((getA acc b).getD (m, p)) (m, p))
  | _ => acc
def pinsS (fs : List Fct) : List (Pr × (Pr × Pr)) := fs.foldl pinStep []
def ppD (e : Pr × Pr) : PyData := .tuple [prD e.1, prD e.2]
abbrev psT (ps : List (Pr × (Pr × Pr))) : List (List Key × PyData) := mapA kB ppD ps
/-! ### the order -/
def keyV (k : Str) (m : Pr) (w : Wsh) : Int := if k = "rank" then -w.rank else if k = "first" then m.1 else if k = "short" then w.long else w.hour
def keyI (ks : List Str) (e : Pr × (Pr × Wsh)) : List Int := ks.map (fun k => keyV k e.2.1 e.2.2) ++ [e.2.1.1, e.2.1.2, e.1.1, e.1.2]
def ltI : List Int → List Int → Bool
  | x :: xs, y :: ys => if x = y then ltI xs ys else decide (x < y)
  | [], _ :: _ => true
  | _, [] => false
def keyDt (ks : List Str) (e : Pr × (Pr × Wsh)) : PyData := .tuple (ks.map (fun k => .int (keyV k e.2.1 e.2.2)) ++ [prD e.2.1, prD e.1])
def orderS (ks : List Str) (ws : List (Pr × (Pr × Wsh))) : List Pr := (isort (fun e e' => ltI (keyI ks e) (keyI ks e')) ws).map (·.1)
/-! ### places -/
def isFreeS (tk : List (Pr × Pr)) (room hour long : Int) : Bool := (upto hour long.toNat).all fun a => !(getA tk (room, a)).isSome
def fillS (tk : List (Pr × Pr)) (b : Pr) (room hour long : Int) : List (Pr × Pr) := (upto hour long.toNat).foldl (fun t a => putA t (room, a) b) tk
abbrev tkT (tk : List (Pr × Pr)) : List (List Key × PyData) := mapA kB prD tk
def absZ (i : Int) : Int := if i < 0 then -i else i
def candK (w : Wsh) (c : Pr) : List Int := [if c.1 = w.room then 0 else 1, absZ (c.2 - w.hour), absZ (c.1 - w.room), c.2, c.1]
def candD (w : Wsh) (c : Pr) : PyData := .tuple ((candK w c).map PyData.int)
def candsS (rooms : Int) (tk : List (Pr × Pr)) (w : Wsh) : List Pr := (upto 0 rooms.toNat).flatMap fun o => ((upto 0 (25 - w.long).toNat).filter fun a => isFreeS tk o a w.long).map fun a => (o, a)
def ltC (w : Wsh) (a b : Pr) : Bool := ltI (candK w a) (candK w b)
def nearestS (rooms : Int) (tk : List (Pr × Pr)) (w : Wsh) : Option Pr := match candsS rooms tk w with
  | [] => none
  | c :: cs => some (cs.foldl (fun a y => if ltC w y a = true then y else a) c)
def plD : Option Pr → PyData
  | none => .none
  | some p => prD p
abbrev fdT (fd : List (Pr × Option Pr)) : List (List Key × PyData) := mapA kB plD fd
structure PlSt where
  tk : List (Pr × Pr)
  fd : List (Pr × Option Pr)
def step1 (ws : List (Pr × (Pr × Wsh))) (ps : List (Pr × (Pr × Pr))) (s : PlSt) (b : Pr) : PlSt := match getA ps b, getA ws b with
  | some (_, p), some (_, w) => if decide (p.2 + w.long ≤ 24) && isFreeS s.tk p.1 p.2 w.long then ⟨fillS s.tk b p.1 p.2 w.long, putA s.fd b (some p)⟩ else s
  | _, _ => s
def step2 (rooms : Int) (ws : List (Pr × (Pr × Wsh))) (s : PlSt) (b : Pr) : PlSt := match getA s.fd b, getA ws b with
  | none, some (_, w) => match nearestS rooms s.tk w with
    | none => ⟨s.tk, putA s.fd b none⟩
    | some p => ⟨fillS s.tk b p.1 p.2 w.long, putA s.fd b (some p)⟩
  | _, _ => s
def plan1 (ks : List Str) (fs : List Fct) : PlSt := (orderS ks (wishesS fs)).foldl (step1 (wishesS fs) (pinsS fs)) ⟨[], []⟩
def plan2 (rooms : Int) (ks : List Str) (fs : List Fct) : PlSt := (orderS ks (wishesS fs)).foldl (step2 rooms (wishesS fs)) (plan1 ks fs)
def placedS (rooms : Int) (ks : List Str) (fs : List Fct) : List (Pr × Option Pr) := (plan2 rooms ks fs).fd
/-! ### orders of ints -/
theorem ltI_irr : ∀ xs : List Int, ltI xs xs = false
  | [] => rfl
  | x :: xs => by
    show (if x = x then ltI xs xs else _) = false
    rw [if_pos rfl, ltI_irr xs]
theorem swo_I : SrtO.Swo ltI := by
  refine ⟨fun x y h => asym x y h, fun x y z h1 h2 => tr x y z h1 h2⟩
where
  asym : ∀ x y : List Int, ltI x y = true → ltI y x = false
  | x :: xs, y :: ys, h => by
    have h : (if x = y then ltI xs ys else decide (x < y)) = true := h
    show (if y = x then ltI ys xs else decide (y < x)) = false
    by_cases e : x = y
    · rw [if_pos e] at h
      rw [if_pos e.symm]
      exact asym xs ys h
    · rw [if_neg e, decide_eq_true_iff] at h
      rw [if_neg (fun z => e z.symm)]
      exact decide_eq_false (by omega)
  | [], y :: ys, _ => rfl
  | [], [], h => by cases h
  | x :: xs, [], h => by cases h
  tr : ∀ x y z : List Int, ltI y x = false → ltI z y = false → ltI z x = false
  | x :: xs, y :: ys, z :: zs, h1, h2 => by
    have h1 : (if y = x then ltI ys xs else decide (y < x)) = false := h1
    have h2 : (if z = y then ltI zs ys else decide (z < y)) = false := h2
    show (if z = x then ltI zs xs else decide (z < x)) = false
    by_cases e1 : y = x
    · rw [if_pos e1] at h1
      by_cases e2 : z = y
      · rw [if_pos e2] at h2
        rw [if_pos (e2.trans e1)]
        exact tr xs ys zs h1 h2
      · rw [if_neg e2, decide_eq_false_iff_not] at h2
        rw [if_neg (by omega)]
        exact decide_eq_false (by omega)
    · rw [if_neg e1, decide_eq_false_iff_not] at h1
      by_cases e2 : z = y
      · rw [if_neg (by omega)]
        exact decide_eq_false (by omega)
      · rw [if_neg e2, decide_eq_false_iff_not] at h2
        rw [if_neg (by omega)]
        exact decide_eq_false (by omega)
  | [], [], [], _, _ => rfl
  | [], [], z :: zs, _, _ => rfl
  | [], y :: ys, [], _, h2 => by cases h2
  | [], y :: ys, z :: zs, _, _ => rfl
  | x :: xs, [], _, h1, _ => by cases h1
  | x :: xs, y :: ys, [], _, h2 => by cases h2
theorem ltI_tot : ∀ {x y : List Int}, ltI x y = false → ltI y x = false → x = y
  | [], [], _, _ => rfl
  | [], y :: ys, h, _ => by cases h
  | x :: xs, [], _, h => by cases h
  | x :: xs, y :: ys, h1, h2 => by
    have h1 : (if x = y then ltI xs ys else decide (x < y)) = false := h1
    have h2 : (if y = x then ltI ys xs else decide (y < x)) = false := h2
    by_cases e : x = y
    · rw [if_pos e] at h1
      rw [if_pos e.symm] at h2
      rw [e, ltI_tot h1 h2]
    · rw [if_neg e, decide_eq_false_iff_not] at h1
      rw [if_neg fun z => e z.symm, decide_eq_false_iff_not] at h2
      omega
/-- tokens of ints: the order of tuples of ints is ltI -/
theorem toks_ints : ∀ (xs ys : List Int) (l m : List (Int ⊕ List Nat)), xs.length = ys.length → PyProof.Rows.lexLt itemOrd (xs.flatMap (fun x => [Sum.inl 1, Sum.inl x]) ++ l) (ys.flatMap (fun x => [Sum.inl 1, Sum.inl x]) ++ m) = if xs = ys then PyProof.Rows.lexLt itemOrd l m else ltI xs ys
  | [], [], l, m, _ => by rw [if_pos rfl]; rfl
  | [], y :: ys, _, _, h => by cases h
  | x :: xs, [], _, _, h => by cases h
  | x :: xs, y :: ys, l, m, h => by
    have ih := toks_ints xs ys l m (by simpa using h)
    rw [List.flatMap_cons, List.flatMap_cons]
    show PyProof.Rows.lexLt itemOrd (Sum.inl 1 :: Sum.inl x :: (xs.flatMap _ ++ l)) (Sum.inl 1 :: Sum.inl y :: (ys.flatMap _ ++ m)) = _
    rw [lex_self (O := itemOrd)]
    by_cases e : x = y
    · rw [e, lex_self (O := itemOrd), ih]
      by_cases e2 : xs = ys
      · rw [if_pos e2, if_pos (by rw [e2])]
      · rw [if_neg e2, if_neg (by simpa using e2)]
        show _ = if y = y then ltI xs ys else _
        rw [if_pos rfl]
    · rw [lex_diff (O := itemOrd) (by simpa using e), if_neg (by simp [e])]
      show decide (x < y) = if x = y then _ else _
      rw [if_neg e]
theorem toksAll_ints : ∀ (xs : List Int) (rest : List PyData), PySem.W.keyToksAll (xs.map PyData.int ++ rest) = xs.flatMap (fun x => [Sum.inl 1, Sum.inl x]) ++ PySem.W.keyToksAll rest
  | [], _ => rfl
  | x :: xs, rest => by
    rw [List.map_cons, List.cons_append, PySem.W.toks_all_cons, toksAll_ints xs rest, List.flatMap_cons]
    rfl
theorem lt_ints {xs ys : List Int} (h : xs.length = ys.length) : ltD (.tuple (xs.map PyData.int)) (.tuple (ys.map PyData.int)) = ltI xs ys := by
  show PySem.W.dataLt _ _ = _
  rw [PySem.W.dataLt_tuple]
  have e1 := toksAll_ints xs []
  have e2 := toksAll_ints ys []
  rw [List.append_nil] at e1 e2
  rw [e1, e2, toks_ints xs ys _ _ h]
  split
  · rename_i e
    rw [e, lex_irrefl, ltI_irr]
  · rfl
theorem lt_candD (w : Wsh) (a b : Pr) : ltD (candD w a) (candD w b) = ltC w a b := lt_ints rfl
theorem ltI_app : ∀ (xs ys : List Int) (l m : List Int), xs.length = ys.length → ltI (xs ++ l) (ys ++ m) = if xs = ys then ltI l m else ltI xs ys
  | [], [], l, m, _ => by rw [if_pos rfl]; rfl
  | [], y :: ys, _, _, h => by cases h
  | x :: xs, [], _, _, h => by cases h
  | x :: xs, y :: ys, l, m, h => by
    have ih := ltI_app xs ys l m (by simpa using h)
    show (if x = y then ltI (xs ++ l) (ys ++ m) else decide (x < y)) = if x :: xs = y :: ys then ltI l m else (if x = y then ltI xs ys else decide (x < y))
    by_cases e : x = y
    · rw [if_pos e, if_pos e, ih]
      by_cases e2 : xs = ys
      · rw [if_pos e2, if_pos (by rw [e, e2])]
      · rw [if_neg e2, if_neg (by simp [e2])]
    · rw [if_neg e, if_neg e, if_neg (by simp [e])]
theorem lt_keyD (ks : List Str) (e e' : Pr × (Pr × Wsh)) : ltD (keyDt ks e) (keyDt ks e') = ltI (keyI ks e) (keyI ks e') := by
  show PySem.W.dataLt _ _ = _
  unfold keyDt keyI
  rw [PySem.W.dataLt_tuple]
  have h1 := toksAll_ints (ks.map fun k => keyV k e.2.1 e.2.2) [prD e.2.1, prD e.1]
  have h2 := toksAll_ints (ks.map fun k => keyV k e'.2.1 e'.2.2) [prD e'.2.1, prD e'.1]
  rw [List.map_map] at h1 h2
  rw [show ks.map (fun k => PyData.int (keyV k e.2.1 e.2.2)) = ks.map (PyData.int ∘ fun k => keyV k e.2.1 e.2.2) from rfl, show ks.map (fun k => PyData.int (keyV k e'.2.1 e'.2.2)) = ks.map (PyData.int ∘ fun k => keyV k e'.2.1 e'.2.2) from rfl, h1, h2]
  rw [toks_ints _ _ _ _ (by simp), ltI_app _ _ _ _ (by simp)]
  split
  · simp only [PySem.W.keyToksAll, PySem.W.keyToks, prD, List.cons_append, List.nil_append, List.append_assoc]
    have a : ∀ (x y : Int) (l m : List (Int ⊕ List Nat)), PyProof.Rows.lexLt itemOrd (Sum.inl x :: l) (Sum.inl y :: m) = if x = y then PyProof.Rows.lexLt itemOrd l m else decide (x < y) := fun x y l m => by
      by_cases e : x = y
      · rw [e, if_pos rfl, lex_self (O := itemOrd)]
      · rw [if_neg e, lex_diff (O := itemOrd) (by simpa using e)]
        rfl
    rw [a, a, a, a, a, a, a, a, a, a, a, a, a]
    simp only [if_pos, lex_irrefl]
    rfl
  · rfl
end Fb

/-! FbR: t[::-1], t a tuple. -/
namespace HT
open PySem PyProof.Rows
open PySem.SeqAt
open PySem.AutoSeq1 (wpAny_loadPart')
open PySem.MeetsSeq PySem.MeetsSeq2 PySem.MeetsSeq3
section
variable {prog : Program} {w : World} {A : Around} {E : Value → Shared → Prop} {s : Shared}
theorem places_rev (n : Nat) : Builtin.Slice.slicePlaces ((n : Int) - 1) (-1) (-1) = n := by
  unfold Builtin.Slice.slicePlaces
  rw [if_neg (by decide), show (- (-1 : Int)) = 1 from rfl, Int.ediv_one]
  split <;> omega
theorem sliceApplied_rev {sl : Addr} {vl vu vs : Value} {n : Nat} {Q : Int × Int × Nat → Shared → Prop} (hs : s.heap.IsSliceOf sl vl vu vs) (pl : IsPart vl none) (pu : IsPart vu none) (ps : IsPart vs (some (-1)))
    (h : Q ((n : Int) - 1, -1, n) s) : wpAny (model prog w) A (Builtin.Slice.sliceApplied (.ref sl) (pure (n : Int))) Q E s := by
  obtain ⟨os, hos, hcs, hds⟩ := id hs
  unfold Builtin.Slice.sliceApplied Builtin.Slice.sliceFields
  refine wpAny_bind (wpAny_bind (wpAny_field hos hds (x := vl) rfl (wpAny_bind (wpAny_field hos hds (x := vu) rfl (wpAny_bind (wpAny_field hos hds (x := vs) rfl (wpAny_pure ?_)))))))
  refine wpAny_bind (slicePart_ ps ?_)
  show wpAny _ _ (if ((-1 : Int) == 0) = true then _ else _) _ _ s
  rw [if_neg (by decide)]
  refine wpAny_bind (slicePart_ pl (wpAny_bind (slicePart_ pu (wpAny_bind (wpAny_pure ?_)))))
  show wpAny _ _ (pure ((n : Int) - 1, (-1 : Int), Builtin.Slice.slicePlaces ((n : Int) - 1) (-1) (-1))) _ _ s
  rw [places_rev]
  exact wpAny_pure h
theorem pick_rev (xs : Array Value) : ((List.range xs.size).filterMap fun (m : Nat) => xs[(((xs.size : Int) - 1) + (m : Int) * (-1)).toNat]?).toArray = xs.toList.reverse.toArray := by
  have e : ((List.range xs.size).filterMap fun (m : Nat) => xs[(((xs.size : Int) - 1) + (m : Int) * (-1)).toNat]?) = ((List.range xs.size).map fun k => xs.size - 1 - k).filterMap fun x => xs[x]? := by
    rw [List.filterMap_map]
    congr 1
    funext m
    show _ = xs[xs.size - 1 - m]?
    have : (((xs.size : Int) - 1) + (m : Int) * (-1)).toNat = xs.size - 1 - m := by omega
    rw [this]
  rw [e, PySem.W.krv_range, List.filterMap_reverse, PySem.W.krv_all]
theorem getItem_tuple_rev {t sl : Addr} {items : Array Value} {vl vu vs : Value} {Q : Value → Shared → Prop} (ht : IsTup s.heap t items) (hs : s.heap.IsSliceOf sl vl vu vs) (pl : IsPart vl none) (pu : IsPart vu none) (ps : IsPart vs (some (-1)))
    (h : Q (.ref s.heap.objs.size) { s with heap := s.heap.push { cls := .type "tuple", data := .seq items.toList.reverse.toArray } })
    (hsz : items.size ≤ sizeLine) : wpAny (model prog w) A (getItem (.ref t) (.ref sl)) Q E s := by
  have htake : sizeOk (.seq items.toList.reverse.toArray) := by
    show items.toList.reverse.toArray.size ≤ sizeLine
    rw [List.size_toArray, List.length_reverse, Array.length_toList]
    exact hsz
  obtain ⟨os, hos, hcs, hds⟩ := id hs
  have hTs : s.TypeIs (.ref sl) "slice" := ⟨os, hos, hcs⟩
  unfold getItem
  try with_reducible refine wpAny_holding ?_
  first | refine wpAny_bind (wpAny_pure ?_) | skip
  refine wpAny_bind (wpAny_sequenceKey ht.typeIs (by decide) ?_)
  refine wpAny_bind (wpAny_callSpecial?_slot (name := Str.ofString "__getitem__") ht.typeIs PyProof.Rows.slot_tuple_getitem
    (wpAny_call_entry PyProof.Rows.slot_tuple_getitem ht.typeIs entry_tuple_getitem ?_ (args_tuple_getitem _ _)))
  show wpAny _ _ (Builtin.Tuple.tupleItemsOf (.ref t) >>= _) _ _ s
  refine wpAny_bind (tupleItemsOf_ ht ?_)
  refine wpAny_bind (wpAny_typeOf hTs ?_)
  rw [if_pos (by decide)]
  refine wpAny_bind (sliceApplied_rev hs pl pu ps ?_)
  show wpAny _ _ (if ((((items.size : Int) - 1) == 0 && (-1 : Int) == 1 && items.size == items.size) = true) then _ else _) _ _ s
  rw [if_neg (by
    intro q
    rw [Bool.and_eq_true, Bool.and_eq_true] at q
    exact absurd q.1.2 (by decide)), pick_rev]
  first
    | exact wpAny_bind (m := Builtin.Tuple.tupleExact _) (wpAny_newObj_type (wpAny_pure ⟨_, rfl, wpAny_pure h⟩) htake)
    | exact wpAny_bind (m := Builtin.Tuple.tupleExact _) (wpAny_newObj_type (wpAny_bind (wpAny_pure (wpAny_pure ⟨_, rfl, wpAny_pure h⟩))) htake)
    | exact wpAny_bind (wpAny_bind (m := Builtin.Tuple.tupleExact _) (wpAny_newObj_type (wpAny_pure (wpAny_pure ⟨_, rfl, wpAny_pure h⟩)) htake))
    | exact wpAny_bind (wpAny_bind (m := Builtin.Tuple.tupleExact _) (wpAny_newObj_type (wpAny_pure ⟨_, rfl, wpAny_pure h⟩) htake))
end
end HT
namespace L2
open PySem PySem.Spec PyProof.Rows
section
variable {X : Cx}
def tRevT (K : PySem.W.Frag) (te : TE) : TE := fun σ H Q => te σ H fun x H1 => ∃ a xs, x = .ref a ∧ SqT K H1 a xs ∧ ∀ p, H1 p = none → Q (.ref p) (upd H1 p (.tup xs.reverse))
theorem pe_revT {e : Expr} {te : TE} {k : Nat} {p1 p2 p3 pos : Pos} (he : PE X e te) : PE X (.Subscript e (.Slice none none (some (.UnaryOp .USub (.Constant (.int 1) k p1) p2)) p3) pos) (tRevT X.K te) := by
  refine ⟨fun pins s σ H Q I h => ?_⟩
  refine Subscript_ (thn (he.run pins s σ H _ I h) fun v s1 ⟨x, H1, I1, r1, q1⟩ => ?_)
  obtain ⟨a, xs, ex, hx, q⟩ := q1
  subst ex
  cases r1
  have hst : PO X (some (.UnaryOp .USub (.Constant (.int 1) k p1) p2)) (tPart (tUn (rU fun i => .int (-i)) (tC (.int 1)))) := po_some (pe_un un_neg pe_int)
  refine wpAny_Slice (thn (po_none.run pins s1 σ H1 (fun o H2 => o = none ∧ H2 = H1) I1 ⟨rfl, rfl⟩) fun vl s2 ⟨l, H2, I2, pl, el, e2⟩ => ?_)
  subst el e2
  refine thn (po_none.run pins s2 σ H2 (fun o H3 => o = none ∧ H3 = H2) I2 ⟨rfl, rfl⟩) fun vu s3 ⟨u, H3, I3, pu, eu, e3⟩ => ?_
  subst eu e3
  refine thn (hst.run pins s3 σ H3 (fun o H4 => o = some (-1) ∧ H4 = H3) I3 ⟨1, rfl, -1, rfl, rfl, rfl⟩) fun vs s4 ⟨o, H4, I4, ps, eo, e4⟩ => ?_
  subst eo e4
  have I5 : Inv X pins σ H4 { s4 with heap := s4.heap.push { cls := .type "slice", data := .fields #[vl, vu, vs] } } := I4.kept (t' := s4.toks) fun b ob q => Heap.get?_push_of_some _ q
  obtain ⟨its, r, ht, hz⟩ := I5.tuple hx
  have hlen := r.length
  show wpAny (model X.prog X.w) X.A (subscriptTail e (.Slice none none (some (.UnaryOp .USub (.Constant (.int 1) k p1) p2)) p3) (.ref a) (.ref s4.heap.objs.size)) (EP X pins σ Q) X.xe { s4 with heap := s4.heap.push { cls := .type "slice", data := .fields #[vl, vu, vs] } }
  refine tail_any (ops := [.ref a, .ref s4.heap.objs.size]) ht.typeIs (PyProof.Rows.slot_tuple_getitem.lookup) ?_ (by with_unfolding_all rfl)
  refine HT.getItem_tuple_rev ht (Heap.IsSliceOf.new _ vl vu vs) pl pu ps ?_ (by rw [List.size_toArray]; omega)
  refine ⟨.ref _, _, I5.laid (t' := s4.toks) (o := .tup xs.reverse) (fun b ob q => Heap.get?_push_of_some _ q) (Nat.le_refl _) ?_, rfl, q _ (I5.hok.fresh (Nat.le_refl _))⟩
  exact ⟨by rw [List.length_reverse]; exact hz, _, r.reverse, IsTup.new _ _⟩
end
end L2
namespace Fb
open PySem PySem.Spec PyProof.Rows L2 Evl
theorem DpAll.rev {K : PySem.W.Frag} {H : Hp} : ∀ {vs : List V} {ds : List PyData}, DpAll K H vs ds → DpAll K H vs.reverse ds.reverse
  | _, _, .nil => .nil
  | _, _, .cons h1 h2 => by
    rw [List.reverse_cons, List.reverse_cons]
    exact DpAll.app (DpAll.rev h2) (.cons h1 .nil)
theorem pv_revT {X : Cx} {a : Expr} {r : Rho} {ds : List PyData} {k : Nat} {p1 p2 p3 pos : Pos} (ha : Pv X a r (.d (.tuple ds))) : Pv X (.Subscript a (.Slice none none (some (.UnaryOp .USub (.Constant (.int 1) k p1) p2)) p3) pos) r (.d (.tuple ds.reverse)) := fun σ G H g n =>
  wE_of (pe_revT pe_w) (wE_imp (ha σ G H g n) fun x H1 ⟨G1, k1, q1⟩ => by
    cases q1 with
    | tup h1 h2 => exact ⟨_, _, rfl, ex_t k1.s h1.sq, fun p hp => ⟨_, k1.trans (Gr.new k1.s hp), Dp.tup (.inl upd_same) (dpAll_up (Ex.new (fresh_back k1.s hp)) _ _ (DpAll.rev h2))⟩⟩)
end Fb

/-! FbW: tests with changes in them, methods of what was just made, lists to be owned, lists of objects, two copies. -/
namespace Fb
open PySem PySem.Spec PyProof.Rows L2 Evl
section
variable {X : Cx} {a b c e o : Expr} {es : List Expr} {sts ss rest : List Stmt} {r r' : Rho} {pos p p1 p2 p3 p4 apos : Pos} {D : Ends} {G0 H0 G H : Hp} {W : WX} {Q : V → Hp → Hp → Prop} {T : Bool → Hp → Hp → Prop} {os : List Addr} {d : Addr} {ys : List PyData}
def Fw (X : Cx) (e : Expr) (r : Rho) (G H : Hp) (Q : Bool → Hp → Hp → Prop) : Prop := ∀ σ, En X.K G σ r → wW X e σ H fun v H2 => ∃ G2, Ex G G2 ∧ Ex G2 H2 ∧ Q v G2 H2
theorem Fw.ft (h : Fw X e r G H T) : Ft X e r G H T := fun σ n => fun pins s I => h σ n _ pins s I
theorem fw_or1 (h : Ft X a r G H T) : Fw X (.BoolOp .Or [a] pos) r G H T := fun σ n => wW_of (L2.pw_or1 pt_w) (h σ n)
theorem fw_or (h : Ft X a r G H fun x G1 H1 => (x = false → Fw X (.BoolOp .Or (b :: es) pos) r G1 H1 T) ∧ (x = true → T true G1 H1)) : Fw X (.BoolOp .Or (a :: b :: es) pos) r G H T := fun σ n =>
  wW_of (L2.pw_or pt_w pw_w) (wT_imp (h σ n) fun x H1 ⟨G1, e1, s1, k1, k2⟩ => by
    cases x with
    | false => exact wW_imp (k1 rfl σ (n.up e1)) fun v H2 ⟨G2, e2, s2, q2⟩ => ⟨G2, e1.trans e2, s2, q2⟩
    | true => exact ⟨G1, e1, s1, k2 rfl⟩)
theorem fx_one {op} (h : Fx X a r G H Q) : Fx X (.BoolOp op [a] pos) r G H Q := fun σ n => wE_of (pe_one pe_w) (h σ n)
theorem fx_andC (h : Fx X a r G H fun x G1 H1 => ∃ q : Bool, x = .bl q ∧ (q = true → Fx X (.BoolOp .And (b :: es) pos) r G1 H1 Q) ∧ (q = false → Q (.bl false) G1 H1)) : Fx X (.BoolOp .And (a :: b :: es) pos) r G H Q := fun σ n =>
  wE_of (pe_and pe_w pe_w) (wE_imp (h σ n) fun x H1 ⟨G1, e1, s1, q, hx, kt, kf⟩ => ⟨q, hx, by
    cases q with
    | true => exact wE_imp (kt rfl σ (n.up e1)) fun y H2 ⟨G2, e2, s2, k2⟩ => ⟨G2, e1.trans e2, s2, k2⟩
    | false => exact ⟨G1, e1, s1, kf rfl⟩⟩)
theorem ft_ne (h : Fx X a r G H fun x G1 H1 => Fx X b r G1 H1 fun y G2 H2 => scal x y = true ∧ T (!decide (x = y)) G2 H2) : Ft X (.Compare a [.NotEq] [b] pos) r G H T := fun σ n =>
  wT_of (pt_cmpR op_ne pe_w pe_w (nomark _)) (wE_imp (h σ n) fun x H1 ⟨G1, e1, s1, k1⟩ => wE_imp (k1 σ (n.up e1)) fun y H2 ⟨G2, e2, s2, k2, k3⟩ => ⟨k2, _, rfl, G2, e1.trans e2, s2, k3⟩)
/-- o.m(e, ..), o being made just now -/
theorem fx_methX {C : Addr} {m : Str} {k j : Nat} {sp : Sp} {pl : Sem Bool} (F : Fm X.prog X.w X.K X.mg X.base k C m sp) (hc : Cls X.K C) (hr : Room j X.A) (tk : Takes X W)
    (h : Fx X o r G H fun x G1 H1 => ∃ q dx fs, x = .ref q ∧ H1 q = some (.ins C dx fs) ∧ fs.lookup m = none ∧ Fa X (e :: es) r G1 H1 fun vs G2 H2 => sp (.ref q :: vs) H2 (fun v H3 => ∃ G3, Ex G2 G3 ∧ Ex G3 H3 ∧ Q v G3 H3) (Wx X W G2 r)) (hk : k ≤ j := by decide)
    (hst : starEach (e :: es) X.env = (false, eval e X.env) :: starEach es X.env := by rfl) (hpl : (backTo pos (starEach es X.env)).any (·.1) = false := by rfl)
    (ht : eval (.Call (.Attribute o m apos) (e :: es) [] pos) X.env = (do
        let z ← eval o X.env
        standAt apos.atName
        let (u, first) ← holding [z] (getMethod z m pl)
        callWith pos u first (backTo pos (starEach (e :: es) X.env)) (backToKw pos (keywordEach [] X.env))) := by rfl) : Fx X (.Call (.Attribute o m apos) (e :: es) [] pos) r G H Q := fun σ n pins s I => by
  obtain ⟨f, fd, ps, F, hm, hb⟩ := F.ex
  refine PySem.W.methodCall_KW (pl := pl) (thn (h σ n pins s I) fun u s1 ⟨x, H1, I1, rx, G1, e1, s1', q, dx, fs, hx, h1, h2, h3⟩ => ?_) ht
  subst hx
  obtain rfl : u = Value.ref q := rx
  refine getmeth_ok I1 h1 hc hm h2 ?_
  refine PySem.W.callWith_K (first := [.ref q]) (h₀ := X.base) I.ok.mod.kin hm.kp (thn (h3 σ (n.up e1) pos pins s1 I1) fun us s2 ⟨vs, H2, I2, rv, G2, e2, s2', k2⟩ => ⟨I2.kIn, ?_⟩) hst hpl
  exact thn (run_fnS (us := .ref q :: us) (vs := .ref q :: vs) (E := fun _ => Wx X W G2 r) F (hr.mono hk) hb (pass_w tk ((n.up e1).up e2)) I2 (.cons rfl rv) k2) fun u s3 ⟨v, H3, I3, rv3, G3, e3, s3', k3⟩ => ⟨v, H3, I3, rv3, G3, (e1.trans e2).trans e3, s3', k3⟩
/-- xs + ys, a list to be owned -/
theorem fx_catL {xs ys : List PyData} (g : Ex G H) (ha : Pv X a r (.d (.list xs))) (hb : Pv X b r (.d (.list ys))) (hl : xs.length + ys.length ≤ 100000) (k : ∀ l G2 H2, Gx [] G H G2 H2 → H l = none → (∀ q, H q ≠ none → q ≠ l) → LsAt X.K G2 H2 l (xs ++ ys) → Q (.ref l) G2 H2) : Fx X (.BinOp a .Add b pos) r G H Q := fun σ n =>
  wE_of (pe_op op_catR pe_w pe_w) (wE_imp (ha σ G H g n) fun x H1 ⟨G1, k1, q1⟩ => wE_imp (hb σ G1 H1 k1.s (n.up k1.g)) fun y H2 ⟨G2, k2, q2⟩ => by
    have q1' : Dp X.K G2 x (.list xs) := Den.up (d := .d (.list xs)) k2.g q1
    cases q1' with
    | lst s1 t1 =>
      cases q2 with
      | lst s2 t2 =>
        have l1 := DpAll.len t1
        have l2 := DpAll.len t2
        refine ⟨_, _, _, _, rfl, rfl, ex_rd k2.s s1, ex_rd k2.s s2, sz_of (by omega), fun p hp => ⟨G2, k1.g.trans k2.g, k2.s.trans (Ex.new hp), ?_⟩⟩
        have kk := k1.trans k2
        have hp0 : H p = none := fresh_back kk.h hp
        exact k p G2 _ (kk.x.trans (Gx.lay k2.s hp)) hp0 (fun q hq z => hq (by rw [z]; exact hp0)) ⟨fresh_back k2.s hp, _, upd_same, DpAll.app t1 t2⟩)
/-- what was owned is owned no more -/
theorem gx_give {i : Nat} (A : LsAt X.K G0 H0 d ys) (hi : r[i]? = some (some (.v (.ref d)))) (h : ∀ G1, (∀ a, a ≠ d → G1 a = G0 a) → Ex G0 G1 → Ex G1 H0 → Go X rest D G1 H0 (r.set i (some (.d (.list ys))))) (g0 : Ex G0 H0) : Go X rest D G0 H0 r := fun σ G H g n => by
  obtain ⟨no, vs, h1, h2⟩ := A
  have hd := g.h _ _ h1
  have gd : G d = none := g.out no (some_nt h1)
  have up : ∀ {A B : Hp}, Ex A B → B d = some (.lst vs) → Ex (upd A d (.lst vs)) B := fun {A B} e z a u q => by
    by_cases ha : a = d
    · subst ha; rw [upd_same] at q; rw [z]; exact q
    · rw [upd_ne ha] at q; exact e a u q
  refine h (upd G0 d (.lst vs)) (fun a ha => upd_ne ha) (Ex.new no) (up g0 h1) σ (upd G d (.lst vs)) H ⟨up (g.g.trans (Ex.new gd)) upd_same, up g.s hd, g.h, fun a z1 z2 => ?_⟩ ((n.up (Ex.new gd)).re hi (Dp.lst (.inl upd_same) (dpAll_up (g.g.trans (Ex.new gd)) _ _ h2)))
  have ha : a ≠ d := fun z => by subst z; rw [upd_same] at z1; cases z1
  rw [upd_ne ha] at z1 z2
  exact g.f a z1 z2
end
section
variable {K : PySem.W.Frag} {C C' p l sd p' l' sd' : Addr} {G H G2 H2 : Hp} {b b' b2 : Bk} {os : List Addr} {r r' : Rho} {d : Addr}
theorem CopyAt.nn (A : CopyAt K C G H p l sd b) : H p ≠ none ∧ H l ≠ none ∧ H sd ≠ none := by
  obtain ⟨_, _, _, dx, wv, fvs, svs, h1, h2, h3, h4, h5, h6⟩ := A
  exact ⟨some_ne h1, some_ne h3, some_ne h5⟩
theorem CopyAt.past {G1 : Hp} (A : CopyAt K C G H p l sd b) (e : Ex G G1) (h : ∀ a, a ≠ d → G1 a = G a) (n1 : p ≠ d) (n2 : l ≠ d) (n3 : sd ≠ d) : CopyAt K C G1 H p l sd b := by
  obtain ⟨gp, gl, gs, dx, wv, fvs, svs, h1, h2, h3, h4, h5, h6⟩ := A
  exact ⟨by rw [h _ n1]; exact gp, by rw [h _ n2]; exact gl, by rw [h _ n3]; exact gs, dx, wv, fvs, svs, h1, dp_up e _ _ h2, h3, dpAll_up e _ _ h4, h5, L2.Paired.mapP h6 fun _ _ z => ⟨z.1, dp_up e _ _ z.2⟩⟩
theorem plus_mono {os os' : List Addr} (s : ∀ a, a ∈ os → a ∈ os') (h : ∀ a, a ∈ os' → G a = none) : Ex (plus G H os) (plus G H os') := fun a u z => by
  by_cases ha : a ∈ os
  · rw [plus_in ha] at z; rw [plus_in (s a ha)]; exact z
  · rw [plus_out ha] at z
    by_cases hb : a ∈ os'
    · rw [h a hb] at z; cases z
    · rw [plus_out hb]; exact z
theorem CopyAt.more {i : Nat} (A : CopyAt K C G H p l sd b) (O : Own K os r r' G H) (hi : r'[i]? = some (some (.v (.ref p)))) : Own K (p :: l :: sd :: os) r (r'.set i (some (.ob p C b.fs))) G H := by
  have hO := A.ob
  have O1 := A.own (r := [some (.v (.ref p))]) (i := 0) rfl
  have no : ∀ a, a ∈ p :: l :: sd :: os → G a = none := fun a ha => by
    simp only [List.mem_cons] at ha
    rcases ha with rfl | rfl | rfl | ha
    · exact A.gp
    · exact A.gl
    · exact A.gs
    · exact O.no a ha
  refine ⟨no, fun a ha => ?_, fun σ n => ?_⟩
  · simp only [List.mem_cons] at ha
    rcases ha with rfl | rfl | rfl | ha
    · exact O1.ob _ (by simp)
    · exact O1.ob _ (by simp)
    · exact O1.ob _ (by simp)
    · exact O.ob a ha
  · exact ((O.en σ n).up (plus_mono (fun a ha => by simp [ha]) no)).re hi (hO.up (plus_mono (fun a ha => by simp only [List.mem_cons, List.not_mem_nil, or_false] at ha; rcases ha with rfl | rfl | rfl <;> simp) no))
/-- two copies, apart from one another -/
structure TwoAt (K : PySem.W.Frag) (C : Addr) (G H : Hp) (p l sd : Addr) (b : Bk) (p' l' sd' : Addr) (b' : Bk) : Prop where
  a : CopyAt K C G H p l sd b
  c : CopyAt K C G H p' l' sd' b'
  np : p ≠ p'
  nl : l ≠ l'
  ns : sd ≠ sd'
theorem CopyAt.apart (A : CopyAt K C G H p l sd b) (B : CopyAt K C G H p' l' sd' b') : p ≠ l' ∧ p ≠ sd' ∧ l ≠ p' ∧ l ≠ sd' ∧ sd ≠ p' ∧ sd ≠ l' := by
  obtain ⟨_, _, _, dx, wv, fvs, svs, h1, h2, h3, h4, h5, h6⟩ := A
  obtain ⟨_, _, _, dx', wv', fvs', svs', j1, j2, j3, j4, j5, j6⟩ := B
  refine ⟨?_, ?_, ?_, ?_, ?_, ?_⟩
  · rintro rfl; rw [h1] at j3; cases j3
  · rintro rfl; rw [h1] at j5; cases j5
  · rintro rfl; rw [h3] at j1; cases j1
  · rintro rfl; rw [h3] at j5; cases j5
  · rintro rfl; rw [h5] at j1; cases j1
  · rintro rfl; rw [h5] at j3; cases j3
theorem TwoAt.up (t : TwoAt K C G H p l sd b p' l' sd' b') (k : Gr G H G2 H2) : TwoAt K C G2 H2 p l sd b p' l' sd' b' := ⟨t.a.up k, t.c.up k, t.np, t.nl, t.ns⟩
theorem TwoAt.swap (t : TwoAt K C G H p l sd b p' l' sd' b') : TwoAt K C G H p' l' sd' b' p l sd b := ⟨t.c, t.a, t.np.symm, t.nl.symm, t.ns.symm⟩
theorem TwoAt.left {sd2 : Addr} (t : TwoAt K C G H p l sd b p' l' sd' b') (k : Gx [p, l, sd] G H G2 H2) (hs : sd2 = sd ∨ H sd2 = none) (A : CopyAt K C G2 H2 p l sd2 b2) : TwoAt K C G2 H2 p l sd2 b2 p' l' sd' b' := by
  obtain ⟨n1, n2, n3, n4, n5, n6⟩ := t.a.apart t.c
  refine ⟨A, t.c.frame k (by simp [t.np.symm, n3.symm, n5.symm]) (by simp [n1.symm, t.nl.symm, n6.symm]) (by simp [n2.symm, n4.symm, t.ns.symm]), t.np, t.nl, ?_⟩
  rcases hs with rfl | hs
  · exact t.ns
  · rintro rfl; exact t.c.nn.2.2 hs
theorem TwoAt.right {sd2 : Addr} (t : TwoAt K C G H p l sd b p' l' sd' b') (k : Gx [p', l', sd'] G H G2 H2) (hs : sd2 = sd' ∨ H sd2 = none) (A : CopyAt K C G2 H2 p' l' sd2 b2) : TwoAt K C G2 H2 p l sd b p' l' sd2 b2 := (t.swap.left k hs A).swap
theorem TwoAt.past {G1 : Hp} (t : TwoAt K C G H p l sd b p' l' sd' b') (e : Ex G G1) (h : ∀ a, a ≠ d → G1 a = G a) (n1 : p ≠ d) (n2 : l ≠ d) (n3 : sd ≠ d) (n4 : p' ≠ d) (n5 : l' ≠ d) (n6 : sd' ≠ d) : TwoAt K C G1 H p l sd b p' l' sd' b' := ⟨t.a.past e h n1 n2 n3, t.c.past e h n4 n5 n6, t.np, t.nl, t.ns⟩
theorem TwoAt.own {i j : Nat} (t : TwoAt K C G H p l sd b p' l' sd' b') (hi : r[i]? = some (some (.v (.ref p)))) (hj : (r.set i (some (.ob p C b.fs)))[j]? = some (some (.v (.ref p')))) : Own K (p' :: l' :: sd' :: [p, l, sd]) r ((r.set i (some (.ob p C b.fs))).set j (some (.ob p' C b'.fs))) G H := t.c.more (t.a.own hi) hj
end
/-! ### lists of objects -/
section
variable {X : Cx} {a b c e o : Expr} {es : List Expr} {r r' : Rho} {pos : Pos} {l : List (Addr × Addr × List (Str × Fd))}
abbrev obD (o : Addr × Addr × List (Str × Fd)) : Dn := .ob o.1 o.2.1 o.2.2
theorem dens_ob {K : PySem.W.Frag} {G : Hp} : ∀ {l : List (Addr × Addr × List (Str × Fd))} {vs : List V}, Dens K G vs (l.map obD) → vs = l.map (fun o => V.ref o.1) ∧ ∀ o, o ∈ l → ∃ dx ws, G o.1 = some (.ins o.2.1 dx ws) ∧ Paired (fun (p : Str × V) (q : Str × Fd) => p.1 = q.1 ∧ DenF K G p.2 q.2) ws o.2.2
  | [], _, .nil => ⟨rfl, fun _ h => absurd h (by simp)⟩
  | o :: l, _, .cons h1 h2 => by
    obtain ⟨dx, ws, rfl, h3, h4⟩ := h1
    obtain ⟨rfl, h5⟩ := dens_ob (l := l) h2
    exact ⟨rfl, fun o' ho => by
      rcases List.mem_cons.mp ho with rfl | ho
      · exact ⟨dx, ws, h3, h4⟩
      · exact h5 o' ho⟩
theorem pv_objs (h : Pa X es r (l.map obD)) (hl : l.length ≤ 100000 := by simp) : Pv X (.List es pos) r (.os l) := fun σ G H g n =>
  wE_of (pe_lst pa_w) (wA_imp (h σ G H g n) fun vs H1 ⟨G1, k1, q1⟩ => by
    obtain ⟨rfl, h2⟩ := dens_ob q1
    refine ⟨sz_of (by rw [List.length_map]; omega), fun p hp => ⟨_, k1.trans (Gr.new k1.s hp), p, rfl, .inl upd_same, fun o ho => ?_⟩⟩
    obtain ⟨dx, ws, h3, h4⟩ := h2 o ho
    have e1 := Ex.new (o := HO.lst (l.map fun o => V.ref o.1)) (fresh_back k1.s hp)
    exact ⟨dx, ws, e1 _ _ h3, L2.Paired.mapP h4 fun _ _ z => ⟨z.1, DenF.up e1 z.2⟩⟩)
theorem wk_os {tg : Expr} (h : Pv X e r (.os l)) : Wk X tg e r (l.map obD) := ⟨_, pi_list pe_w, fun σ G H g n R k => wE_imp (h σ G H g n) fun v H1 ⟨G1, k1, q1⟩ => by
  obtain ⟨p, rfl, h1, h2⟩ := q1
  refine ⟨p, rfl, ⟨_, .inl (ex_rd k1.s h1)⟩, k _ G1 H1 k1 (fun i H2 e2 hi => ?_) (fun i G2 H2 x H3 e2 s2 y d hd => ?_) (fun i H2 e2 hi => ⟨_, .inl (ex_rd e2 h1), by simpa using hi⟩)⟩
  · have hi' : i < (l.map fun o => V.ref o.1).length := by simpa using hi
    exact ⟨_, _, .inl (ex_rd e2 h1), List.getElem?_eq_getElem hi'⟩
  · obtain ⟨rfl, y⟩ := y
    have hx := y _ (.inl (ex_rd (e2.trans s2) h1))
    rw [List.getElem?_map] at hx hd
    cases ho : l[i]? with
    | none => rw [ho] at hx; cases hx
    | some o =>
      rw [ho] at hx hd
      cases hx
      cases hd
      obtain ⟨dx, ws, h3, h4⟩ := h2 o (List.mem_of_getElem? ho)
      exact ⟨G2, Gr.refl s2, dx, ws, rfl, e2 _ _ h3, L2.Paired.mapP h4 fun _ _ z => ⟨z.1, DenF.up e2 z.2⟩⟩⟩
theorem atI_map {α β : Type} {l : List α} {i : Int} {x : α} (f : α → β) (h : atI l i = some x) : atI (l.map f) i = some (f x) ∧ x ∈ l := by
  unfold atI at h ⊢
  rw [List.length_map]
  cases q : ixN l.length i with
  | none => rw [q] at h; cases h
  | some j =>
    rw [q] at h
    have h' : l[j]? = some x := h
    exact ⟨by show (l.map f)[j]? = _; rw [List.getElem?_map, h']; rfl, List.mem_of_getElem? h'⟩
theorem pv_ixO {i : Int} {ob : Addr × Addr × List (Str × Fd)} (ha : Pv X a r (.os l)) (hb : Pv X b r (.d (.int i))) (hi : atI l i = some ob) (hs : PlainIx b := by exact fun _ _ => rfl) : Pv X (.Subscript a b pos) r (obD ob) := fun σ G H g n =>
  wE_of (pe_ix ix_seq pe_w pe_w hs) (wE_imp (ha σ G H g n) fun x H1 ⟨G1, k1, q1⟩ => wE_imp (hb σ G1 H1 k1.s (n.up k1.g)) fun u H2 ⟨G2, k2, q2⟩ => by
    obtain ⟨p, rfl, h1, h2⟩ := Den.up (d := .os l) k2.g q1
    obtain ⟨dx, ws, h3, h4⟩ := h2 ob (atI_map (fun o => o) hi).2
    exact .inl ⟨_, _, i, .ref ob.1, rfl, den_int q2, .inl (ex_rd k2.s h1), (atI_map (fun o : Addr × Addr × List (Str × Fd) => V.ref o.1) hi).1, G2, k1.trans k2, dx, ws, rfl, h3, h4⟩)
end
end Fb

/-! Ra: a small language, the mirror of the subset of Python that is used here, and its evaluator: what a def computes, as a plain Lean function. -/
namespace Fb
open PySem L2 Evl
/-- what a value is: a datum; the lasting object n, the passing object n; lists and tuples that hold objects; dicts that stay; the script -/
inductive A where
  | d (x : PyData)
  | ref (n : Nat)
  | loc (n : Nat)
  | lst (xs : List A)
  | tup (xs : List A)
  | dT (kvs : List (List Key × PyData))
  | dK (kvs : List (Str × A))
  | sc (ns : List Int)
/-- objects that change -/
inductive Ob where
  | lst (ds : List PyData)
  | dT (kvs : List (List Key × PyData))
  | dK (kvs : List (Str × A))
  | ins (fs : List (Str × A))
/-- the lasting objects, the passing ones -/
structure Sto where
  P : List Ob
  S : List Ob
inductive Res (β : Type) where
  | ok (x : β) (s : Sto)
  | er (c : Str) (s : Sto)
  | no
def Res.bind {β γ : Type} : Res β → (β → Sto → Res γ) → Res γ
  | .ok x s, k => k x s
  | .er c s, _ => .er c s
  | .no, _ => .no
def Res.of {β : Type} (o : Option β) (s : Sto) : Res β := match o with
  | some x => .ok x s
  | none => .no
abbrev Rh := List (Option A)
/-- the defs and constants that may be called -/
structure Tab where
  fn : Str → List A → Sto → Res A
  mak : List A → Sto → Res A
  gl : Str → Option A
  kd : Str → Str → Option Int

/-! ### the language -/
inductive Bop where
  | add | sub | mul | fdiv | mod | pow
inductive Cop where
  | eq | ne | lt | le | gt | ge | in_ | nin | is_ | isn
inductive Ty where
  | int | bool | str | tuple | list
/-- built-ins of one argument -/
inductive B1 where
  | len | abs | int | list | tuple | dict | sorted | max | min | sum | str | lenSet | sortSet
inductive B2 where
  | max | min | join | split | count | index
inductive Tg where
  | one (i : Nat)
  | many (is : List Nat)
mutual
inductive E where
  | slot (i : Nat)
  | lit (x : PyData)
  | glob (x : Str)
  | tup (es : Es)
  | list (m : Nat) (es : Es)
  | dnil (m : Nat)
  | dict (m : Nat) (ks : List Str) (es : Es)
  | bin (o : Bop) (a b : E)
  | cat (m : Nat) (a b : E)
  | rep (m : Nat) (es : Es) (b : E)
  | cmp (o : Cop) (a b : E)
  | chain (o p : Cop) (a b c : E)
  | le3 (a b c d : E)
  | and_ (a b : E)
  | or_ (a b : E)
  | not_ (a : E)
  | neg (a : E)
  | ife (c a b : E)
  | ix (a b : E)
  | slF (a lo : E)
  | slT (a hi : E)
  | slB (a lo hi : E)
  | rev (a : E)
  | attr (o : E) (f : Str)
  | call (f : Str) (es : Es)
  | make (es : Es)
  | meth (o : E) (m : Str) (es : Es)
  | b1 (f : B1) (m : Nat) (a : E)
  | b2 (f : B2) (a b : E)
  | isi (a : E) (t : Ty)
  | get (o k d : E)
  | kget (x : Str) (k d : E)
  | lc (m : Nat) (own : List Nat) (elt : E) (tg : Tg) (it : I) (c : E)
  | lcK (m : Nat) (own : List Nat) (elt : E) (tg : Tg) (i : Nat) (c : E)
inductive Es where
  | nil
  | cons (e : E) (es : Es)
inductive I where
  | seq (e : E)
  | rng1 (e : E)
  | rng2 (a b : E)
  | enum (e : E)
  | zip (a b : E)
end
mutual
inductive S where
  | ex (e : E)
  | app (o e : E)
  | ext (o e : E)
  | set (i : Nat) (e : E)
  | unp (tg : Tg) (e : E)
  | par (i j : Nat) (a b : E)
  | sat (o : E) (f : Str) (e : E)
  | aat (o : E) (f : Str) (e : E)
  | six (o k e : E)
  | aix (o k e : E)
  | aug (i : Nat) (e : E)
  | ret (e : E)
  | ite (c : E) (a b : Ss)
  | for_ (tg : Tg) (it : I) (b : Ss)
  | forK (tg : Tg) (i : Nat) (b : Ss)
  | whl (n : Nat) (c : E) (b : Ss)
  | raise (c : Str)
  | try_ (b : Ss) (hs : Hs)
  | pass
inductive Ss where
  | nil
  | cons (s : S) (ss : Ss)
inductive Hs where
  | nil
  | cons (c : Str) (b : Ss) (hs : Hs)
end

/-! ### reading -/
def rdO (a : A) : Ob → A
  | .lst ds => .d (.list ds)
  | .dT kvs => .dT kvs
  | .dK kvs => .dK kvs
  | .ins _ => a
/-- what is read there -/
def rd (s : Sto) : A → A
  | .ref n => match s.P[n]? with
    | some o => rdO (.ref n) o
    | none => .ref n
  | .loc n => match s.S[n]? with
    | some o => rdO (.loc n) o
    | none => .loc n
  | a => a
def toD : A → Option PyData
  | .d x => some x
  | _ => none
def allD : List A → Option (List PyData)
  | [] => some []
  | .d x :: r => (allD r).map (x :: ·)
  | _ :: _ => none
def noLoc : A → Bool
  | .loc _ => false
  | _ => true
def mkL (xs : List A) : Option A := match allD xs with
  | some ds => some (.d (.list ds))
  | none => if xs.all noLoc then some (.lst xs) else none
def mkT (xs : List A) : Option A := if xs.length ≤ 100000 then match allD xs with
  | some ds => some (.d (.tuple ds))
  | none => if xs.all noLoc then some (.tup xs) else none else none
/-- a list as it is made: 0 stays, 1 passing, 2 lasting -/
def newL (m : Nat) (xs : List A) (s : Sto) : Res A := if xs.length ≤ 100000 then match m with
  | 0 => Res.of (mkL xs) s
  | 1 => match allD xs with
    | some ds => .ok (.loc s.S.length) ⟨s.P, s.S ++ [.lst ds]⟩
    | none => .no
  | _ => match allD xs with
    | some ds => .ok (.ref s.P.length) ⟨s.P ++ [.lst ds], s.S⟩
    | none => .no else .no
def newT (m : Nat) (kvs : List (List Key × PyData)) (s : Sto) : Res A := match m with
  | 0 => .ok (.dT kvs) s
  | 1 => .ok (.loc s.S.length) ⟨s.P, s.S ++ [.dT kvs]⟩
  | _ => .ok (.ref s.P.length) ⟨s.P ++ [.dT kvs], s.S⟩
def newK (m : Nat) (kvs : List (Str × A)) (s : Sto) : Res A := if kvs.all (fun p => noLoc p.2) then match m with
  | 0 => .ok (.dK kvs) s
  | 1 => .ok (.loc s.S.length) ⟨s.P, s.S ++ [.dK kvs]⟩
  | _ => .ok (.ref s.P.length) ⟨s.P ++ [.dK kvs], s.S⟩ else .no

/-! ### truth, operators -/
def truA (s : Sto) (a : A) : Option Bool := match rd s a with
  | .d (.str y) => if y.length ≤ 100000 then some (truD (.str y)) else none
  | .d (.dict _) => none
  | .d x => some (truD x)
  | .lst xs => some (!xs.isEmpty)
  | .tup xs => some (!xs.isEmpty)
  | _ => none
def intOp (o : Bop) (i j : Int) : Option PyData := match o with
  | .add => some (.int (i + j))
  | .sub => some (.int (i - j))
  | .mul => if -(2 ^ 64) < j ∧ j < 2 ^ 64 then some (.int (i * j)) else if -(2 ^ 64) < i ∧ i < 2 ^ 64 then some (.int (i * j)) else none
  | .fdiv => if 0 < j ∧ j < 1073741824 then some (.int (i / j)) else none
  | .mod => if 0 < j then some (.int (i % j)) else none
  | .pow => if 0 ≤ j ∧ j ≤ 1000000 ∧ i.natAbs < 2 ^ 64 then some (.int (i ^ j.toNat)) else none
def binD (o : Bop) : PyData → PyData → Option PyData
  | .int i, .int j => intOp o i j
  | .list xs, .list ys => match o with
    | .add => if xs.length + ys.length ≤ 100000 then some (.list (xs ++ ys)) else none
    | _ => none
  | .tuple xs, .tuple ys => match o with
    | .add => if xs.length + ys.length ≤ 100000 then some (.tuple (xs ++ ys)) else none
    | _ => none
  | .str x, .str y => match o with
    | .add => if x.length + y.length ≤ 100000 then some (.str (x ++ y)) else none
    | _ => none
  | _, _ => none
def binA (s : Sto) (o : Bop) (x y : A) : Option A := match rd s x, rd s y with
  | .d a, .d b => (binD o a b).map .d
  | _, _ => none
def keyK : PyData → Option Key
  | .int i => some (.inl i)
  | .str x => some (.inr x)
  | _ => none
def keyL : List PyData → Option (List Key)
  | [] => some []
  | x :: r => match keyK x, keyL r with
    | some k, some l => some (k :: l)
    | _, _ => none
/-- a key of a dict: a tuple of ints and texts, an int first -/
def keyA : A → Option (List Key)
  | .d (.tuple (.int i :: r)) => (keyL r).map (Sum.inl i :: ·)
  | _ => none
def eqD : PyData → PyData → Option Bool
  | .int i, .int j => some (decide (i = j))
  | .str x, .str y => some (decide (x = y))
  | .bool x, .bool y => some (decide (x = y))
  | x, y => if SeqAt.shaped x = true ∧ SeqAt.shaped y = true then some (PyData.eqv x y) else none
def eqA (s : Sto) (x y : A) : Option Bool := match rd s x, rd s y with
  | .d a, .d b => eqD a b
  | _, _ => none
/-- can be compared -/
def ltOk (x y : PyData) : Bool := PySem.W.alike x y && decide (x.depth ≤ 8)
def alikeOk (ds : List PyData) : Bool := ds.all (fun x => ds.all fun y => PySem.W.alike x y) && ds.all (fun x => !isNoneD x) && decide (PyData.depthAll ds ≤ 8) && PyData.canLayAll0 ds
def ltA (s : Sto) (x y : A) : Option Bool := match rd s x, rd s y with
  | .d (.int i), .d (.int j) => some (decide (i < j))
  | .d (.tuple xs), .d (.tuple ys) => if ltOk (.tuple xs) (.tuple ys) = true then some (ltD (.tuple xs) (.tuple ys)) else none
  | _, _ => none
def inA (s : Sto) (x y : A) : Option Bool := match rd s y with
  | .d (.list ys) => match rd s x with
    | .d a => if SeqAt.shaped a = true ∧ SeqAt.shaped (.list ys) = true then some (ys.any fun z => PyData.eqv z a) else none
    | _ => none
  | .d (.tuple ys) => match rd s x with
    | .d (.str a) => match strsOf ys with
      | some ss => some (ss.contains a)
      | none => none
    | .d a => if SeqAt.shaped a = true ∧ SeqAt.shaped (.tuple ys) = true then some (ys.any fun z => PyData.eqv z a) else none
    | _ => none
  | .d (.str z) => match rd s x with
    | .d (.str a) => match a.cps.toList with
      | [c] => some (decide (c ∈ z.cps.toList))
      | _ => none
    | _ => none
  | .dT kvs => match keyA x with
    | some k => some (getA kvs k).isSome
    | none => none
  | _ => none
def isA (s : Sto) (x y : A) : Option Bool := match rd s x, rd s y with
  | .d a, .d .none => some (isNoneD a)
  | .d (.bool i), .d (.bool j) => some (decide (i = j))
  | _, _ => none
def cmpA (s : Sto) (o : Cop) (x y : A) : Option Bool := match o with
  | .eq => eqA s x y
  | .ne => (eqA s x y).map (! ·)
  | .lt => ltA s x y
  | .gt => match rd s x, rd s y with
    | .d (.int i), .d (.int j) => some (decide (j < i))
    | _, _ => none
  | .le => match rd s x, rd s y with
    | .d (.int i), .d (.int j) => some (decide (i ≤ j))
    | _, _ => none
  | .ge => match rd s x, rd s y with
    | .d (.int i), .d (.int j) => some (decide (j ≤ i))
    | _, _ => none
  | .in_ => inA s x y
  | .nin => (inA s x y).map (! ·)
  | .is_ => isA s x y
  | .isn => (isA s x y).map (! ·)
/-! ### items -/
def ixA (s : Sto) (x y : A) : Option A := match rd s x with
  | .d (.list ds) => match y with
    | .d (.int i) => (atI ds i).map .d
    | _ => none
  | .d (.tuple ds) => match y with
    | .d (.int i) => (atI ds i).map .d
    | _ => none
  | .d (.str z) => match y with
    | .d (.int i) => if z.length ≤ 100000 then (atI z.cps.toList i).map fun c => .d (.str ⟨#[c]⟩) else none
    | _ => none
  | .lst xs => match y with
    | .d (.int i) => atI xs i
    | _ => none
  | .tup xs => match y with
    | .d (.int i) => atI xs i
    | _ => none
  | .sc ns => match y with
    | .d (.int i) => (atI ns i).map fun j => .d (.int j)
    | _ => none
  | .dT kvs => match keyA y with
    | some k => (getA kvs k).map .d
    | none => none
  | .dK kvs => match y with
    | .d (.str k) => kvs.lookup k
    | _ => none
  | _ => none
def numO : A → Option Int
  | .d (.int i) => some i
  | _ => none
def slA (s : Sto) (x : A) (lo hi : Option Int) : Option A := match rd s x with
  | .d (.list ds) => some (.d (.list (cutD ds lo hi)))
  | .d (.tuple ds) => some (.d (.tuple (cutD ds lo hi)))
  | _ => none
def revA (s : Sto) (x : A) : Option A := match rd s x with
  | .d (.tuple ds) => some (.d (.tuple ds.reverse))
  | _ => none
def attrA (s : Sto) (x : A) (f : Str) : Option A := match x with
  | .ref n => match s.P[n]? with
    | some (.ins fs) => fs.lookup f
    | _ => none
  | _ => none
/-! ### built-ins -/
def lenA (s : Sto) (x : A) : Option Nat := match rd s x with
  | .d (.str y) => if y.length ≤ 100000 then some y.length else none
  | .d x => lenD x
  | .lst xs => some xs.length
  | .tup xs => some xs.length
  | .sc ns => some ns.length
  | _ => none
def itemsD : PyData → Option (List PyData)
  | .list ds => some ds
  | .tuple ds => some ds
  | _ => none
/-- items that a for walks -/
def itemsA (s : Sto) (x : A) : Option (List A) := match rd s x with
  | .d (.list ds) => some (ds.map .d)
  | .d (.tuple ds) => some (ds.map .d)
  | .d (.str z) => some (z.cps.toList.map fun c => .d (.str ⟨#[c]⟩))
  | .lst xs => some xs
  | _ => none
/-- the keys of pairs -/
def pairsD : List PyData → Option (List (List Key × PyData))
  | [] => some []
  | .tuple [k, v] :: r => match keyA (.d k), pairsD r with
    | some k, some l => some ((k, v) :: l)
    | _, _ => none
  | _ :: _ => none
def sortOkB (ds : List PyData) : Bool :=
  ds.all (fun d => match d with
    | .tuple (_ :: _) => true
    | _ => false) && ds.all (fun d => d.canLay0) && ds.all (fun d => decide (d.depth ≤ 8)) &&
  ds.all (fun d => ds.all fun e => match d, e with
    | .tuple (x :: _), .tuple (y :: _) => decide (PySem.W.dataType x = PySem.W.dataType y)
    | _, _ => true) &&
  ds.all (fun d => ds.all fun e => match d, e with
    | .tuple xs, .tuple ys => cmpT xs ys
    | _, _ => true)
def intsOf : List PyData → Option (List Int)
  | [] => some []
  | .int i :: r => (intsOf r).map (i :: ·)
  | _ :: _ => none
def dedup (ds : List PyData) : List PyData := ds.foldl (fun acc x => if acc.any (fun z => PyData.eqv z x) then acc else acc ++ [x]) []
def b1A (f : B1) (m : Nat) (s : Sto) (x : A) : Res A := match f with
  | .len => Res.of ((lenA s x).map fun n => .d (.int n)) s
  | .abs => match x with
    | .d (.int i) => .ok (.d (.int (if i < 0 then -i else i))) s
    | _ => .no
  | .int => match x with
    | .d (.bool b) => .ok (.d (.int (if b then 1 else 0))) s
    | .d (.str y) => match PySem.intText? y with
      | some n => if y.length ≤ 640 then .ok (.d (.int n)) s else .no
      | none => .no
    | _ => .no
  | .str => match x with
    | .d (.int i) => if i.natAbs.log2 < 1920 then .ok (.d (.str (toString i))) s else .no
    | _ => .no
  | .list => match rd s x with
    | .d (.list ds) => newL m (ds.map .d) s
    | .d (.tuple ds) => newL m (ds.map .d) s
    | .dT kvs => newL m (kvs.map fun q => .d (keyD q.1)) s
    | _ => .no
  | .tuple => match rd s x with
    | .d (.list ds) => .ok (.d (.tuple ds)) s
    | .d (.tuple ds) => .ok (.d (.tuple ds)) s
    | _ => .no
  | .dict => match rd s x with
    | .d (.list ds) => match pairsD ds with
      | some kvs => if kvs.length ≤ 100000 then newT m (mergeA [] kvs) s else .no
      | none => .no
    | _ => .no
  | .sorted => match rd s x with
    | .d (.list ds) => if sortOkB ds = true then newL m ((sortD ds).map .d) s else .no
    | .dT kvs => if sortOkB (kvs.map fun q => keyD q.1) = true then newL m ((sortD (kvs.map fun q => keyD q.1)).map .d) s else .no
    | _ => .no
  | .max => match rd s x with
    | .d (.list (d :: ds)) => if alikeOk (d :: ds) = true then .ok (.d (PySem.W.maxD d ds)) s else .no
    | _ => .no
  | .min => match rd s x with
    | .d (.list (d :: ds)) => if alikeOk (d :: ds) = true then .ok (.d (PySem.W.minD d ds)) s else .no
    | _ => .no
  | .sum => match rd s x with
    | .d (.list ds) => match intsOf ds with
      | some is => .ok (.d (.int is.sum)) s
      | none => .no
    | _ => .no
  | .lenSet => match rd s x with
    | .d (.tuple ds) => match strsOf ds with
      | some ss => if ss.length ≤ 1000 then .ok (.d (.int (dcn ss))) s else .no
      | none => .no
    | _ => .no
  | .sortSet => match rd s x with
    | .d (.list ds) => if sortOkB ds = true then newL m ((sortD (dedup ds)).map .d) s else .no
    | _ => .no
def b2Pre (f : B2) (s : Sto) (x : A) : Bool := match f with
  | .max => true
  | .min => true
  | .join => match x with
    | .d (.str _) => true
    | _ => false
  | .split => match x with
    | .d (.str _) => true
    | _ => false
  | _ => match rd s x with
    | .d (.list _) => true
    | _ => false
def b2A (f : B2) (s : Sto) (x y : A) : Option A := match f with
  | .max => match x, y with
    | .d (.int i), .d (.int j) => some (.d (.int (if j > i then j else i)))
    | .d (.tuple xs), .d (.tuple ys) => if alikeOk [.tuple xs, .tuple ys] = true then some (.d (PySem.W.maxD (.tuple xs) [.tuple ys])) else none
    | _, _ => none
  | .min => match x, y with
    | .d (.int i), .d (.int j) => some (.d (.int (if j < i then j else i)))
    | _, _ => none
  | .join => match rd s x, rd s y with
    | .d (.str z), .d (.list ds) => match strsOf ds with
      | some ss => if (ss.map (·.length)).sum + ss.length * z.length ≤ 16777216 then some (.d (.str (Txt.join z ss))) else none
      | none => none
    | _, _ => none
  | _ => none
def tyIs : Ty → PyData → Bool
  | .int, x => isInt x
  | .bool, x => isBool x
  | .str, x => isStr x
  | .tuple, x => isTup x
  | .list, x => isList x
def getDf (s : Sto) (o k d : A) : Option A := match rd s o with
  | .dT kvs => match keyA k with
    | some k => match getA kvs k with
      | some y => some (.d y)
      | none => some d
    | none => none
  | _ => none
/-! ### targets -/
def setMany : List Nat → List A → Rh → Option Rh
  | [], [], r => some r
  | i :: is, x :: xs, r => setMany is xs (r.set i (some x))
  | _, _, _ => none
def setTg : Tg → A → Rh → Option Rh
  | .one i, a, r => some (r.set i (some a))
  | .many is, .d (.tuple ds), r => setMany is (ds.map .d) r
  | .many is, .tup xs, r => setMany is xs r
  | _, _, _ => none
def wipeA (r : Rh) : List Nat → Rh
  | [] => r
  | v :: vs => (wipeA r vs).set v none
mutual
def PyData.same : PyData → PyData → Bool
  | .none, .none => true
  | .bool a, .bool b => a == b
  | .int a, .int b => a == b
  | .str a, .str b => a == b
  | .list a, .list b => PyData.sameL a b
  | .tuple a, .tuple b => PyData.sameL a b
  | _, _ => false
def PyData.sameL : List PyData → List PyData → Bool
  | [], [] => true
  | x :: xs, y :: ys => PyData.same x y && PyData.sameL xs ys
  | _, _ => false
end
/-- what is walked stands as it did: lists of data alone -/
def sameOb : Option Ob → Option Ob → Bool
  | some (.lst xs), some (.lst ys) => PyData.sameL xs ys
  | _, _ => false
def stays (x : A) (s s' : Sto) : Bool := match x with
  | .ref n => sameOb s.P[n]? s'.P[n]?
  | .loc n => sameOb s.S[n]? s'.S[n]?
  | _ => true
/-- items in turn: each kept or not -/
def lcGo (own : List Nat) (tg : Tg) (w : List A) (fc fe : Rh → Sto → Res A) (r : Rh) (s0 : Sto) : List A → List A → Sto → Res (List A)
  | [], acc, s => .ok acc s
  | x :: xs, acc, s => match setTg tg x (wipeA r own) with
    | none => .no
    | some r1 => match fc r1 s with
      | .ok c s1 => match truA s1 c with
        | none => .no
        | some false => if w.all (fun a => stays a s0 s1) then lcGo own tg w fc fe r s0 xs acc s1 else .no
        | some true => match fe r1 s1 with
          | .ok y s2 => if w.all (fun a => stays a s0 s2) && noLoc y then lcGo own tg w fc fe r s0 xs (acc ++ [y]) s2 else .no
          | _ => .no
      | _ => .no
def zipT : List A → List A → Option (List A)
  | x :: xs, y :: ys => match mkT [x, y], zipT xs ys with
    | some p, some ps => some (p :: ps)
    | _, _ => none
  | _, _ => some []
def rngOk (i j : Int) : Bool := decide (-(2 ^ 62) ≤ i) && decide (i < 2 ^ 62) && decide (-(2 ^ 62) ≤ j) && decide (j < 2 ^ 62)
mutual
def ev (T : Tab) : E → Rh → Sto → Res A
  | .slot i, r, s => match r[i]? with
    | some (some a) => .ok a s
    | _ => .no
  | .lit x, _, s => .ok (.d x) s
  | .glob x, _, s => Res.of (T.gl x) s
  | .tup es, r, s => (evs T es r s).bind fun xs s => Res.of (mkT xs) s
  | .list m es, r, s => (evs T es r s).bind fun xs s => newL m xs s
  | .dnil m, _, s => newT m [] s
  | .dict m ks es, r, s => (evs T es r s).bind fun xs s => if ks.length = xs.length ∧ ks.Nodup ∧ ks.length ≤ 15 then newK m (ks.zip xs) s else .no
  | .bin o a b, r, s => (ev T a r s).bind fun x s => (ev T b r s).bind fun y s => Res.of (binA s o x y) s
  | .cat m a b, r, s => (ev T a r s).bind fun x s => (ev T b r s).bind fun y s => match rd s x, rd s y with
    | .d (.list xs), .d (.list ys) => if xs.length + ys.length ≤ 100000 then newL m ((xs ++ ys).map .d) s else .no
    | _, _ => .no
  | .rep m es b, r, s => (evs T es r s).bind fun xs s => (ev T b r s).bind fun y s => match y with
    | .d (.int k) => if -(2 ^ 63) ≤ k ∧ k < 2 ^ 63 ∧ xs.length * k.toNat ≤ 100000 then newL m (List.replicate k.toNat xs).flatten s else .no
    | _ => .no
  | .cmp o a b, r, s => (ev T a r s).bind fun x s => (ev T b r s).bind fun y s => Res.of ((cmpA s o x y).map fun q => .d (.bool q)) s
  | .chain o p a b c, r, s => (ev T a r s).bind fun x s => (ev T b r s).bind fun y s => match cmpA s o x y with
    | none => .no
    | some false => .ok (.d (.bool false)) s
    | some true => (ev T c r s).bind fun z s => Res.of ((cmpA s p y z).map fun q => .d (.bool q)) s
  | .le3 a b c e, r, s => (ev T a r s).bind fun x s => (ev T b r s).bind fun y s => match cmpA s .le x y with
    | none => .no
    | some false => .ok (.d (.bool false)) s
    | some true => (ev T c r s).bind fun z s => match cmpA s .le y z with
      | none => .no
      | some false => .ok (.d (.bool false)) s
      | some true => (ev T e r s).bind fun u s => Res.of ((cmpA s .le z u).map fun q => .d (.bool q)) s
  | .and_ a b, r, s => (ev T a r s).bind fun x s => match truA s x with
    | none => .no
    | some true => ev T b r s
    | some false => .ok x s
  | .or_ a b, r, s => (ev T a r s).bind fun x s => match truA s x with
    | none => .no
    | some true => .ok x s
    | some false => ev T b r s
  | .not_ a, r, s => (ev T a r s).bind fun x s => Res.of ((truA s x).map fun q => .d (.bool (!q))) s
  | .neg a, r, s => (ev T a r s).bind fun x s => match x with
    | .d (.int i) => .ok (.d (.int (-i))) s
    | _ => .no
  | .ife c a b, r, s => (ev T c r s).bind fun x s => match truA s x with
    | none => .no
    | some true => ev T a r s
    | some false => ev T b r s
  | .ix a b, r, s => (ev T a r s).bind fun x s => (ev T b r s).bind fun y s => Res.of (ixA s x y) s
  | .slF a lo, r, s => (ev T a r s).bind fun x s => (ev T lo r s).bind fun y s => match numO y with
    | some i => Res.of (slA s x (some i) none) s
    | none => .no
  | .slT a hi, r, s => (ev T a r s).bind fun x s => (ev T hi r s).bind fun y s => match numO y with
    | some i => Res.of (slA s x none (some i)) s
    | none => .no
  | .slB a lo hi, r, s => (ev T a r s).bind fun x s => (ev T lo r s).bind fun y s => match numO y with
    | some i => (ev T hi r s).bind fun z s => match numO z with
      | some j => Res.of (slA s x (some i) (some j)) s
      | none => .no
    | none => .no
  | .rev a, r, s => (ev T a r s).bind fun x s => Res.of (revA s x) s
  | .attr o f, r, s => (ev T o r s).bind fun x s => Res.of (attrA s x f) s
  | .call f es, r, s => (evs T es r s).bind fun xs s => T.fn f xs s
  | .make es, r, s => (evs T es r s).bind fun xs s => (T.mak (.ref s.P.length :: xs) ⟨s.P ++ [.ins []], s.S⟩).bind fun x s' => match x with
    | .d .none => .ok (.ref s.P.length) s'
    | _ => .no
  | .meth o m es, r, s => (ev T o r s).bind fun x s => match x with
    | .ref n => match s.P[n]? with
      | some (.ins fs) => match fs.lookup m with
        | none => (evs T es r s).bind fun xs s => T.fn m (.ref n :: xs) s
        | some _ => .no
      | _ => .no
    | _ => .no
  | .b1 f m a, r, s => (ev T a r s).bind fun x s => b1A f m s x
  | .b2 f a b, r, s => (ev T a r s).bind fun x s => if b2Pre f s x = true then (ev T b r s).bind fun y s => Res.of (b2A f s x y) s else .no
  | .isi a t, r, s => (ev T a r s).bind fun x s => match rd s x with
    | .d y => .ok (.d (.bool (tyIs t y))) s
    | _ => .no
  | .get o k d, r, s => (ev T o r s).bind fun x s => match rd s x with
    | .dT _ => (ev T k r s).bind fun y s => (ev T d r s).bind fun z s => Res.of (getDf s x y z) s
    | _ => .no
  | .kget x k d, r, s => (ev T k r s).bind fun y s => (ev T d r s).bind fun z s => match y, z with
    | .d (.str k), .d (.int j) => .ok (.d (.int ((T.kd x k).getD j))) s
    | _, _ => .no
  | .lc m own elt tg it c, r, s => (evI T it r s).bind fun xw s => if xw.2.all (fun a => stays a s s) = true then (lcGo own tg xw.2 (ev T c) (ev T elt) r s xw.1 [] s).bind fun ys s => newL m ys s else .no
  | .lcK m own elt tg i c, r, s => match r[i]? with
    | some (some (.dT kvs)) => (lcGo own tg [] (ev T c) (ev T elt) r s (kvs.map fun q => .d (keyD q.1)) [] s).bind fun ys s => newL m ys s
    | _ => .no
def evs (T : Tab) : Es → Rh → Sto → Res (List A)
  | .nil, _, s => .ok [] s
  | .cons e es, r, s => (ev T e r s).bind fun x s => (evs T es r s).bind fun xs s => .ok (x :: xs) s
/-- what is walked, and what has to stand meanwhile -/
def evI (T : Tab) : I → Rh → Sto → Res (List A × List A)
  | .seq e, r, s => (ev T e r s).bind fun x s => match itemsA s x with
    | some xs => .ok (xs, [x]) s
    | none => .no
  | .rng1 e, r, s => (ev T e r s).bind fun x s => match x with
    | .d (.int j) => if rngOk 0 j then .ok ((upto 0 j.toNat).map fun i => .d (.int i), []) s else .no
    | _ => .no
  | .rng2 a b, r, s => (ev T a r s).bind fun x s => (ev T b r s).bind fun y s => match x, y with
    | .d (.int i), .d (.int j) => if rngOk i j then .ok ((upto i (j - i).toNat).map fun i => .d (.int i), []) s else .no
    | _, _ => .no
  | .enum e, r, s => (ev T e r s).bind fun x s => match itemsA s x with
    | some xs => match zipT ((upto 0 xs.length).map fun i => .d (.int i)) xs with
      | some ps => .ok (ps, [x]) s
      | none => .no
    | none => .no
  | .zip a b, r, s => (ev T a r s).bind fun x s => (ev T b r s).bind fun y s => match itemsA s x, itemsA s y with
    | some xs, some ys => match zipT xs ys with
      | some ps => .ok (ps, [x, y]) s
      | none => .no
    | _, _ => .no
end
/-! ### statements -/
inductive Out where
  | nx (r : Rh) (s : Sto)
  | rt (a : A) (s : Sto)
  | er (c : Str) (r : Rh) (s : Sto)
  | no
def Res.out {β : Type} (m : Res β) (r : Rh) (k : β → Sto → Out) : Out := match m with
  | .ok x s => k x s
  | .er c s => .er c r s
  | .no => .no
def Out.then (o : Out) (k : Rh → Sto → Out) : Out := match o with
  | .nx r s => k r s
  | o => o
def putL {β : Type} (kvs : List (Str × β)) (k : Str) (v : β) : List (Str × β) := match kvs with
  | [] => [(k, v)]
  | (j, x) :: t => if j = k then (j, v) :: t else (j, x) :: putL t k v
/-- the object there is changed -/
def chg (s : Sto) (x : A) (f : Ob → Option Ob) : Option Sto := match x with
  | .ref n => match s.P[n]? with
    | some o => (f o).map fun o => ⟨s.P.set n o, s.S⟩
    | none => none
  | .loc n => match s.S[n]? with
    | some o => (f o).map fun o => ⟨s.P, s.S.set n o⟩
    | none => none
  | _ => none
def appO (y : A) : Ob → Option Ob
  | .lst ds => match y with
    | .d z => if ds.length ≤ 100000 then some (.lst (ds ++ [z])) else none
    | _ => none
  | _ => none
def extO (ys : List PyData) : Ob → Option Ob
  | .lst ds => if ds.length + ys.length ≤ 100000 then some (.lst (ds ++ ys)) else none
  | _ => none
def sixO (k v : A) : Ob → Option Ob
  | .dT kvs => match keyA k, v with
    | some k, .d y => if kvs.length ≤ 100000 then some (.dT (putA kvs k y)) else none
    | _, _ => none
  | .dK kvs => match k with
    | .d (.str k) => if kvs.length ≤ 1000 ∧ noLoc v = true ∧ (kvs.map (·.1)).Nodup then some (.dK (putL kvs k v)) else none
    | _ => none
  | .lst ds => match k, v with
    | .d (.int i), .d y => if 0 ≤ i ∧ i < ds.length then some (.lst (ds.set i.toNat y)) else none
    | _, _ => none
  | .ins _ => none
def satO (f : Str) (v : A) : Ob → Option Ob
  | .ins fs => if fs.length < 1000 ∧ noLoc v = true then some (.ins (putL fs f v)) else none
  | _ => none
def errN : List Str := ["BadWorld", "BadWish", "BadCopy", "BadWord", "NoBooking", "Full", "BadFacts", "BadDeed", "BadText"]
def isSub (c h : Str) : Bool := decide (c = h) || decide (h = "BookError")
def forGo (tg : Tg) (w : List A) (body : Rh → Sto → Out) (s0 : Sto) : List A → Rh → Sto → Out
  | [], r, s => .nx r s
  | x :: xs, r, s => match setTg tg x r with
    | none => .no
    | some r1 => match body r1 s with
      | .nx r2 s2 => if w.all (fun a => stays a s0 s2) then forGo tg w body s0 xs r2 s2 else .no
      | o => o
def whlGo (c : Rh → Sto → Res A) (body : Rh → Sto → Out) : Nat → Rh → Sto → Out
  | 0, _, _ => .no
  | n + 1, r, s => (c r s).out r fun x s => match truA s x with
    | none => .no
    | some false => .nx r s
    | some true => (body r s).then fun r s => whlGo c body n r s
mutual
def exS (T : Tab) : S → Rh → Sto → Out
  | .ex e, r, s => (ev T e r s).out r fun _ s => .nx r s
  | .app o e, r, s => (ev T o r s).out r fun x s => match rd s x with
    | .d (.list _) => (ev T e r s).out r fun y s => match chg s x (appO y) with
      | some s => .nx r s
      | none => .no
    | _ => .no
  | .ext o e, r, s => (ev T o r s).out r fun x s => (ev T e r s).out r fun y s => match rd s y with
    | .d (.list ys) => match chg s x (extO ys) with
      | some s => .nx r s
      | none => .no
    | _ => .no
  | .set i e, r, s => (ev T e r s).out r fun x s => .nx (r.set i (some x)) s
  | .unp tg e, r, s => (ev T e r s).out r fun x s => match setTg tg x r with
    | some r => .nx r s
    | none => .no
  | .par i j a b, r, s => (ev T a r s).out r fun x s => (ev T b r s).out r fun y s => .nx ((r.set i (some x)).set j (some y)) s
  | .sat o f e, r, s => (ev T e r s).out r fun y s => (ev T o r s).out r fun x s => match chg s x (satO f y) with
    | some s => .nx r s
    | none => .no
  | .aat o f e, r, s => (ev T o r s).out r fun x s => match attrA s x f with
    | some (.d (.int i)) => (ev T e r s).out r fun y s => match y with
      | .d (.int j) => match chg s x (satO f (.d (.int (i + j)))) with
        | some s => .nx r s
        | none => .no
      | _ => .no
    | _ => .no
  | .six o k e, r, s => (ev T e r s).out r fun y s => (ev T o r s).out r fun x s => (ev T k r s).out r fun z s => match chg s x (sixO z y) with
    | some s => .nx r s
    | none => .no
  | .aix o k e, r, s => (ev T o r s).out r fun x s => (ev T k r s).out r fun z s => match rd s x, z with
    | .dK kvs, .d (.str kk) => match kvs.lookup kk with
      | some (.d (.int i)) => (ev T e r s).out r fun y s => match y with
        | .d (.int j) => match chg s x (sixO z (.d (.int (i + j)))) with
          | some s => .nx r s
          | none => .no
        | _ => .no
      | _ => .no
    | _, _ => .no
  | .aug i e, r, s => match r[i]? with
    | some (some (.d (.int j))) => (ev T e r s).out r fun y s => match y with
      | .d (.int k) => .nx (r.set i (some (.d (.int (j + k))))) s
      | _ => .no
    | _ => .no
  | .ret e, r, s => (ev T e r s).out r fun x s => .rt x s
  | .ite c a b, r, s => (ev T c r s).out r fun x s => match truA s x with
    | none => .no
    | some true => exSs T a r s
    | some false => exSs T b r s
  | .for_ tg it b, r, s => (evI T it r s).out r fun xw s => if xw.2.all (fun a => stays a s s) = true then forGo tg xw.2 (exSs T b) s xw.1 r s else .no
  | .forK tg i b, r, s => match r[i]? with
    | some (some (.dT kvs)) => match forGo tg [] (exSs T b) s (kvs.map fun q => .d (keyD q.1)) r s with
      | .er _ _ _ => .no
      | o => o
    | _ => .no
  | .whl n c b, r, s => whlGo (ev T c) (exSs T b) n r s
  | .raise c, r, s => .er c r s
  | .try_ b hs, r, s => match exSs T b r s with
    | .er c r s => if c ∈ errN then exHs T hs c r s else .no
    | o => o
  | .pass, r, s => .nx r s
def exSs (T : Tab) : Ss → Rh → Sto → Out
  | .nil, r, s => .nx r s
  | .cons x ss, r, s => (exS T x r s).then fun r s => exSs T ss r s
def exHs (T : Tab) : Hs → Str → Rh → Sto → Out
  | .nil, c, r, s => .er c r s
  | .cons h b hs, c, r, s => if isSub c h = true then (match exSs T b r s with
    | .er _ _ _ => .no
    | o => o) else exHs T hs c r s
end
/-! ### defs -/
structure Fn where
  np : Nat
  nl : Nat
  body : Ss
def back (b : Nat) (s : Sto) : A → Option A
  | .loc n => if n < b then some (.loc n) else match s.S[n]? with
    | some (.lst ds) => some (.d (.list ds))
    | some (.dT kvs) => some (.dT kvs)
    | some (.dK kvs) => some (.dK kvs)
    | _ => none
  | a => some a
def Sto.cut (s : Sto) (b : Nat) : Sto := ⟨s.P, s.S.take b⟩
def fin (b : Nat) : Out → Res A
  | .nx _ s => .ok (.d .none) (s.cut b)
  | .rt a s => match back b s a with
    | some a => .ok a (s.cut b)
    | none => .no
  | .er c _ s => .er c (s.cut b)
  | .no => .no
/-- the program: its defs, its constants -/
structure Prg where
  fn : Str → Option Fn
  gl : Str → Option A
  kd : Str → Str → Option Int
def runF (T : Tab) (F : Fn) (as : List A) (s : Sto) : Res A := if as.length = F.np then fin s.S.length (exSs T F.body (as.map some ++ List.replicate (F.nl - F.np) none) s) else .no
def callF (Z : Prg) : Nat → Str → List A → Sto → Res A
  | 0, _, _, _ => .no
  | 1, f, as, s => match Z.fn f with
    | some F => runF ⟨fun _ _ _ => .no, fun _ _ => .no, Z.gl, Z.kd⟩ F as s
    | none => .no
  | n + 2, f, as, s => match Z.fn f with
    | some F => runF ⟨callF Z (n + 1), callF Z n "__init__", Z.gl, Z.kd⟩ F as s
    | none => .no
def tabZ (Z : Prg) : Nat → Tab
  | 0 => ⟨fun _ _ _ => .no, fun _ _ => .no, Z.gl, Z.kd⟩
  | n + 1 => ⟨callF Z (n + 1), callF Z n "__init__", Z.gl, Z.kd⟩
end Fb

/-! Rb: how values and objects of the evaluator stand in the heap; the judgement Sx. -/
namespace Fb
open PySem PySem.Spec PyProof.Rows L2 Evl
mutual
/-- a value that may stand within others -/
def Ai (K : PySem.W.Frag) (G : Hp) (α : List Addr) : A → V → Prop
  | .d x, v => Dp K G v x
  | .ref n, v => ∃ a, α[n]? = some a ∧ v = .ref a
  | .loc _, _ => False
  | .lst xs, v => ∃ a vs, v = .ref a ∧ Rd G a (.lst vs) ∧ AiL K G α xs vs
  | .tup xs, v => ∃ a vs, v = .ref a ∧ G a = some (.tup vs) ∧ AiL K G α xs vs
  | .dT kvs, v => ∃ a ws, v = .ref a ∧ Rd G a (.dT ws) ∧ PrD K G ws kvs
  | .dK kvs, v => ∃ a ws, v = .ref a ∧ Rd G a (.dK ws) ∧ AiK K G α kvs ws
  | .sc ns, v => ∃ a, v = .ref a ∧ SqL K G a (ns.map V.int)
def AiL (K : PySem.W.Frag) (G : Hp) (α : List Addr) : List A → List V → Prop
  | [], vs => vs = []
  | x :: xs, vs => ∃ v t, vs = v :: t ∧ Ai K G α x v ∧ AiL K G α xs t
def AiK (K : PySem.W.Frag) (G : Hp) (α : List Addr) : List (Str × A) → List (Key × V) → Prop
  | [], ws => ws = []
  | p :: xs, ws => ∃ v t, ws = (.inr p.1, v) :: t ∧ Ai K G α p.2 v ∧ AiK K G α xs t
end
/-- attributes -/
def AiF (K : PySem.W.Frag) (G : Hp) (α : List Addr) : List (Str × A) → List (Str × V) → Prop
  | [], ws => ws = []
  | p :: xs, ws => ∃ v t, ws = (p.1, v) :: t ∧ Ai K G α p.2 v ∧ AiF K G α xs t
/-- a value -/
def Ad (K : PySem.W.Frag) (G : Hp) (α β : List Addr) : A → V → Prop
  | .loc n, v => ∃ a, β[n]? = some a ∧ v = .ref a
  | a, v => Ai K G α a v
def AdL (K : PySem.W.Frag) (G : Hp) (α β : List Addr) : List A → List V → Prop
  | [], vs => vs = []
  | x :: xs, vs => ∃ v t, vs = v :: t ∧ Ad K G α β x v ∧ AdL K G α β xs t
/-- an object at a -/
def ObR (K : PySem.W.Frag) (C : Addr) (G H : Hp) (α : List Addr) (a : Addr) : Ob → Prop
  | .lst ds => ∃ vs, H a = some (.lst vs) ∧ DpAll K G vs ds
  | .dT kvs => ∃ ws, H a = some (.dT ws) ∧ PrD K G ws kvs
  | .dK kvs => ∃ ws, H a = some (.dK ws) ∧ AiK K G α kvs ws
  | .ins fs => ∃ dx ws, H a = some (.ins C dx ws) ∧ AiF K G α fs ws
structure Rl (K : PySem.W.Frag) (C : Addr) (δ : List (Addr × HO)) (G H : Hp) (α β : List Addr) (st : Sto) : Prop where
  s : Ex G H
  nd : (α ++ β).Nodup
  la : α.length = st.P.length
  lb : β.length = st.S.length
  no : ∀ a, a ∈ α ++ β → G a = none
  P : ∀ (n : Nat) (o : Ob), st.P[n]? = some o → ∃ a, α[n]? = some a ∧ ObR K C G H α a o
  S : ∀ (n : Nat) (o : Ob), st.S[n]? = some o → ∃ a, β[n]? = some a ∧ ObR K C G H α a o
  fr : ∀ q, q ∈ δ → H q.1 = some q.2 ∧ G q.1 = none ∧ q.1 ∉ α ++ β ∧ ∀ xs, q.2 ≠ .tup xs
  dn : (δ.map (·.1)).Nodup
structure Gw (G : Hp) (α β : List Addr) (G2 : Hp) (α2 β2 : List Addr) : Prop where
  g : Ex G G2
  a : ∃ m, α2 = α ++ m
  b : ∃ m, β2 = β ++ m
theorem Gw.refl {G : Hp} {α β : List Addr} : Gw G α β G α β := ⟨Ex.refl G, ⟨[], by simp⟩, ⟨[], by simp⟩⟩
theorem Gw.trans {G G1 G2 : Hp} {α β α1 β1 α2 β2 : List Addr} (x : Gw G α β G1 α1 β1) (y : Gw G1 α1 β1 G2 α2 β2) : Gw G α β G2 α2 β2 := by
  obtain ⟨g, ⟨m, rfl⟩, ⟨m', rfl⟩⟩ := x
  obtain ⟨g', ⟨n, rfl⟩, ⟨n', rfl⟩⟩ := y
  exact ⟨g.trans g', ⟨m ++ n, by simp⟩, ⟨m' ++ n', by simp⟩⟩
theorem Gw.of {G G2 : Hp} {α β : List Addr} (g : Ex G G2) : Gw G α β G2 α β := ⟨g, ⟨[], by simp⟩, ⟨[], by simp⟩⟩
theorem get_app {γ : Type} {l m : List γ} {n : Nat} {x : γ} (h : l[n]? = some x) : (l ++ m)[n]? = some x := by
  rw [List.getElem?_append_left (List.getElem?_eq_some_iff.mp h).1]
  exact h
section
variable {K : PySem.W.Frag} {C : Addr} {G H G2 H2 : Hp} {α β α2 β2 : List Addr} {s : Sto}
mutual
theorem ai_up (g : Ex G G2) (m : List Addr) : ∀ (a : A) (v : V), Ai K G α a v → Ai K G2 (α ++ m) a v
  | .d x, v, h => dp_up g x v h
  | .ref n, v, ⟨a, h1, h2⟩ => ⟨a, get_app h1, h2⟩
  | .loc n, v, h => h.elim
  | .lst xs, v, ⟨a, vs, h1, h2, h3⟩ => ⟨a, vs, h1, ex_rd g h2, aiL_up g m xs vs h3⟩
  | .tup xs, v, ⟨a, vs, h1, h2, h3⟩ => ⟨a, vs, h1, g _ _ h2, aiL_up g m xs vs h3⟩
  | .dT kvs, v, ⟨a, ws, h1, h2, h3⟩ => ⟨a, ws, h1, ex_rd g h2, prd_up g h3⟩
  | .dK kvs, v, ⟨a, ws, h1, h2, h3⟩ => ⟨a, ws, h1, ex_rd g h2, aiK_up g m kvs ws h3⟩
  | .sc ns, v, ⟨a, h1, h2⟩ => ⟨a, h1, ex_l g h2⟩
theorem aiL_up (g : Ex G G2) (m : List Addr) : ∀ (xs : List A) (vs : List V), AiL K G α xs vs → AiL K G2 (α ++ m) xs vs
  | [], vs, h => h
  | x :: xs, vs, ⟨v, t, h1, h2, h3⟩ => ⟨v, t, h1, ai_up g m x v h2, aiL_up g m xs t h3⟩
theorem aiK_up (g : Ex G G2) (m : List Addr) : ∀ (xs : List (Str × A)) (ws : List (Key × V)), AiK K G α xs ws → AiK K G2 (α ++ m) xs ws
  | [], ws, h => h
  | p :: xs, ws, ⟨v, t, h1, h2, h3⟩ => ⟨v, t, h1, ai_up g m p.2 v h2, aiK_up g m xs t h3⟩
end
theorem aiF_up (g : Ex G G2) (m : List Addr) : ∀ (xs : List (Str × A)) (ws : List (Str × V)), AiF K G α xs ws → AiF K G2 (α ++ m) xs ws
  | [], ws, h => h
  | p :: xs, ws, ⟨v, t, h1, h2, h3⟩ => ⟨v, t, h1, ai_up g m p.2 v h2, aiF_up g m xs t h3⟩
theorem Ai.ex (g : Ex G G2) {a : A} {v : V} (h : Ai K G α a v) : Ai K G2 α a v := by
  have := ai_up g [] a v h
  rwa [List.append_nil] at this
theorem AiK.ex (g : Ex G G2) {a : List (Str × A)} {v : List (Key × V)} (h : AiK K G α a v) : AiK K G2 α a v := by
  have := aiK_up g [] a v h
  rwa [List.append_nil] at this
theorem AiF.ex (g : Ex G G2) {a : List (Str × A)} {v : List (Str × V)} (h : AiF K G α a v) : AiF K G2 α a v := by
  have := aiF_up g [] a v h
  rwa [List.append_nil] at this
theorem AiL.ex (g : Ex G G2) {a : List A} {v : List V} (h : AiL K G α a v) : AiL K G2 α a v := by
  have := aiL_up g [] a v h
  rwa [List.append_nil] at this
theorem Ad.up (g : Gw G α β G2 α2 β2) {a : A} {v : V} (h : Ad K G α β a v) : Ad K G2 α2 β2 a v := by
  obtain ⟨g, ⟨m, rfl⟩, ⟨m', rfl⟩⟩ := g
  cases a with
  | loc n => obtain ⟨a, h1, h2⟩ := h; exact ⟨a, get_app h1, h2⟩
  | _ => exact ai_up g m _ v h
theorem AdL.up (g : Gw G α β G2 α2 β2) : ∀ {xs : List A} {vs : List V}, AdL K G α β xs vs → AdL K G2 α2 β2 xs vs
  | [], _, h => h
  | _ :: _, _, ⟨v, t, h1, h2, h3⟩ => ⟨v, t, h1, h2.up g, AdL.up g h3⟩
theorem Ai.ad {a : A} {v : V} (h : Ai K G α a v) : Ad K G α β a v := by
  cases a with
  | loc n => exact h.elim
  | _ => exact h
theorem Ad.ai {a : A} {v : V} (h : Ad K G α β a v) (hn : noLoc a = true) : Ai K G α a v := by
  cases a with
  | loc n => cases hn
  | _ => exact h
theorem AdL.len : ∀ {xs : List A} {vs : List V}, AdL K G α β xs vs → vs.length = xs.length
  | [], vs, h => by rw [show vs = [] from h]; rfl
  | _ :: _, _, ⟨v, t, h1, h2, h3⟩ => by rw [h1, List.length_cons, List.length_cons, AdL.len h3]
theorem AiL.len : ∀ {xs : List A} {vs : List V}, AiL K G α xs vs → vs.length = xs.length
  | [], vs, h => by rw [show vs = [] from h]; rfl
  | _ :: _, _, ⟨v, t, h1, h2, h3⟩ => by rw [h1, List.length_cons, List.length_cons, AiL.len h3]
/-- a list of data -/
theorem AdL.data : ∀ {xs : List A} {vs : List V} {ds : List PyData}, AdL K G α β xs vs → allD xs = some ds → DpAll K G vs ds
  | [], _, _, h, e => by cases e; rw [show _ = [] from h]; exact .nil
  | .d x :: xs, _, _, ⟨v, t, h1, h2, h3⟩, e => by
    rw [allD] at e
    cases q : allD xs with
    | none => rw [q] at e; cases e
    | some l =>
      rw [q] at e
      cases e
      rw [h1]
      exact .cons h2 (AdL.data h3 q)
  | .ref _ :: _, _, _, _, e => by cases e
  | .loc _ :: _, _, _, _, e => by cases e
  | .lst _ :: _, _, _, _, e => by cases e
  | .tup _ :: _, _, _, _, e => by cases e
  | .dT _ :: _, _, _, _, e => by cases e
  | .dK _ :: _, _, _, _, e => by cases e
  | .sc _ :: _, _, _, _, e => by cases e
theorem AdL.ai : ∀ {xs : List A} {vs : List V}, AdL K G α β xs vs → xs.all noLoc = true → AiL K G α xs vs
  | [], _, h, _ => h
  | x :: xs, _, ⟨v, t, h1, h2, h3⟩, e => by
    rw [List.all_cons, Bool.and_eq_true] at e
    exact ⟨v, t, h1, h2.ai e.1, AdL.ai h3 e.2⟩
theorem AiL.ad : ∀ {xs : List A} {vs : List V}, AiL K G α xs vs → AdL K G α β xs vs
  | [], _, h => h
  | x :: xs, _, ⟨v, t, h1, h2, h3⟩ => ⟨v, t, h1, h2.ad, AiL.ad h3⟩
theorem AiL.of : ∀ {ds : List PyData} {vs : List V}, DpAll K G vs ds → AiL K G α (ds.map .d) vs
  | [], _, h => by cases h; exact (rfl : ([] : List V) = [])
  | d :: ds, _, h => by
    cases h with
    | cons h1 h2 => exact ⟨_, _, rfl, h1, AiL.of h2⟩
theorem AiL.get : ∀ {xs : List A} {vs : List V} {n : Nat} {a : A}, AiL K G α xs vs → xs[n]? = some a → ∃ v, vs[n]? = some v ∧ Ai K G α a v
  | [], _, _, _, _, e => by simp at e
  | x :: xs, _, 0, a, ⟨v, t, h1, h2, h3⟩, e => by simp at e; subst e; exact ⟨v, by rw [h1]; rfl, h2⟩
  | x :: xs, _, n + 1, a, ⟨v, t, h1, h2, h3⟩, e => by
    obtain ⟨u, q1, q2⟩ := AiL.get (n := n) h3 (by simpa using e)
    exact ⟨u, by rw [h1]; simpa using q1, q2⟩
theorem AiL.back : ∀ {xs : List A} {vs : List V} {n : Nat} {v : V}, AiL K G α xs vs → vs[n]? = some v → ∃ a, xs[n]? = some a ∧ Ai K G α a v
  | [], _, _, _, h, e => by rw [show _ = [] from h] at e; simp at e
  | x :: xs, _, 0, a, ⟨v, t, h1, h2, h3⟩, e => by rw [h1] at e; simp at e; subst e; exact ⟨x, rfl, h2⟩
  | x :: xs, _, n + 1, a, ⟨v, t, h1, h2, h3⟩, e => by
    rw [h1] at e
    obtain ⟨u, q1, q2⟩ := AiL.back (n := n) h3 (by simpa using e)
    exact ⟨u, by simpa using q1, q2⟩
theorem ObR.up (g : Ex G G2) (m : List Addr) {a : Addr} {o : Ob} (hH : H2 a = H a) (h : ObR K C G H α a o) : ObR K C G2 H2 (α ++ m) a o := by
  cases o with
  | lst ds => obtain ⟨vs, h1, h2⟩ := h; exact ⟨vs, by rw [hH]; exact h1, dpAll_up g _ _ h2⟩
  | dT kvs => obtain ⟨ws, h1, h2⟩ := h; exact ⟨ws, by rw [hH]; exact h1, prd_up g h2⟩
  | dK kvs => obtain ⟨ws, h1, h2⟩ := h; exact ⟨ws, by rw [hH]; exact h1, aiK_up g m _ _ h2⟩
  | ins fs => obtain ⟨dx, ws, h1, h2⟩ := h; exact ⟨dx, ws, by rw [hH]; exact h1, aiF_up g m _ _ h2⟩
theorem ObR.here {a : Addr} {o : Ob} (h : ObR K C G H α a o) : NT H a := by
  cases o with
  | lst ds => obtain ⟨vs, h1, h2⟩ := h; exact some_nt h1
  | dT kvs => obtain ⟨ws, h1, h2⟩ := h; exact some_nt h1
  | dK kvs => obtain ⟨ws, h1, h2⟩ := h; exact some_nt h1
  | ins fs => obtain ⟨dx, ws, h1, h2⟩ := h; exact some_nt h1
theorem Rl.at (R : Rl K C δ G H α β s) {a : Addr} (h : a ∈ α ++ β) : NT H a := by
  rcases List.mem_append.mp h with h | h
  · obtain ⟨n, hn⟩ := List.getElem?_of_mem h
    have hl : n < s.P.length := by rw [← R.la]; exact (List.getElem?_eq_some_iff.mp hn).1
    obtain ⟨a', h1, h2⟩ := R.P n _ (List.getElem?_eq_getElem hl)
    rw [hn] at h1
    cases h1
    exact h2.here
  · obtain ⟨n, hn⟩ := List.getElem?_of_mem h
    have hl : n < s.S.length := by rw [← R.lb]; exact (List.getElem?_eq_some_iff.mp hn).1
    obtain ⟨a', h1, h2⟩ := R.S n _ (List.getElem?_eq_getElem hl)
    rw [hn] at h1
    cases h1
    exact h2.here
/-- the heap grows, and G with it -/
theorem Rl.gr (R : Rl K C δ G H α β s) (k : Gr G H G2 H2) : Rl K C δ G2 H2 α β s := by
  refine ⟨k.s, R.nd, R.la, R.lb, fun a ha => k.out (R.no a ha) (R.at ha), fun n o h => ?_, fun n o h => ?_, fun q hq => ?_, R.dn⟩
  · obtain ⟨a, h1, h2⟩ := R.P n o h
    have z := h2.here
    obtain ⟨u, hu, _⟩ := z
    have := ObR.up (H2 := H2) k.g [] (by rw [hu]; exact k.h _ _ hu) h2
    rw [List.append_nil] at this
    exact ⟨a, h1, this⟩
  · obtain ⟨a, h1, h2⟩ := R.S n o h
    have z := h2.here
    obtain ⟨u, hu, _⟩ := z
    have := ObR.up (H2 := H2) k.g [] (by rw [hu]; exact k.h _ _ hu) h2
    rw [List.append_nil] at this
    exact ⟨a, h1, this⟩
  · obtain ⟨h1, h2, h3, h4⟩ := R.fr q hq
    exact ⟨k.h _ _ h1, k.out h2 (some_nt h1 h4), h3, h4⟩
end
/-! ### slots -/
structure Em (K : PySem.W.Frag) (G : Hp) (α β : List Addr) (σ : L2.St) (r : Rh) : Prop where
  len : σ.length = r.length
  at_ : ∀ (i : Nat) (a : A), r[i]? = some (some a) → ∃ v, σ[i]? = some (some v) ∧ Ad K G α β a v
section
variable {K : PySem.W.Frag} {C : Addr} {G H G2 H2 : Hp} {α β α2 β2 : List Addr} {s : Sto} {σ : L2.St} {r : Rh}
theorem Em.up (g : Gw G α β G2 α2 β2) (n : Em K G α β σ r) : Em K G2 α2 β2 σ r := ⟨n.len, fun i a h => let ⟨v, h1, h2⟩ := n.at_ i a h; ⟨v, h1, h2.up g⟩⟩
theorem Em.set (n : Em K G α β σ r) (i : Nat) {v : V} {a : A} (h : Ad K G α β a v) : Em K G α β (σ.set i (some v)) (r.set i (some a)) := by
  refine ⟨by rw [List.length_set, List.length_set]; exact n.len, fun j e hj => ?_⟩
  by_cases hij : i = j
  · subst hij
    have hl : i < r.length := by
      obtain ⟨q, _⟩ := List.getElem?_eq_some_iff.mp hj
      simpa using q
    rw [List.getElem?_set_self hl] at hj
    cases hj
    exact ⟨v, List.getElem?_set_self (by rw [n.len]; exact hl), h⟩
  · rw [List.getElem?_set_ne hij] at hj
    obtain ⟨u, a, b⟩ := n.at_ j e hj
    exact ⟨u, by rw [List.getElem?_set_ne hij]; exact a, b⟩
theorem Em.drop (n : Em K G α β σ r) (i : Nat) (o : Option V) : Em K G α β (σ.set i o) (r.set i none) := by
  refine ⟨by rw [List.length_set, List.length_set]; exact n.len, fun j e hj => ?_⟩
  by_cases hij : i = j
  · subst hij
    by_cases hl : i < r.length
    · rw [List.getElem?_set_self hl] at hj
      cases hj
    · rw [List.getElem?_eq_none (by simpa using hl)] at hj
      cases hj
  · rw [List.getElem?_set_ne hij] at hj
    obtain ⟨u, a, b⟩ := n.at_ j e hj
    exact ⟨u, by rw [List.getElem?_set_ne hij]; exact a, b⟩
theorem Em.wipe (n : Em K G α β σ r) : ∀ vs : List Nat, Em K G α β (L2.wipe σ vs) (wipeA r vs)
  | [] => n
  | v :: vs => (Em.wipe n vs).drop v none
theorem Em.start {N : List Str} {vs : List V} {as : List A} (h : AdL K G α β as vs) : Em K G α β (L2.start N vs) (as.map some ++ List.replicate (N.length - as.length) none) := by
  have hl := AdL.len h
  refine ⟨?_, fun i d hi => ?_⟩
  · unfold L2.start
    simp [hl]
  · unfold L2.start
    by_cases hlt : i < as.length
    · rw [List.getElem?_append_left (by simpa using hlt), List.getElem?_map] at hi
      rw [List.getElem?_append_left (by simp; omega), List.getElem?_map]
      have aux : ∀ {as : List A} {vs : List V} (i : Nat) (d : A), AdL K G α β as vs → as[i]? = some d → ∃ v, vs[i]? = some v ∧ Ad K G α β d v := by
        intro as
        induction as with
        | nil => intro vs i d _ e; simp at e
        | cons x xs ih =>
          rintro vs i d ⟨v, t, h1, h2, h3⟩ e
          cases i with
          | zero => simp at e; subst e; exact ⟨v, by rw [h1]; rfl, h2⟩
          | succ i => obtain ⟨u, q1, q2⟩ := ih i d h3 (by simpa using e); exact ⟨u, by rw [h1]; simpa using q1, q2⟩
      cases hd : as[i]? with
      | none => rw [hd] at hi; cases hi
      | some d' =>
        rw [hd] at hi
        cases hi
        obtain ⟨v, a, b⟩ := aux i d h hd
        exact ⟨v, by rw [a]; rfl, b⟩
    · rw [List.getElem?_append_right (by simp; omega)] at hi
      rw [List.getElem?_replicate] at hi
      split at hi <;> cases hi
end
/-! ### the judgements -/
section
variable {γ : Type} {δ : List (Addr × HO)}
/-- what is wanted of a result -/
def Post (K : PySem.W.Frag) (C : Addr) (δ : List (Addr × HO)) (mg : Str → Option Value) (W : WX) (σ : L2.St) (Z : Hp → Hp → List Addr → List Addr → γ → Prop) (G : Hp) (α β : List Addr) : Res γ → Prop
  | .ok x s => ∀ G2 H2 α2 β2, Gw G α β G2 α2 β2 → Rl K C δ G2 H2 α2 β2 s → Z G2 H2 α2 β2 x
  | .er c s => ∀ G2 H2 α2 β2, Gw G α β G2 α2 β2 → Rl K C δ G2 H2 α2 β2 s → ∀ B, mg c = some (.ref B) → W (.ref B) none σ H2
  | .no => False
variable {K : PySem.W.Frag} {C : Addr} {mg : Str → Option Value} {W : WX} {σ : L2.St} {Z : Hp → Hp → List Addr → List Addr → γ → Prop} {G G2 : Hp} {α β α2 β2 : List Addr}
theorem Post.up {m : Res γ} (p : Post K C δ mg W σ Z G α β m) (g : Gw G α β G2 α2 β2) : Post K C δ mg W σ Z G2 α2 β2 m := by
  cases m with
  | ok x s => exact fun G3 H3 α3 β3 g3 R3 => p G3 H3 α3 β3 (g.trans g3) R3
  | er c s => exact fun G3 H3 α3 β3 g3 R3 => p G3 H3 α3 β3 (g.trans g3) R3
  | no => exact p
theorem Post.of {o : Option γ} {s : Sto} (p : Post K C δ mg W σ Z G α β (Res.of o s)) : ∃ x, o = some x ∧ Post K C δ mg W σ Z G α β (.ok x s) := by
  cases o with
  | none => exact p.elim
  | some x => exact ⟨x, rfl, p⟩
end
/-- a value's post -/
abbrev Qv (K : PySem.W.Frag) (Q : VK) : Hp → Hp → List Addr → List Addr → A → Prop := fun G2 H2 α2 β2 a => ∀ v, Ad K G2 α2 β2 a v → Q v H2
abbrev Ql (K : PySem.W.Frag) (Q : List V → Hp → Prop) : Hp → Hp → List Addr → List Addr → List A → Prop := fun G2 H2 α2 β2 as => ∀ vs, AdL K G2 α2 β2 as vs → Q vs H2
/-- e is c -/
structure Sx (X : Cx) (C : Addr) (W : WX) (T : Tab) (e : Expr) (c : E) : Prop where
  run : ∀ δ σ G H α β r s (Q : VK), Rl X.K C δ G H α β s → Em X.K G α β σ r → Post X.K C δ X.mg W σ (Qv X.K Q) G α β (ev T c r s) → wE X e σ H Q
structure Sa (X : Cx) (C : Addr) (W : WX) (T : Tab) (es : List Expr) (c : Es) : Prop where
  run : ∀ δ σ G H α β r s (Q : List V → Hp → Prop), Rl X.K C δ G H α β s → Em X.K G α β σ r → Post X.K C δ X.mg W σ (Ql X.K Q) G α β (evs T c r s) → wA X es σ H Q
/-- truth of what c gives -/
def evT (T : Tab) (c : E) (r : Rh) (s : Sto) : Res Bool := (ev T c r s).bind fun x s => Res.of (truA s x) s
abbrev Qb (Q : Bool → Hp → Prop) : Hp → Hp → List Addr → List Addr → Bool → Prop := fun _ H2 _ _ b => Q b H2
structure Sb (X : Cx) (C : Addr) (W : WX) (T : Tab) (e : Expr) (c : E) : Prop where
  run : ∀ δ σ G H α β r s (Q : Bool → Hp → Prop), Rl X.K C δ G H α β s → Em X.K G α β σ r → Post X.K C δ X.mg W σ (Qb Q) G α β (evT T c r s) → wT X e σ H Q
structure Sw (X : Cx) (C : Addr) (W : WX) (T : Tab) (e : Expr) (c : E) : Prop where
  run : ∀ δ σ G H α β r s (Q : Bool → Hp → Prop), Rl X.K C δ G H α β s → Em X.K G α β σ r → Post X.K C δ X.mg W σ (Qb Q) G α β (evT T c r s) → wW X e σ H Q
section
variable {X : Cx} {C : Addr} {W : WX} {T : Tab} {e : Expr} {es : List Expr} {c : E} {cs : Es} {σ : L2.St} {G H : Hp} {α β : List Addr} {r : Rh} {s : Sto} {γ : Type} {Z : Hp → Hp → List Addr → List Addr → γ → Prop}
theorem Sx.use (h : Sx X C W T e c) (R : Rl X.K C δ G H α β s) (n : Em X.K G α β σ r) {k : A → Sto → Res γ} {Q : VK} (p : Post X.K C δ X.mg W σ Z G α β ((ev T c r s).bind k))
    (q : ∀ a s' v G2 H2 α2 β2, Gw G α β G2 α2 β2 → Rl X.K C δ G2 H2 α2 β2 s' → Em X.K G2 α2 β2 σ r → Ad X.K G2 α2 β2 a v → Post X.K C δ X.mg W σ Z G2 α2 β2 (k a s') → Q v H2) : wE X e σ H Q := by
  refine h.run δ σ G H α β r s Q R n ?_
  cases m : ev T c r s with
  | ok a s' => rw [m] at p; exact fun G2 H2 α2 β2 g R2 v hv => q a s' v G2 H2 α2 β2 g R2 (n.up g) hv (Post.up p g)
  | er c s' => rw [m] at p; exact p
  | no => rw [m] at p; exact p
theorem Sa.use (h : Sa X C W T es cs) (R : Rl X.K C δ G H α β s) (n : Em X.K G α β σ r) {k : List A → Sto → Res γ} {Q : List V → Hp → Prop} (p : Post X.K C δ X.mg W σ Z G α β ((evs T cs r s).bind k))
    (q : ∀ a s' v G2 H2 α2 β2, Gw G α β G2 α2 β2 → Rl X.K C δ G2 H2 α2 β2 s' → Em X.K G2 α2 β2 σ r → AdL X.K G2 α2 β2 a v → Post X.K C δ X.mg W σ Z G2 α2 β2 (k a s') → Q v H2) : wA X es σ H Q := by
  refine h.run δ σ G H α β r s Q R n ?_
  cases m : evs T cs r s with
  | ok a s' => rw [m] at p; exact fun G2 H2 α2 β2 g R2 v hv => q a s' v G2 H2 α2 β2 g R2 (n.up g) hv (Post.up p g)
  | er c s' => rw [m] at p; exact p
  | no => rw [m] at p; exact p
theorem Sb.use (h : Sb X C W T e c) (R : Rl X.K C δ G H α β s) (n : Em X.K G α β σ r) {k : Bool → Sto → Res γ} {Q : Bool → Hp → Prop} (p : Post X.K C δ X.mg W σ Z G α β ((evT T c r s).bind k))
    (q : ∀ a s' G2 H2 α2 β2, Gw G α β G2 α2 β2 → Rl X.K C δ G2 H2 α2 β2 s' → Em X.K G2 α2 β2 σ r → Post X.K C δ X.mg W σ Z G2 α2 β2 (k a s') → Q a H2) : wT X e σ H Q := by
  refine h.run δ σ G H α β r s Q R n ?_
  cases m : evT T c r s with
  | ok a s' => rw [m] at p; exact fun G2 H2 α2 β2 g R2 => q a s' G2 H2 α2 β2 g R2 (n.up g) (Post.up p g)
  | er c s' => rw [m] at p; exact p
  | no => rw [m] at p; exact p
theorem Sw.sb (h : Sw X C W T e c) : Sb X C W T e c := .mk fun δ σ G H α β r s Q R n p => fun pins sh I => h.run δ σ G H α β r s Q R n p _ pins sh I
end
end Fb

/-! Rc: the rules of expressions: names, constants, operators, comparisons, truth, items, displays. -/
namespace Fb
open PySem PySem.Spec PyProof.Rows L2 Evl
/-! ### reading -/
section
variable {K : PySem.W.Frag} {C : Addr} {G H G2 H2 : Hp} {α β α2 β2 : List Addr} {s : Sto} {a : A} {v : V}
theorem rd_nl {x : PyData} (e : rd s a = .d x) (hx : ∀ ds, x ≠ .list ds) : a = .d x := by
  cases a with
  | ref n =>
    rw [rd] at e
    split at e
    · rename_i o _
      cases o <;> simp only [rdO] at e <;> cases e
      exact absurd rfl (hx _)
    · cases e
  | loc n =>
    rw [rd] at e
    split at e
    · rename_i o _
      cases o <;> simp only [rdO] at e <;> cases e
      exact absurd rfl (hx _)
    · cases e
  | _ => exact e
theorem rd_int {i : Int} (e : rd s a = .d (.int i)) : a = .d (.int i) := rd_nl e (fun _ z => nomatch z)
theorem rd_str {i : Str} (e : rd s a = .d (.str i)) : a = .d (.str i) := rd_nl e (fun _ z => nomatch z)
theorem rd_bool {i : Bool} (e : rd s a = .d (.bool i)) : a = .d (.bool i) := rd_nl e (fun _ z => nomatch z)
theorem rd_none (e : rd s a = .d .none) : a = .d .none := rd_nl e (fun _ z => nomatch z)
theorem rd_tupD {ds : List PyData} (e : rd s a = .d (.tuple ds)) : a = .d (.tuple ds) := rd_nl e (fun _ z => nomatch z)
theorem rd_self {b : A} (e : rd s a = b) (h1 : ∀ x, b ≠ .d x) (h2 : ∀ k, b ≠ .dT k) (h3 : ∀ k, b ≠ .dK k) : a = b := by
  cases a with
  | ref n =>
    rw [rd] at e
    split at e
    · rename_i o _
      cases o <;> simp only [rdO] at e
      · exact absurd e.symm (h1 _)
      · exact absurd e.symm (h2 _)
      · exact absurd e.symm (h3 _)
      · exact e
    · exact e
  | loc n =>
    rw [rd] at e
    split at e
    · rename_i o _
      cases o <;> simp only [rdO] at e
      · exact absurd e.symm (h1 _)
      · exact absurd e.symm (h2 _)
      · exact absurd e.symm (h3 _)
      · exact e
    · exact e
  | _ => exact e
theorem rd_lstA {xs : List A} (e : rd s a = .lst xs) : a = .lst xs := rd_self e (fun _ z => nomatch z) (fun _ z => nomatch z) (fun _ z => nomatch z)
theorem rd_tupA {xs : List A} (e : rd s a = .tup xs) : a = .tup xs := rd_self e (fun _ z => nomatch z) (fun _ z => nomatch z) (fun _ z => nomatch z)
theorem rd_sc {xs : List Int} (e : rd s a = .sc xs) : a = .sc xs := rd_self e (fun _ z => nomatch z) (fun _ z => nomatch z) (fun _ z => nomatch z)
/-- the object that is read -/
theorem rd_ob (R : Rl K C δ G H α β s) (h : Ad K G α β a v) : rd s a = a ∨ ∃ p o, v = .ref p ∧ ObR K C G H α p o ∧ rd s a = rdO a o ∧ p ∈ α ++ β ∧ G p = none := by
  cases a with
  | ref n =>
    rw [rd]
    cases q : s.P[n]? with
    | none => exact .inl rfl
    | some o =>
      obtain ⟨p, h1, h2⟩ := R.P n o q
      obtain ⟨p', h3, h4⟩ := h
      rw [h1] at h3
      cases h3
      have hm : p ∈ α ++ β := List.mem_append_left _ (List.mem_of_getElem? h1)
      exact .inr ⟨p, o, h4, h2, rfl, hm, R.no p hm⟩
  | loc n =>
    rw [rd]
    cases q : s.S[n]? with
    | none => exact .inl rfl
    | some o =>
      obtain ⟨p, h1, h2⟩ := R.S n o q
      obtain ⟨p', h3, h4⟩ := h
      rw [h1] at h3
      cases h3
      have hm : p ∈ α ++ β := List.mem_append_right _ (List.mem_of_getElem? h1)
      exact .inr ⟨p, o, h4, h2, rfl, hm, R.no p hm⟩
  | _ => exact .inl rfl
theorem rd_list (R : Rl K C δ G H α β s) (h : Ad K G α β a v) {ds : List PyData} (e : rd s a = .d (.list ds)) : ∃ p vs, v = .ref p ∧ Rd H p (.lst vs) ∧ DpAll K G vs ds := by
  rcases rd_ob R h with q | ⟨p, o, h1, h2, h3, _, _⟩
  · rw [q] at e
    subst e
    cases (show Dp K G v (.list ds) from h) with
    | lst h1 h2 => exact ⟨_, _, rfl, ex_rd R.s h1, h2⟩
  · rw [e] at h3
    cases o with
    | lst ds' =>
      simp only [rdO] at h3
      cases h3
      obtain ⟨vs, h4, h5⟩ := h2
      exact ⟨p, vs, h1, .inl h4, h5⟩
    | dT _ => cases h3
    | dK _ => cases h3
    | ins _ =>
      simp only [rdO] at h3
      subst h3
      cases (show Dp K G v (.list ds) from h) with
      | lst q1 q2 => exact ⟨_, _, rfl, ex_rd R.s q1, q2⟩
theorem rd_dT (R : Rl K C δ G H α β s) (h : Ad K G α β a v) {kvs : List (List Key × PyData)} (e : rd s a = .dT kvs) : ∃ p ws, v = .ref p ∧ Rd H p (.dT ws) ∧ PrD K G ws kvs := by
  rcases rd_ob R h with q | ⟨p, o, h1, h2, h3, _, _⟩
  · rw [q] at e
    subst e
    obtain ⟨p, ws, h1, h2, h3⟩ := (show Ai K G α (.dT kvs) v from h)
    exact ⟨p, ws, h1, ex_rd R.s h2, h3⟩
  · rw [e] at h3
    cases o with
    | dT kvs' =>
      simp only [rdO] at h3
      cases h3
      obtain ⟨vs, h4, h5⟩ := h2
      exact ⟨p, vs, h1, .inl h4, h5⟩
    | lst _ => cases h3
    | dK _ => cases h3
    | ins _ =>
      simp only [rdO] at h3
      subst h3
      obtain ⟨p, ws, h1, h2, h3⟩ := (show Ai K G α (.dT kvs) v from h)
      exact ⟨p, ws, h1, ex_rd R.s h2, h3⟩
theorem rd_dK (R : Rl K C δ G H α β s) (h : Ad K G α β a v) {kvs : List (Str × A)} (e : rd s a = .dK kvs) : ∃ p ws, v = .ref p ∧ Rd H p (.dK ws) ∧ AiK K G α kvs ws := by
  rcases rd_ob R h with q | ⟨p, o, h1, h2, h3, _, _⟩
  · rw [q] at e
    subst e
    obtain ⟨p, ws, h1, h2, h3⟩ := (show Ai K G α (.dK kvs) v from h)
    exact ⟨p, ws, h1, ex_rd R.s h2, h3⟩
  · rw [e] at h3
    cases o with
    | dK kvs' =>
      simp only [rdO] at h3
      cases h3
      obtain ⟨vs, h4, h5⟩ := h2
      exact ⟨p, vs, h1, .inl h4, h5⟩
    | lst _ => cases h3
    | dT _ => cases h3
    | ins _ =>
      simp only [rdO] at h3
      subst h3
      obtain ⟨p, ws, h1, h2, h3⟩ := (show Ai K G α (.dK kvs) v from h)
      exact ⟨p, ws, h1, ex_rd R.s h2, h3⟩
/-- as a datum of the whole heap -/
theorem rd_dp (R : Rl K C δ G H α β s) (h : Ad K G α β a v) {x : PyData} (e : rd s a = .d x) : Dp K H v x := by
  cases x with
  | list ds =>
    obtain ⟨p, vs, rfl, h1, h2⟩ := rd_list R h e
    exact .lst h1 (dpAll_up R.s _ _ h2)
  | _ =>
    have := rd_nl e (fun _ z => nomatch z)
    subst this
    exact dp_up R.s _ _ h
theorem ad_int {i : Int} (h : Ad K G α β (.d (.int i)) v) : v = .int i := by cases (show Dp K G v (.int i) from h); rfl
theorem ad_str {i : Str} (h : Ad K G α β (.d (.str i)) v) : v = .str i := by cases (show Dp K G v (.str i) from h); rfl
theorem ad_bool {i : Bool} (h : Ad K G α β (.d (.bool i)) v) : v = .bl i := by cases (show Dp K G v (.bool i) from h); rfl
theorem ad_none (h : Ad K G α β (.d .none) v) : v = .non := by cases (show Dp K G v .none from h); rfl
end
/-- facts of the place -/
structure Hx (X : Cx) : Prop where
  nd : X.N.Nodup
  hu : X.A.units + 70 < cLine
section
variable {X : Cx} {C : Addr} {W : WX} {T : Tab} {a b c e o : Expr} {es rest : List Expr} {ca cb cc ce : E} {cs : Es} {pos p : Pos}
/-! ### names, constants -/
theorem sx_slot (i : Nat) {x : Str} (hN : X.N[i]? = some x := by rfl) (hv : Vis X.env.scope x := by first | exact Or.inl rfl | exact Or.inr (Or.inl rfl) | exact Or.inr (Or.inr rfl))
    (hd : (x == ("__debug__" : Str)) = false := by decide) (hcd : (x == ("__classdict__" : Str)) = false := by decide) : Sx X C W T (.Name x pos) (.slot i) := .mk fun δ σ G H α β r s Q R n p => by
  simp only [ev] at p
  split at p
  · rename_i a h
    obtain ⟨v, h1, h2⟩ := n.at_ i a h
    exact wE_of (pe_var hN hv hd hcd) ⟨v, h1, p G H α β Gw.refl R v h2⟩
  · exact p.elim
theorem sx_lit {v : V} {x : PyData} (h : PE X e (tC v)) (hd : ∀ H, Dp X.K H v x) : Sx X C W T e (.lit x) := .mk fun δ σ G H α β r s Q R n p => wE_of h (p G H α β Gw.refl R v (hd G))
theorem sx_int {i : Int} {j : Nat} : Sx X C W T (.Constant (.int i) j pos) (.lit (.int i)) := sx_lit pe_int fun _ => .int i
theorem sx_bool {i : Bool} {j : Nat} : Sx X C W T (.Constant (.bool i) j pos) (.lit (.bool i)) := sx_lit pe_bl fun _ => .bl i
theorem sx_none {j : Nat} : Sx X C W T (.Constant .none j pos) (.lit .none) := sx_lit pe_non fun _ => .non
theorem sx_str {i : Str} {j : Nat} : Sx X C W T (.Constant (.str i) j pos) (.lit (.str i)) := sx_lit pe_str fun _ => .str i
/-- a constant of the module -/
theorem sx_glob {x : Str} {y : PyData} {v : V} {u : Value} (hm : X.mg x = some u) (rv : RelV v u) (hd : ∀ H, Dp X.K H v y) (hT : T.gl x = some (.d y)) (hg : Gl X x := by rfl) (hdb : (x == ("__debug__" : Str)) = false := by decide) : Sx X C W T (.Name x pos) (.glob x) := .mk fun δ σ G H α β r s Q R n p => by
  rw [ev, hT] at p
  exact wE_of (pe_glob hg hm rv hdb) (p G H α β Gw.refl R v (hd G))
/-! ### arguments -/
theorem sa_nil : Sa X C W T [] .nil := .mk fun δ σ G H α β r s Q R n p => wA_of L2.pa_nil (p G H α β Gw.refl R [] rfl)
theorem sa_cons (ha : Sx X C W T e ce) (hr : Sa X C W T es cs) (hs : starEach (e :: es) X.env = (false, eval e X.env) :: starEach es X.env := by rfl) : Sa X C W T (e :: es) (.cons ce cs) := .mk fun δ σ G H α β r s Q R n p => by
  rw [evs] at p
  refine wA_of (L2.pa_cons pe_w pa_w hs) (ha.use R n p fun a s1 v G1 H1 α1 β1 g1 R1 n1 d1 p1 => hr.use R1 n1 p1 fun as s2 vs G2 H2 α2 β2 g2 R2 n2 d2 p2 => ?_)
  exact p2 G2 H2 α2 β2 Gw.refl R2 (v :: vs) ⟨v, vs, rfl, d1.up g2, d2⟩
/-! ### operators -/
/-- an operator by the values that are read -/
theorem sx_bin {op : Operator} {bo : Bop} {f : R2} (ho : OpR X (binaryOp op) f) (ha : Sx X C W T a ca) (hb : Sx X C W T b cb)
    (hr : ∀ δ G H α β s x y v u z (Q : VK), Rl X.K C δ G H α β s → Ad X.K G α β x v → Ad X.K G α β y u → binA s bo x y = some z → (∀ w G2 H2, Gr G H G2 H2 → Ad X.K G2 α β z w → Q w H2) → f v u H Q) : Sx X C W T (.BinOp a op b pos) (.bin bo ca cb) := .mk fun δ σ G H α β r s Q R n p => by
  rw [ev] at p
  refine wE_of (pe_op ho pe_w pe_w) (ha.use R n p fun x s1 v G1 H1 α1 β1 g1 R1 n1 d1 p1 => hb.use R1 n1 p1 fun y s2 u G2 H2 α2 β2 g2 R2 n2 d2 p2 => ?_)
  obtain ⟨z, hz, p3⟩ := Post.of p2
  exact hr δ G2 H2 α2 β2 s2 x y v u z Q R2 (d1.up g2) d2 hz fun w G3 H3 k d3 => p3 G3 H3 α2 β2 (Gw.of k.g) (R2.gr k) w d3
theorem bin_ints {s : Sto} {bo : Bop} {x y z : A} (h : binA s bo x y = some z) (hn : bo ≠ .add) : ∃ i j w, x = .d (.int i) ∧ y = .d (.int j) ∧ intOp bo i j = some w ∧ z = .d w := by
  unfold binA at h
  split at h
  · rename_i a b e1 e2
    cases hb : binD bo a b with
    | none => rw [hb] at h; cases h
    | some w =>
      rw [hb] at h
      cases h
      cases a <;> cases b <;> simp only [binD] at hb <;> try cases hb
      · exact ⟨_, _, _, rd_int e1, rd_int e2, hb, rfl⟩
      all_goals (cases bo <;> first | exact absurd rfl hn | cases hb)
  · cases h
theorem sx_sub (ha : Sx X C W T a ca) (hb : Sx X C W T b cb) : Sx X C W T (.BinOp a .Sub b pos) (.bin .sub ca cb) := sx_bin op_sub ha hb fun δ G H α β s x y v u z Q R d1 d2 h k => by
  obtain ⟨i, j, w, rfl, rfl, h1, rfl⟩ := bin_ints h (fun z => nomatch z)
  cases h1
  exact ⟨i, j, ad_int d1, ad_int d2, k _ G H (Gr.refl R.s) (Dp.int _)⟩
theorem sx_mul (ha : Sx X C W T a ca) (hb : Sx X C W T b cb) : Sx X C W T (.BinOp a .Mult b pos) (.bin .mul ca cb) := sx_bin op_mul ha hb fun δ G H α β s x y v u z Q R d1 d2 h k => by
  obtain ⟨i, j, w, rfl, rfl, h1, rfl⟩ := bin_ints h (fun z => nomatch z)
  simp only [intOp] at h1
  split at h1
  · rename_i hc
    cases h1
    exact ⟨i, j, ad_int d1, ad_int d2, .inr hc, k _ G H (Gr.refl R.s) (Dp.int _)⟩
  · split at h1
    · rename_i hc
      cases h1
      exact ⟨i, j, ad_int d1, ad_int d2, .inl hc, k _ G H (Gr.refl R.s) (Dp.int _)⟩
    · cases h1
theorem sx_fdiv (ha : Sx X C W T a ca) (hb : Sx X C W T b cb) : Sx X C W T (.BinOp a .FloorDiv b pos) (.bin .fdiv ca cb) := sx_bin op_fdiv ha hb fun δ G H α β s x y v u z Q R d1 d2 h k => by
  obtain ⟨i, j, w, rfl, rfl, h1, rfl⟩ := bin_ints h (fun z => nomatch z)
  simp only [intOp] at h1
  split at h1
  · rename_i hc
    cases h1
    exact ⟨i, j, ad_int d1, ad_int d2, hc, k _ G H (Gr.refl R.s) (Dp.int _)⟩
  · cases h1
theorem sx_mod (ha : Sx X C W T a ca) (hb : Sx X C W T b cb) : Sx X C W T (.BinOp a .Mod b pos) (.bin .mod ca cb) := sx_bin op_mod ha hb fun δ G H α β s x y v u z Q R d1 d2 h k => by
  obtain ⟨i, j, w, rfl, rfl, h1, rfl⟩ := bin_ints h (fun z => nomatch z)
  simp only [intOp] at h1
  split at h1
  · rename_i hc
    cases h1
    exact ⟨i, j, ad_int d1, ad_int d2, hc, k _ G H (Gr.refl R.s) (Dp.int _)⟩
  · cases h1
theorem sx_pow (ha : Sx X C W T a ca) (hb : Sx X C W T b cb) : Sx X C W T (.BinOp a .Pow b pos) (.bin .pow ca cb) := sx_bin op_pow ha hb fun δ G H α β s x y v u z Q R d1 d2 h k => by
  obtain ⟨i, j, w, rfl, rfl, h1, rfl⟩ := bin_ints h (fun z => nomatch z)
  simp only [intOp] at h1
  split at h1
  · rename_i hc
    cases h1
    exact ⟨i, j, ad_int d1, ad_int d2, hc, k _ G H (Gr.refl R.s) (Dp.int _)⟩
  · cases h1
theorem sx_add (ha : Sx X C W T a ca) (hb : Sx X C W T b cb) : Sx X C W T (.BinOp a .Add b pos) (.bin .add ca cb) := sx_bin (op_add.or (op_catR.or (op_catA.or op_add_str))) ha hb fun δ G H α β s x y v u z Q R d1 d2 h k => by
  unfold binA at h
  split at h
  · rename_i p q e1 e2
    cases hb : binD .add p q with
    | none => rw [hb] at h; cases h
    | some w =>
      rw [hb] at h
      cases h
      cases p <;> cases q <;> simp only [binD] at hb <;> try cases hb
      · rename_i i j
        have := rd_int e1; subst this
        have := rd_int e2; subst this
        exact .inl ⟨i, j, ad_int d1, ad_int d2, k _ G H (Gr.refl R.s) (Dp.int _)⟩
      · rename_i i j
        split at hb
        · rename_i hl
          cases hb
          have := rd_str e1; subst this
          have := rd_str e2; subst this
          exact .inr (.inr (.inr ⟨i, j, ad_str d1, ad_str d2, sz_of hl, k _ G H (Gr.refl R.s) (Dp.str _)⟩))
        · cases hb
      · rename_i xs ys
        split at hb
        · rename_i hl
          cases hb
          obtain ⟨p1, vs, rfl, h1, h2⟩ := rd_list R d1 e1
          obtain ⟨p2, us, rfl, h3, h4⟩ := rd_list R d2 e2
          have l1 := DpAll.len h2
          have l2 := DpAll.len h4
          exact .inr (.inl ⟨p1, p2, vs, us, rfl, rfl, h1, h3, sz_of (by omega), fun p hp => k _ _ _ (Gr.new R.s hp) (Dp.lst (.inl upd_same) (dpAll_up (Ex.new (fresh_back R.s hp)) _ _ (DpAll.app h2 h4)))⟩)
        · cases hb
      · rename_i xs ys
        split at hb
        · rename_i hl
          cases hb
          have := rd_tupD e1; subst this
          have := rd_tupD e2; subst this
          cases (show Dp X.K G v (.tuple xs) from d1) with
          | tup s1 t1 =>
            cases (show Dp X.K G u (.tuple ys) from d2) with
            | tup s2 t2 =>
              have l1 := DpAll.len t1
              have l2 := DpAll.len t2
              refine .inr (.inr (.inl ⟨_, _, _, _, rfl, rfl, ex_t R.s s1.sq, ex_t R.s s2.sq, sz_of (by omega), fun hx => k _ G H (Gr.refl R.s) ?_, fun _ hy => k _ G H (Gr.refl R.s) ?_, fun _ _ p hp => k _ _ _ (Gr.new R.s hp) (Dp.tup (.inl upd_same) (dpAll_up (Ex.new (fresh_back R.s hp)) _ _ (DpAll.app t1 t2)))⟩))
              · subst hx
                cases t1
                exact Dp.tup s2 t2
              · subst hy
                cases t2
                rw [List.append_nil]
                exact Dp.tup s1 t1
        · cases hb
  · cases h
theorem sx_neg (ha : Sx X C W T a ca) : Sx X C W T (.UnaryOp .USub a pos) (.neg ca) := .mk fun δ σ G H α β r s Q R n p => by
  rw [ev] at p
  refine wE_of (pe_un un_neg pe_w) (ha.use R n p fun x s1 v G1 H1 α1 β1 g1 R1 n1 d1 p1 => ?_)
  split at p1
  · rename_i i
    exact ⟨i, ad_int d1, p1 G1 H1 α1 β1 Gw.refl R1 _ (Dp.int _)⟩
  · exact p1.elim
end
end Fb

/-! Rd: comparisons, truth, and, or, not. -/
namespace Fb
open PySem PySem.Spec PyProof.Rows L2 Evl
theorem Res.bind_assoc {β γ δ : Type} (m : Res β) (k : β → Sto → Res γ) (l : γ → Sto → Res δ) : (m.bind k).bind l = m.bind fun x s => (k x s).bind l := by cases m <;> rfl
section
variable {X : Cx} {C : Addr} {W : WX} {T : Tab} {a b c e o : Expr} {es rest : List Expr} {ca cb cc ce : E} {cs : Es} {pos p : Pos}
theorem evT_cmp (o : Cop) (ca cb : E) (r : Rh) (s : Sto) : evT T (.cmp o ca cb) r s = (ev T ca r s).bind fun x s => (ev T cb r s).bind fun y s => Res.of (cmpA s o x y) s := by
  unfold evT
  rw [ev, Res.bind_assoc]
  congr 1
  funext x s
  rw [Res.bind_assoc]
  congr 1
  funext y s
  cases cmpA s o x y <;> rfl
theorem sx_cmp {op : CmpOp} {co : Cop} {f : R2} (ho : OpR X (compareOp op) f) (ha : Sx X C W T a ca) (hb : Sx X C W T b cb)
    (hr : ∀ δ G H α β s x y v u q (Q : VK), Rl X.K C δ G H α β s → Ad X.K G α β x v → Ad X.K G α β y u → cmpA s co x y = some q → Q (.bl q) H → f v u H Q) (hm : behindInMarks op b = false) : Sx X C W T (.Compare a [op] [b] pos) (.cmp co ca cb) := .mk fun δ σ G H α β r s Q R n p => by
  rw [ev] at p
  refine wE_of (pe_cmpR ho pe_w pe_w hm) (ha.use R n p fun x s1 v G1 H1 α1 β1 g1 R1 n1 d1 p1 => hb.use R1 n1 p1 fun y s2 u G2 H2 α2 β2 g2 R2 n2 d2 p2 => ?_)
  obtain ⟨z, hz, p3⟩ := Post.of p2
  cases hq : cmpA s2 co x y with
  | none => rw [hq] at hz; cases hz
  | some q =>
    rw [hq] at hz
    cases hz
    exact hr δ G2 H2 α2 β2 s2 x y v u q Q R2 (d1.up g2) d2 hq (p3 G2 H2 α2 β2 Gw.refl R2 _ (Dp.bl q))
theorem sb_cmp {op : CmpOp} {co : Cop} {f : R2} (ho : OpR X (compareOp op) f) (ha : Sx X C W T a ca) (hb : Sx X C W T b cb)
    (hr : ∀ δ G H α β s x y v u q (Q : VK), Rl X.K C δ G H α β s → Ad X.K G α β x v → Ad X.K G α β y u → cmpA s co x y = some q → Q (.bl q) H → f v u H Q) (hm : behindInMarks op b = false) : Sb X C W T (.Compare a [op] [b] pos) (.cmp co ca cb) := .mk fun δ σ G H α β r s Q R n p => by
  rw [evT_cmp] at p
  refine wT_of (pt_cmpR ho pe_w pe_w hm) (ha.use R n p fun x s1 v G1 H1 α1 β1 g1 R1 n1 d1 p1 => hb.use R1 n1 p1 fun y s2 u G2 H2 α2 β2 g2 R2 n2 d2 p2 => ?_)
  obtain ⟨q, hq, p3⟩ := Post.of p2
  exact hr δ G2 H2 α2 β2 s2 x y v u q _ R2 (d1.up g2) d2 hq ⟨q, rfl, p3 G2 H2 α2 β2 Gw.refl R2⟩
/-- an operator tells what cmpA tells -/
def CmpR (X : Cx) (C : Addr) (co : Cop) (f : R2) : Prop := ∀ δ G H α β s x y v u q (Q : VK), Rl X.K C δ G H α β s → Ad X.K G α β x v → Ad X.K G α β y u → cmpA s co x y = some q → Q (.bl q) H → f v u H Q
theorem vint_dec (i j : Int) : decide (V.int i = V.int j) = decide (i = j) := by rw [Bool.eq_iff_iff]; simp
theorem vstr_dec (i j : Str) : decide (V.str i = V.str j) = decide (i = j) := by rw [Bool.eq_iff_iff]; simp
theorem vbl_dec (i j : Bool) : decide (V.bl i = V.bl j) = decide (i = j) := by rw [Bool.eq_iff_iff]; simp
theorem eqA_cases {K : PySem.W.Frag} {C : Addr} {G H : Hp} {α β : List Addr} {s : Sto} {x y : A} {v u : V} {q : Bool} (R : Rl K C δ G H α β s) (d1 : Ad K G α β x v) (d2 : Ad K G α β y u) (h : eqA s x y = some q) :
    (scal v u = true ∧ decide (v = u) = q) ∨ ∃ a b, L2.Dp K H v a ∧ L2.Dp K H u b ∧ SeqAt.shaped a = true ∧ SeqAt.shaped b = true ∧ PyData.eqv a b = q := by
  unfold eqA at h
  split at h
  · rename_i a b e1 e2
    have gen : SeqAt.shaped a = true → SeqAt.shaped b = true → some (PyData.eqv a b) = some q → (scal v u = true ∧ decide (v = u) = q) ∨ ∃ a b, L2.Dp K H v a ∧ L2.Dp K H u b ∧ SeqAt.shaped a = true ∧ SeqAt.shaped b = true ∧ PyData.eqv a b = q := fun h1 h2 h3 => by
      cases h3
      exact .inr ⟨a, b, Dp.l2 _ _ (rd_dp R d1 e1), Dp.l2 _ _ (rd_dp R d2 e2), h1, h2, rfl⟩
    unfold eqD at h
    split at h
    · have := rd_int e1; subst this
      have := rd_int e2; subst this
      cases h
      rw [ad_int d1, ad_int d2]
      exact .inl ⟨rfl, vint_dec _ _⟩
    · have := rd_str e1; subst this
      have := rd_str e2; subst this
      cases h
      rw [ad_str d1, ad_str d2]
      exact .inl ⟨rfl, vstr_dec _ _⟩
    · have := rd_bool e1; subst this
      have := rd_bool e2; subst this
      cases h
      rw [ad_bool d1, ad_bool d2]
      exact .inl ⟨rfl, vbl_dec _ _⟩
    · split at h
      · rename_i hs
        exact gen hs.1 hs.2 h
      · cases h
  · cases h
theorem cr_eq : CmpR X C .eq (fun x y H Q => rEq x y H Q ∨ rEqD X.K x y H Q) := fun δ G H α β s x y v u q Q R d1 d2 h k => by
  rcases eqA_cases R d1 d2 h with ⟨h1, h2⟩ | ⟨a, b, h1, h2, h3, h4, h5⟩
  · exact .inl ⟨h1, by rw [h2]; exact k⟩
  · exact .inr ⟨a, b, h1, h2, h3, h4, by rw [h5]; exact k⟩
theorem cr_ne : CmpR X C .ne (fun x y H Q => rNe x y H Q ∨ rNeD X.K x y H Q) := fun δ G H α β s x y v u q Q R d1 d2 h k => by
  have h' : (eqA s x y).map (! ·) = some q := h
  cases he : eqA s x y with
  | none => rw [he] at h'; cases h'
  | some p =>
    rw [he] at h'
    cases h'
    rcases eqA_cases R d1 d2 he with ⟨h1, h2⟩ | ⟨a, b, h1, h2, h3, h4, h5⟩
    · exact .inl ⟨h1, by rw [h2]; exact k⟩
    · exact .inr ⟨a, b, h1, h2, h3, h4, by rw [h5]; exact k⟩
theorem sx_eq (h : Hx X) (ha : Sx X C W T a ca) (hb : Sx X C W T b cb) : Sx X C W T (.Compare a [.Eq] [b] pos) (.cmp .eq ca cb) := sx_cmp (op_eq.or (op_eqD (by have := h.hu; omega))) ha hb cr_eq (nomark _)
theorem sb_eq (h : Hx X) (ha : Sx X C W T a ca) (hb : Sx X C W T b cb) : Sb X C W T (.Compare a [.Eq] [b] pos) (.cmp .eq ca cb) := sb_cmp (op_eq.or (op_eqD (by have := h.hu; omega))) ha hb cr_eq (nomark _)
theorem sx_ne (h : Hx X) (ha : Sx X C W T a ca) (hb : Sx X C W T b cb) : Sx X C W T (.Compare a [.NotEq] [b] pos) (.cmp .ne ca cb) := sx_cmp (op_ne.or (op_neD (by have := h.hu; omega))) ha hb cr_ne (nomark _)
theorem sb_ne (h : Hx X) (ha : Sx X C W T a ca) (hb : Sx X C W T b cb) : Sb X C W T (.Compare a [.NotEq] [b] pos) (.cmp .ne ca cb) := sb_cmp (op_ne.or (op_neD (by have := h.hu; omega))) ha hb cr_ne (nomark _)
/-! #### <, <=, >, >= -/
def rLtD (K : PySem.W.Frag) : R2 := fun x y H Q => ∃ d e, L2.Dp K H x d ∧ L2.Dp K H y e ∧ PySem.W.alike d e = true ∧ d ≠ .none ∧ d.depth ≤ 8 ∧ Q (.bl (ltD d e)) H
theorem op_ltD (h : Hx X) : OpR X (compareOp .Lt) (rLtD X.K) := by
  intro pins s σ H x y v u Q I rx ry h'
  obtain ⟨d, e, hd, he, al, hn, dp, q⟩ := h'
  obtain ⟨as, r1⟩ := L2.Dp.reads I d x v hd rx
  obtain ⟨bs, r2⟩ := L2.Dp.reads I e y u he ry
  have := h.hu
  exact PySem.W.lt_data r1 r2 al hn (by have := Nat.min_le_left d.depth e.depth; omega) ⟨.bl _, H, I, rfl, q⟩
theorem cr_lt : CmpR X C .lt (fun x y H Q => rI0 (fun i j => .bl (decide (i < j))) x y H Q ∨ rLtD X.K x y H Q) := fun δ G H α β s x y v u q Q R d1 d2 h k => by
  have h' : ltA s x y = some q := h
  unfold ltA at h'
  split at h'
  · rename_i i j e1 e2
    have := rd_int e1; subst this
    have := rd_int e2; subst this
    cases h'
    exact .inl ⟨_, _, ad_int d1, ad_int d2, k⟩
  · rename_i xs ys e1 e2
    split at h'
    · rename_i hl
      unfold ltOk at hl
      rw [Bool.and_eq_true, decide_eq_true_iff] at hl
      cases h'
      exact .inr ⟨_, _, Dp.l2 _ _ (rd_dp R d1 e1), Dp.l2 _ _ (rd_dp R d2 e2), hl.1, (fun z => nomatch z), hl.2, k⟩
    · cases h'
  · cases h'
theorem sx_lt (h : Hx X) (ha : Sx X C W T a ca) (hb : Sx X C W T b cb) : Sx X C W T (.Compare a [.Lt] [b] pos) (.cmp .lt ca cb) := sx_cmp (op_lt.or (op_ltD h)) ha hb cr_lt (nomark _)
theorem sb_lt (h : Hx X) (ha : Sx X C W T a ca) (hb : Sx X C W T b cb) : Sb X C W T (.Compare a [.Lt] [b] pos) (.cmp .lt ca cb) := sb_cmp (op_lt.or (op_ltD h)) ha hb cr_lt (nomark _)
theorem cr_le : CmpR X C .le (rI0 fun i j => .bl (decide (i ≤ j))) := fun δ G H α β s x y v u q Q R d1 d2 h k => by
  simp only [cmpA] at h
  split at h
  · rename_i i j e1 e2
    have := rd_int e1; subst this
    have := rd_int e2; subst this
    cases h
    exact ⟨_, _, ad_int d1, ad_int d2, k⟩
  · cases h
theorem cr_gt : CmpR X C .gt (rI0 fun i j => .bl (decide (j < i))) := fun δ G H α β s x y v u q Q R d1 d2 h k => by
  simp only [cmpA] at h
  split at h
  · rename_i i j e1 e2
    have := rd_int e1; subst this
    have := rd_int e2; subst this
    cases h
    exact ⟨_, _, ad_int d1, ad_int d2, k⟩
  · cases h
theorem cr_ge : CmpR X C .ge (rI0 fun i j => .bl (decide (j ≤ i))) := fun δ G H α β s x y v u q Q R d1 d2 h k => by
  simp only [cmpA] at h
  split at h
  · rename_i i j e1 e2
    have := rd_int e1; subst this
    have := rd_int e2; subst this
    cases h
    exact ⟨_, _, ad_int d1, ad_int d2, k⟩
  · cases h
theorem sx_le (ha : Sx X C W T a ca) (hb : Sx X C W T b cb) : Sx X C W T (.Compare a [.LtE] [b] pos) (.cmp .le ca cb) := sx_cmp op_le ha hb cr_le (nomark _)
theorem sb_le (ha : Sx X C W T a ca) (hb : Sx X C W T b cb) : Sb X C W T (.Compare a [.LtE] [b] pos) (.cmp .le ca cb) := sb_cmp op_le ha hb cr_le (nomark _)
theorem sx_gt (ha : Sx X C W T a ca) (hb : Sx X C W T b cb) : Sx X C W T (.Compare a [.Gt] [b] pos) (.cmp .gt ca cb) := sx_cmp op_gt ha hb cr_gt (nomark _)
theorem sb_gt (ha : Sx X C W T a ca) (hb : Sx X C W T b cb) : Sb X C W T (.Compare a [.Gt] [b] pos) (.cmp .gt ca cb) := sb_cmp op_gt ha hb cr_gt (nomark _)
theorem sx_ge (ha : Sx X C W T a ca) (hb : Sx X C W T b cb) : Sx X C W T (.Compare a [.GtE] [b] pos) (.cmp .ge ca cb) := sx_cmp op_ge ha hb cr_ge (nomark _)
theorem sb_ge (ha : Sx X C W T a ca) (hb : Sx X C W T b cb) : Sb X C W T (.Compare a [.GtE] [b] pos) (.cmp .ge ca cb) := sb_cmp op_ge ha hb cr_ge (nomark _)
/-! #### in, not in -/
def rInTD (K : PySem.W.Frag) (neg : Bool) : R2 := fun x y H Q => ∃ d ds, L2.Dp K H x d ∧ L2.Dp K H y (.tuple ds) ∧ SeqAt.shaped d = true ∧ SeqAt.shaped (.tuple ds) = true ∧ Q (.bl (if neg then !(ds.any fun z => PyData.eqv z d) else ds.any fun z => PyData.eqv z d)) H
theorem op_inTD (h : Hx X) : OpR X (compareOp .In) (rInTD X.K false) := by
  intro pins s σ H x y v u Q I rx ry h'
  obtain ⟨d, ds, hd, he, sd, se, q⟩ := h'
  obtain ⟨as, r1⟩ := L2.Dp.reads I d x v hd rx
  obtain ⟨bs, r2⟩ := L2.Dp.reads I (.tuple ds) y u he ry
  have := h.hu
  exact SeqAt.in_tuple_reads r2 r1 (by simpa [PyData.canLay0] using SeqAt.canLay_of_shaped se) (SeqAt.canLay_of_shaped sd) (room_in_shaped sd (by omega)) ⟨.bl _, H, I, rfl, q⟩
theorem op_ninTD (h : Hx X) : OpR X (compareOp .NotIn) (rInTD X.K true) := by
  intro pins s σ H x y v u Q I rx ry h'
  obtain ⟨d, ds, hd, he, sd, se, q⟩ := h'
  obtain ⟨as, r1⟩ := L2.Dp.reads I d x v hd rx
  obtain ⟨bs, r2⟩ := L2.Dp.reads I (.tuple ds) y u he ry
  have := h.hu
  exact SeqAt.notIn_tuple_reads r2 r1 (by simpa [PyData.canLay0] using SeqAt.canLay_of_shaped se) (SeqAt.canLay_of_shaped sd) (room_in_shaped sd (by omega)) ⟨.bl _, H, I, rfl, q⟩
theorem keyL_eq : ∀ {ds : List PyData} {k : List Key}, keyL ds = some k → ds = k.map kD
  | [], k, h => by cases h; rfl
  | x :: r, k, h => by
    simp only [keyL] at h
    split at h
    · rename_i k1 k2 h1 h2
      cases h
      rw [keyL_eq h2, List.map_cons]
      cases x <;> simp only [keyK] at h1 <;> cases h1 <;> rfl
    · cases h
theorem keyA_eq {x : A} {k : List Key} (h : keyA x = some k) : x = .d (keyD k) ∧ kInt k = true := by
  unfold keyA at h
  split at h
  · rename_i i r
    cases hr : keyL r with
    | none => rw [hr] at h; cases h
    | some k' =>
      rw [hr] at h
      cases h
      rw [keyL_eq hr]
      exact ⟨rfl, rfl⟩
  · cases h
theorem dget_rl {K : PySem.W.Frag} {C : Addr} {G H : Hp} {α β : List Addr} {s : Sto} {p : Addr} {ws : List (List Key × V)} {y : A} {k : List Key} {u : V} (R : Rl K C δ G H α β s) (hd : Rd H p (.dT ws)) (hk : keyA y = some k) (d2 : Ad K G α β y u) : DGet H p u (valV ws k) := by
  obtain ⟨rfl, hi⟩ := keyA_eq hk
  obtain ⟨b, rfl, hb⟩ := key_tr hi (show Dp K G u (keyD k) from d2)
  exact .inr ⟨ws, k, b, hd, rfl, R.s _ _ hb, rfl⟩
/-- in, or not in, what is no dict -/
theorem inA_cases {K : PySem.W.Frag} {C : Addr} {G H : Hp} {α β : List Addr} {s : Sto} {x y : A} {v u : V} {q : Bool} (R : Rl K C δ G H α β s) (d1 : Ad K G α β x v) (d2 : Ad K G α β y u) (h : inA s x y = some q) :
    (∃ d ds, L2.Dp K H v d ∧ L2.Dp K H u (.list ds) ∧ SeqAt.shaped d = true ∧ SeqAt.shaped (.list ds) = true ∧ (ds.any fun z => PyData.eqv z d) = q) ∨
    (∃ d ds, L2.Dp K H v d ∧ L2.Dp K H u (.tuple ds) ∧ SeqAt.shaped d = true ∧ SeqAt.shaped (.tuple ds) = true ∧ (ds.any fun z => PyData.eqv z d) = q) ∨
    (∃ p xs, u = .ref p ∧ SqT K H p xs ∧ flatV v = true ∧ xs.all flatV = true ∧ inV v xs = q) ∨
    (∃ c z, v = .str ⟨#[c]⟩ ∧ u = .str z ∧ decide (c ∈ z.cps.toList) = q) ∨
    (∃ p w, u = .ref p ∧ DGet H p v w ∧ w.isSome = q) := by
  unfold inA at h
  split at h
  · rename_i ys e2
    split at h
    · rename_i a e1
      split at h
      · rename_i hs
        cases h
        exact .inl ⟨_, _, Dp.l2 _ _ (rd_dp R d1 e1), Dp.l2 _ _ (rd_dp R d2 e2), hs.1, hs.2, rfl⟩
      · cases h
    · cases h
  · rename_i ys e2
    split at h
    · rename_i a e1
      split at h
      · rename_i ss hs
        have := rd_str e1; subst this
        have := rd_tupD e2; subst this
        cases h
        have e := strsOf_some hs
        subst e
        cases (show Dp K G u (.tuple (ss.map PyData.str)) from d2) with
        | tup s1 t1 =>
          have := strs_flat t1
          subst this
          rw [ad_str d1]
          exact .inr (.inr (.inl ⟨_, _, rfl, ex_t R.s s1.sq, rfl, flat_strs ss, inV_strs _ _⟩))
      · cases h
    · rename_i a _ e1
      split at h
      · rename_i hs
        cases h
        exact .inr (.inl ⟨_, _, Dp.l2 _ _ (rd_dp R d1 e1), Dp.l2 _ _ (rd_dp R d2 e2), hs.1, hs.2, rfl⟩)
      · cases h
    · cases h
  · rename_i z e2
    split at h
    · rename_i a e1
      have := rd_str e1; subst this
      have := rd_str e2; subst this
      split at h
      · rename_i c hc
        cases h
        rw [ad_str d1, ad_str d2]
        refine .inr (.inr (.inr (.inl ⟨c, z, ?_, rfl, rfl⟩)))
        obtain ⟨⟨l⟩⟩ := a
        have hc' : l = [c] := hc
        subst hc'
        rfl
      · cases h
    · cases h
  · rename_i kvs e2
    split at h
    · rename_i k hk
      cases h
      obtain ⟨p, ws, rfl, h1, h2⟩ := rd_dT R d2 e2
      refine .inr (.inr (.inr (.inr ⟨p, _, rfl, dget_rl R h1 hk d1, ?_⟩)))
      rcases prd_val h2 k with ⟨h3, h4⟩ | ⟨v', d, h3, h4, _⟩ <;> rw [h3, h4] <;> rfl
    · cases h
  · cases h
def rDIn (neg : Bool) : R2 := fun x y H Q => ∃ p w, y = .ref p ∧ DGet H p x w ∧ Q (.bl (if neg then !w.isSome else w.isSome)) H
theorem op_dIn (h : Hx X) : OpR X (compareOp .In) (rDIn false) := by
  intro pins s σ H x y v u Q I rx ry h'
  obtain ⟨p, w, rfl, g, q⟩ := h'
  obtain rfl : u = Value.ref p := ry
  have := h.hu
  exact d_in (by omega) I g rx fun s3 I3 => ⟨.bl w.isSome, H, I3, rfl, q⟩
theorem op_dNotIn (h : Hx X) : OpR X (compareOp .NotIn) (rDIn true) := by
  intro pins s σ H x y v u Q I rx ry h'
  obtain ⟨p, w, rfl, g, q⟩ := h'
  obtain rfl : u = Value.ref p := ry
  have := h.hu
  exact d_notIn (by omega) I g rx fun s3 I3 => ⟨.bl (!w.isSome), H, I3, rfl, q⟩
def rInAll (K : PySem.W.Frag) : R2 := fun x y H Q => rInD K x y H Q ∨ rInTD K false x y H Q ∨ rIn K false x y H Q ∨ (∃ (c : Nat) (z : Str), x = .str ⟨#[c]⟩ ∧ y = .str z ∧ Q (.bl (decide (c ∈ z.cps.toList))) H) ∨ rDIn false x y H Q
def rNotInAll (K : PySem.W.Frag) : R2 := fun x y H Q => rNotInD K x y H Q ∨ rInTD K true x y H Q ∨ rIn K true x y H Q ∨ (∃ (c : Nat) (z : Str), x = .str ⟨#[c]⟩ ∧ y = .str z ∧ Q (.bl (!decide (c ∈ z.cps.toList))) H) ∨ rDIn true x y H Q
theorem op_inAll (h : Hx X) : OpR X (compareOp .In) (rInAll X.K) := (op_inD (by have := h.hu; omega)).or ((op_inTD h).or (op_in_seq.or (op_in_sign.or (op_dIn h))))
theorem op_notInAll (h : Hx X) : OpR X (compareOp .NotIn) (rNotInAll X.K) := (op_notInD (by have := h.hu; omega)).or ((op_ninTD h).or (op_notIn_seq.or (op_notIn_sign.or (op_dNotIn h))))
theorem cr_in : CmpR X C .in_ (rInAll X.K) := fun δ G H α β s x y v u q Q R d1 d2 h k => by
  rcases inA_cases R d1 d2 h with ⟨d, ds, h1, h2, h3, h4, h5⟩ | ⟨d, ds, h1, h2, h3, h4, h5⟩ | ⟨p, xs, h1, h2, h3, h4, h5⟩ | ⟨c, z, h1, h2, h3⟩ | ⟨p, w, h1, h2, h3⟩
  · exact .inl ⟨d, ds, h1, h2, h3, h4, by rw [h5]; exact k⟩
  · exact .inr (.inl ⟨d, ds, h1, h2, h3, h4, by rw [if_neg (by decide), h5]; exact k⟩)
  · exact .inr (.inr (.inl ⟨p, xs, h1, .inr h2, h3, h4, by rw [if_neg (by decide), h5]; exact k⟩))
  · exact .inr (.inr (.inr (.inl ⟨c, z, h1, h2, by rw [h3]; exact k⟩)))
  · exact .inr (.inr (.inr (.inr ⟨p, w, h1, h2, by rw [if_neg (by decide), h3]; exact k⟩)))
theorem cr_nin : CmpR X C .nin (rNotInAll X.K) := fun δ G H α β s x y v u q Q R d1 d2 h k => by
  have h' : (inA s x y).map (! ·) = some q := h
  cases he : inA s x y with
  | none => rw [he] at h'; cases h'
  | some b =>
    rw [he] at h'
    cases h'
    rcases inA_cases R d1 d2 he with ⟨d, ds, h1, h2, h3, h4, h5⟩ | ⟨d, ds, h1, h2, h3, h4, h5⟩ | ⟨p, xs, h1, h2, h3, h4, h5⟩ | ⟨c, z, h1, h2, h3⟩ | ⟨p, w, h1, h2, h3⟩
    · exact .inl ⟨d, ds, h1, h2, h3, h4, by rw [h5]; exact k⟩
    · exact .inr (.inl ⟨d, ds, h1, h2, h3, h4, by rw [if_pos rfl, h5]; exact k⟩)
    · exact .inr (.inr (.inl ⟨p, xs, h1, .inr h2, h3, h4, by rw [if_pos rfl, h5]; exact k⟩))
    · exact .inr (.inr (.inr (.inl ⟨c, z, h1, h2, by rw [h3]; exact k⟩)))
    · exact .inr (.inr (.inr (.inr ⟨p, w, h1, h2, by rw [if_pos rfl, h3]; exact k⟩)))
theorem sx_in (h : Hx X) (ha : Sx X C W T a ca) (hb : Sx X C W T b cb) (hm : behindInMarks .In b = false := by rfl) : Sx X C W T (.Compare a [.In] [b] pos) (.cmp .in_ ca cb) := sx_cmp (op_inAll h) ha hb cr_in hm
theorem sb_in (h : Hx X) (ha : Sx X C W T a ca) (hb : Sx X C W T b cb) (hm : behindInMarks .In b = false := by rfl) : Sb X C W T (.Compare a [.In] [b] pos) (.cmp .in_ ca cb) := sb_cmp (op_inAll h) ha hb cr_in hm
theorem sx_nin (h : Hx X) (ha : Sx X C W T a ca) (hb : Sx X C W T b cb) (hm : behindInMarks .NotIn b = false := by rfl) : Sx X C W T (.Compare a [.NotIn] [b] pos) (.cmp .nin ca cb) := sx_cmp (op_notInAll h) ha hb cr_nin hm
theorem sb_nin (h : Hx X) (ha : Sx X C W T a ca) (hb : Sx X C W T b cb) (hm : behindInMarks .NotIn b = false := by rfl) : Sb X C W T (.Compare a [.NotIn] [b] pos) (.cmp .nin ca cb) := sb_cmp (op_notInAll h) ha hb cr_nin hm
/-! #### is -/
theorem isA_cases {K : PySem.W.Frag} {C : Addr} {G H : Hp} {α β : List Addr} {s : Sto} {x y : A} {v u : V} {q : Bool} (R : Rl K C δ G H α β s) (d1 : Ad K G α β x v) (d2 : Ad K G α β y u) (h : isA s x y = some q) :
    (u = .non ∧ decide (v = .non) = q) ∨ ∃ i j, v = .bl i ∧ u = .bl j ∧ decide (i = j) = q := by
  unfold isA at h
  split at h
  · rename_i a e1 e2
    have := rd_none e2; subst this
    cases h
    exact .inl ⟨ad_none d2, isN_dec (rd_dp R d1 e1)⟩
  · rename_i i j e1 e2
    have := rd_bool e1; subst this
    have := rd_bool e2; subst this
    cases h
    exact .inr ⟨i, j, ad_bool d1, ad_bool d2, rfl⟩
  · cases h
theorem cr_is : CmpR X C .is_ (fun x y H Q => (y = .non ∧ Q (.bl (decide (x = .non))) H) ∨ ∃ a b, x = .bl a ∧ y = .bl b ∧ Q (.bl (decide (a = b))) H) := fun δ G H α β s x y v u q Q R d1 d2 h k => by
  rcases isA_cases R d1 d2 h with ⟨h1, h2⟩ | ⟨i, j, h1, h2, h3⟩
  · exact .inl ⟨h1, by rw [h2]; exact k⟩
  · exact .inr ⟨i, j, h1, h2, by rw [h3]; exact k⟩
theorem cr_isn : CmpR X C .isn (fun x y H Q => (y = .non ∧ Q (.bl (!decide (x = .non))) H) ∨ ∃ a b, x = .bl a ∧ y = .bl b ∧ Q (.bl (!decide (a = b))) H) := fun δ G H α β s x y v u q Q R d1 d2 h k => by
  have h' : (isA s x y).map (! ·) = some q := h
  cases he : isA s x y with
  | none => rw [he] at h'; cases h'
  | some b =>
    rw [he] at h'
    cases h'
    rcases isA_cases R d1 d2 he with ⟨h1, h2⟩ | ⟨i, j, h1, h2, h3⟩
    · exact .inl ⟨h1, by rw [h2]; exact k⟩
    · exact .inr ⟨i, j, h1, h2, by rw [h3]; exact k⟩
theorem sx_is (ha : Sx X C W T a ca) (hb : Sx X C W T b cb) : Sx X C W T (.Compare a [.Is] [b] pos) (.cmp .is_ ca cb) := sx_cmp (op_isN.or op_isBl) ha hb cr_is (nomark _)
theorem sb_is (ha : Sx X C W T a ca) (hb : Sx X C W T b cb) : Sb X C W T (.Compare a [.Is] [b] pos) (.cmp .is_ ca cb) := sb_cmp (op_isN.or op_isBl) ha hb cr_is (nomark _)
theorem sx_isn (ha : Sx X C W T a ca) (hb : Sx X C W T b cb) : Sx X C W T (.Compare a [.IsNot] [b] pos) (.cmp .isn ca cb) := sx_cmp (op_notN.or op_notBl) ha hb cr_isn (nomark _)
theorem sb_isn (ha : Sx X C W T a ca) (hb : Sx X C W T b cb) : Sb X C W T (.Compare a [.IsNot] [b] pos) (.cmp .isn ca cb) := sb_cmp (op_notN.or op_notBl) ha hb cr_isn (nomark _)
/-! ### truth -/
theorem truA_of {K : PySem.W.Frag} {C : Addr} {G H : Hp} {α β : List Addr} {s : Sto} {x : A} {v : V} {q : Bool} (R : Rl K C δ G H α β s) (d1 : Ad K G α β x v) (h : truA s x = some q) : TruV K v H q := by
  unfold truA at h
  split at h
  · rename_i y e
    have := rd_str e; subst this
    split at h
    · rename_i hl
      cases h
      rw [ad_str d1]
      exact ⟨sz_of hl, rfl⟩
    · cases h
  · cases h
  · rename_i y h1 h2 e
    cases h
    have hd := rd_dp R d1 e
    refine truV_of hd ?_
    cases y <;> first | trivial | exact absurd rfl (h1 _)
  · rename_i xs e
    have := rd_lstA e; subst this
    cases h
    obtain ⟨p, vs, rfl, h1, h2⟩ := (show Ai K G α (.lst xs) v from d1)
    refine .inl ⟨vs, .inl (ex_rd R.s h1), ?_⟩
    have := AiL.len h2
    cases xs <;> cases vs <;> first | rfl | (simp at this)
  · rename_i xs e
    have := rd_tupA e; subst this
    cases h
    obtain ⟨p, vs, rfl, h1, h2⟩ := (show Ai K G α (.tup xs) v from d1)
    refine .inr (.inl ⟨vs, .inl (.inl (R.s _ _ h1)), ?_⟩)
    have := AiL.len h2
    cases xs <;> cases vs <;> first | rfl | (simp at this)
  · cases h
theorem sb_val (ha : Sx X C W T a ca) (he : ∀ whole, isTrue a X.env whole = (do let v ← whole; standAt a.pos; holding [v] (truthy v)) := by intro _; rfl) : Sb X C W T a ca := .mk fun δ σ G H α β r s Q R n p => by
  unfold evT at p
  refine wT_of (L2.pt_truth pe_w he) (ha.use R n p fun x s1 v G1 H1 α1 β1 g1 R1 n1 d1 p1 => ?_)
  obtain ⟨q, hq, p2⟩ := Post.of p1
  exact ⟨q, truA_of R1 d1 hq, p2 G1 H1 α1 β1 Gw.refl R1⟩
theorem sx_not (ha : Sx X C W T a ca) : Sx X C W T (.UnaryOp .Not a pos) (.not_ ca) := .mk fun δ σ G H α β r s Q R n p => by
  rw [ev] at p
  refine wE_of (pe_notT pe_w) (ha.use R n p fun x s1 v G1 H1 α1 β1 g1 R1 n1 d1 p1 => ?_)
  obtain ⟨z, hz, p2⟩ := Post.of p1
  cases hq : truA s1 x with
  | none => rw [hq] at hz; cases hz
  | some q =>
    rw [hq] at hz
    cases hz
    exact ⟨q, truA_of R1 d1 hq, p2 G1 H1 α1 β1 Gw.refl R1 _ (Dp.bl _)⟩
theorem evT_not (ca : E) (r : Rh) (s : Sto) : evT T (.not_ ca) r s = (evT T ca r s).bind fun q s => .ok (!q) s := by
  unfold evT
  rw [ev, Res.bind_assoc, Res.bind_assoc]
  congr 1
  funext x s
  cases truA s x <;> rfl
theorem sb_not (ha : Sb X C W T a ca) : Sb X C W T (.UnaryOp .Not a pos) (.not_ ca) := .mk fun δ σ G H α β r s Q R n p => by
  rw [evT_not] at p
  exact wT_of (L2.pt_not pt_w) (ha.use R n p fun q s1 G1 H1 α1 β1 g1 R1 n1 p1 => p1 G1 H1 α1 β1 Gw.refl R1)
/-! ### and, or -/
theorem sx_one {op} (h : Sx X C W T a ca) : Sx X C W T (.BoolOp op [a] pos) ca := .mk fun δ σ G H α β r s Q R n p => wE_of (pe_one pe_w) (h.run δ σ G H α β r s Q R n p)
theorem sx_and (ha : Sx X C W T a ca) (hb : Sx X C W T (.BoolOp .And (b :: rest) pos) cb) : Sx X C W T (.BoolOp .And (a :: b :: rest) pos) (.and_ ca cb) := .mk fun δ σ G H α β r s Q R n p => by
  rw [ev] at p
  refine wE_of (pe_andT pe_w pe_w) (ha.use R n p fun x s1 v G1 H1 α1 β1 g1 R1 n1 d1 p1 => ?_)
  split at p1
  · exact p1.elim
  · rename_i hq
    exact ⟨true, truA_of R1 d1 hq, hb.run δ σ G1 H1 α1 β1 r s1 Q R1 n1 p1⟩
  · rename_i hq
    exact ⟨false, truA_of R1 d1 hq, p1 G1 H1 α1 β1 Gw.refl R1 v d1⟩
theorem sx_or (ha : Sx X C W T a ca) (hb : Sx X C W T (.BoolOp .Or (b :: rest) pos) cb) : Sx X C W T (.BoolOp .Or (a :: b :: rest) pos) (.or_ ca cb) := .mk fun δ σ G H α β r s Q R n p => by
  rw [ev] at p
  refine wE_of (pe_orT pe_w pe_w) (ha.use R n p fun x s1 v G1 H1 α1 β1 g1 R1 n1 d1 p1 => ?_)
  split at p1
  · exact p1.elim
  · rename_i hq
    exact ⟨true, truA_of R1 d1 hq, p1 G1 H1 α1 β1 Gw.refl R1 v d1⟩
  · rename_i hq
    exact ⟨false, truA_of R1 d1 hq, hb.run δ σ G1 H1 α1 β1 r s1 Q R1 n1 p1⟩
theorem evT_and (ca cb : E) (r : Rh) (s : Sto) : evT T (.and_ ca cb) r s = (evT T ca r s).bind fun q s => if q = true then evT T cb r s else .ok false s := by
  unfold evT
  rw [ev, Res.bind_assoc, Res.bind_assoc]
  congr 1
  funext x s
  cases h : truA s x with
  | none => rfl
  | some q =>
    cases q with
    | true => rfl
    | false => simp only [Res.bind, Res.of, h]; rfl
theorem evT_or (ca cb : E) (r : Rh) (s : Sto) : evT T (.or_ ca cb) r s = (evT T ca r s).bind fun q s => if q = true then .ok true s else evT T cb r s := by
  unfold evT
  rw [ev, Res.bind_assoc, Res.bind_assoc]
  congr 1
  funext x s
  cases h : truA s x with
  | none => rfl
  | some q =>
    cases q with
    | true => simp only [Res.bind, Res.of, h]; rfl
    | false => rfl
theorem sw_and1 (h : Sb X C W T a ca) : Sw X C W T (.BoolOp .And [a] pos) ca := .mk fun δ σ G H α β r s Q R n p => wW_of (L2.pw_and1 pt_w) (h.run δ σ G H α β r s Q R n p)
theorem sw_or1 (h : Sb X C W T a ca) : Sw X C W T (.BoolOp .Or [a] pos) ca := .mk fun δ σ G H α β r s Q R n p => wW_of (L2.pw_or1 pt_w) (h.run δ σ G H α β r s Q R n p)
theorem sw_and (ha : Sb X C W T a ca) (hb : Sw X C W T (.BoolOp .And (b :: rest) pos) cb) : Sw X C W T (.BoolOp .And (a :: b :: rest) pos) (.and_ ca cb) := .mk fun δ σ G H α β r s Q R n p => by
  rw [evT_and] at p
  refine wW_of (L2.pw_and pt_w pw_w) (ha.use R n p fun q s1 G1 H1 α1 β1 g1 R1 n1 p1 => ?_)
  cases q with
  | true => exact hb.run δ σ G1 H1 α1 β1 r s1 Q R1 n1 p1
  | false => exact p1 G1 H1 α1 β1 Gw.refl R1
theorem sw_or (ha : Sb X C W T a ca) (hb : Sw X C W T (.BoolOp .Or (b :: rest) pos) cb) : Sw X C W T (.BoolOp .Or (a :: b :: rest) pos) (.or_ ca cb) := .mk fun δ σ G H α β r s Q R n p => by
  rw [evT_or] at p
  refine wW_of (L2.pw_or pt_w pw_w) (ha.use R n p fun q s1 G1 H1 α1 β1 g1 R1 n1 p1 => ?_)
  cases q with
  | false => exact hb.run δ σ G1 H1 α1 β1 r s1 Q R1 n1 p1
  | true => exact p1 G1 H1 α1 β1 Gw.refl R1
theorem sx_ife (hc : Sb X C W T c cc) (ha : Sx X C W T a ca) (hb : Sx X C W T b cb) : Sx X C W T (.IfExp c a b pos) (.ife cc ca cb) := .mk fun δ σ G H α β r s Q R n p => by
  have e : ev T (.ife cc ca cb) r s = (evT T cc r s).bind fun q s => if q = true then ev T ca r s else ev T cb r s := by
    unfold evT
    rw [ev, Res.bind_assoc]
    congr 1
    funext x s
    cases h : truA s x with
    | none => rfl
    | some q => cases q <;> rfl
  rw [e] at p
  refine wE_of (pe_ifExp pt_w pe_w pe_w) (hc.use R n p fun q s1 G1 H1 α1 β1 g1 R1 n1 p1 => ?_)
  cases q with
  | true => exact ha.run δ σ G1 H1 α1 β1 r s1 Q R1 n1 p1
  | false => exact hb.run δ σ G1 H1 α1 β1 r s1 Q R1 n1 p1
end
end Fb

/-! Re: new objects; chains; items, slices; displays; attributes. -/
namespace Fb
open PySem PySem.Spec PyProof.Rows L2 Evl
/-! ### objects that are made, changed, given -/
section
variable {K : PySem.W.Frag} {C : Addr} {δ : List (Addr × HO)} {G H G2 H2 : Hp} {α β α2 β2 : List Addr} {s : Sto} {p : Addr} {o o' : HO} {ob : Ob}
theorem ObR.mv {a : Addr} (hH : H2 a = H a) (h : ObR K C G H α a ob) : ObR K C G H2 α a ob := by
  have := ObR.up (H2 := H2) (Ex.refl G) [] hH h
  rwa [List.append_nil] at this
theorem ObR.gup {a : Addr} (g : Ex G G2) (h : ObR K C G H α a ob) : ObR K C G2 H α a ob := by
  have := ObR.up (H2 := H) g [] rfl h
  rwa [List.append_nil] at this
/-- a new thing, kept aside -/
theorem Rl.lay (R : Rl K C δ G H α β s) (hp : H p = none) (ho : ∀ xs, o ≠ .tup xs := by intro xs z; nomatch z) : Rl K C ((p, o) :: δ) G (upd H p o) α β s := by
  have np : p ∉ α ++ β := fun z => by
    obtain ⟨u, hu, _⟩ := R.at z
    rw [hp] at hu; cases hu
  refine ⟨R.s.trans (Ex.new hp), R.nd, R.la, R.lb, R.no, fun n o h => ?_, fun n o h => ?_, fun q hq => ?_, ?_⟩
  · obtain ⟨a, h1, h2⟩ := R.P n o h
    exact ⟨a, h1, h2.mv (upd_ne fun z => np (by rw [← z]; exact List.mem_append_left _ (List.mem_of_getElem? h1)))⟩
  · obtain ⟨a, h1, h2⟩ := R.S n o h
    exact ⟨a, h1, h2.mv (upd_ne fun z => np (by rw [← z]; exact List.mem_append_right _ (List.mem_of_getElem? h1)))⟩
  · rcases List.mem_cons.mp hq with rfl | hq
    · exact ⟨upd_same, fresh_back R.s hp, np, ho⟩
    · obtain ⟨h1, h2, h3, h4⟩ := R.fr q hq
      exact ⟨Ex.new hp _ _ h1, h2, h3, h4⟩
  · rw [List.map_cons, List.nodup_cons]
    refine ⟨fun z => ?_, R.dn⟩
    obtain ⟨q, hq, e⟩ := List.mem_map.mp z
    obtain ⟨h1, _⟩ := R.fr q hq
    rw [e, hp] at h1
    cases h1
/-- what is kept aside is another thing now -/
theorem Rl.re (R : Rl K C ((p, o) :: δ) G H α β s) (ho : ∀ xs, o' ≠ .tup xs := by intro xs z; nomatch z) : Rl K C ((p, o') :: δ) G (upd H p o') α β s := by
  obtain ⟨q1, q2, q3, q4⟩ := R.fr (p, o) List.mem_cons_self
  have hd := R.dn
  rw [List.map_cons, List.nodup_cons] at hd
  refine ⟨R.s.mut q2, R.nd, R.la, R.lb, R.no, fun n o h => ?_, fun n o h => ?_, fun q hq => ?_, R.dn⟩
  · obtain ⟨a, h1, h2⟩ := R.P n o h
    exact ⟨a, h1, h2.mv (upd_ne fun z => q3 (by rw [← z]; exact List.mem_append_left _ (List.mem_of_getElem? h1)))⟩
  · obtain ⟨a, h1, h2⟩ := R.S n o h
    exact ⟨a, h1, h2.mv (upd_ne fun z => q3 (by rw [← z]; exact List.mem_append_right _ (List.mem_of_getElem? h1)))⟩
  · rcases List.mem_cons.mp hq with rfl | hq
    · exact ⟨upd_same, q2, q3, ho⟩
    · obtain ⟨h1, h2, h3, h4⟩ := R.fr q (List.mem_cons_of_mem _ hq)
      exact ⟨by rw [upd_ne (show q.1 ≠ p from fun z => hd.1 (List.mem_map.mpr ⟨q, hq, z⟩))]; exact h1, h2, h3, h4⟩
/-- it stays as it is from now on -/
theorem Rl.give (R : Rl K C ((p, o) :: δ) G H α β s) : Rl K C δ (upd G p o) H α β s ∧ Ex G (upd G p o) := by
  obtain ⟨q1, q2, q3, q4⟩ := R.fr (p, o) List.mem_cons_self
  have hd := R.dn
  rw [List.map_cons, List.nodup_cons] at hd
  refine ⟨⟨fun a u h => ?_, R.nd, R.la, R.lb, fun a ha => ?_, fun n o h => ?_, fun n o h => ?_, fun q hq => ?_, hd.2⟩, Ex.new q2⟩
  · by_cases z : a = p
    · subst z; rw [upd_same] at h; rw [q1]; exact h
    · rw [upd_ne z] at h; exact R.s a u h
  · rw [upd_ne fun z => q3 (by rw [← z]; exact ha)]
    exact R.no a ha
  · obtain ⟨a, h1, h2⟩ := R.P n o h
    exact ⟨a, h1, h2.gup (Ex.new q2)⟩
  · obtain ⟨a, h1, h2⟩ := R.S n o h
    exact ⟨a, h1, h2.gup (Ex.new q2)⟩
  · obtain ⟨h1, h2, h3, h4⟩ := R.fr q (List.mem_cons_of_mem _ hq)
    exact ⟨h1, by rw [upd_ne (show q.1 ≠ p from fun z => hd.1 (List.mem_map.mpr ⟨q, hq, z⟩))]; exact h2, h3, h4⟩
theorem Rl.drop {q : Addr × HO} (R : Rl K C (q :: δ) G H α β s) : Rl K C δ G H α β s := by
  have hd := R.dn
  rw [List.map_cons, List.nodup_cons] at hd
  exact ⟨R.s, R.nd, R.la, R.lb, R.no, R.P, R.S, fun q hq => R.fr q (List.mem_cons_of_mem _ hq), hd.2⟩
/-- it is a passing object -/
theorem Rl.pushS (R : Rl K C ((p, o) :: δ) G H α β s) (hb : ObR K C G H α p ob) : Rl K C δ G H α (β ++ [p]) ⟨s.P, s.S ++ [ob]⟩ := by
  obtain ⟨q1, q2, q3, q4⟩ := R.fr (p, o) List.mem_cons_self
  have hd := R.dn
  rw [List.map_cons, List.nodup_cons] at hd
  refine ⟨R.s, ?_, R.la, by simp [R.lb], fun a ha => ?_, R.P, fun n o h => ?_, fun q hq => ?_, hd.2⟩
  · rw [← List.append_assoc, List.nodup_append]
    exact ⟨R.nd, by simp, fun a ha b hb => by simp at hb; subst hb; exact fun z => q3 (z ▸ ha)⟩
  · rw [← List.append_assoc] at ha
    rcases List.mem_append.mp ha with ha | ha
    · exact R.no a ha
    · simp at ha; subst ha; exact q2
  · by_cases hn : n < s.S.length
    · have h' : s.S[n]? = some o := by rw [← h]; exact (List.getElem?_append_left hn).symm
      obtain ⟨a, h1, h2⟩ := R.S n o h'
      exact ⟨a, get_app h1, h2⟩
    · have hl : n < (s.S ++ [ob]).length := (List.getElem?_eq_some_iff.mp h).1
      have e : n = s.S.length := by simp at hl; omega
      subst e
      have h' : (s.S ++ [ob])[s.S.length]? = some ob := by simp
      have h2 : (s.S ++ [ob])[s.S.length]? = some o := h
      rw [h'] at h2
      cases h2
      exact ⟨p, by rw [← R.lb]; simp, hb⟩
  · obtain ⟨h1, h2, h3, h4⟩ := R.fr q (List.mem_cons_of_mem _ hq)
    refine ⟨h1, h2, fun z => ?_, h4⟩
    rw [← List.append_assoc] at z
    rcases List.mem_append.mp z with z | z
    · exact h3 z
    · simp at z
      exact hd.1 (List.mem_map.mpr ⟨q, hq, z⟩)
/-- it is a lasting object -/
theorem Rl.pushP (R : Rl K C ((p, o) :: δ) G H α β s) (hb : ObR K C G H (α ++ [p]) p ob) : Rl K C δ G H (α ++ [p]) β ⟨s.P ++ [ob], s.S⟩ := by
  obtain ⟨q1, q2, q3, q4⟩ := R.fr (p, o) List.mem_cons_self
  have hd := R.dn
  rw [List.map_cons, List.nodup_cons] at hd
  have nd := R.nd
  rw [List.nodup_append] at nd
  refine ⟨R.s, ?_, by simp [R.la], R.lb, fun a ha => ?_, fun n o h => ?_, fun n o h => ?_, fun q hq => ?_, hd.2⟩
  · rw [List.append_assoc, List.nodup_append]
    refine ⟨nd.1, ?_, fun a ha b hb => ?_⟩
    · show (p :: β).Nodup
      exact List.nodup_cons.mpr ⟨fun z => q3 (List.mem_append_right _ z), nd.2.1⟩
    · rcases List.mem_cons.mp (show b ∈ p :: β from hb) with rfl | hb
      · exact fun z => q3 (List.mem_append_left _ (z ▸ ha))
      · exact nd.2.2 a ha b hb
  · rw [List.append_assoc] at ha
    rcases List.mem_append.mp ha with ha | ha
    · exact R.no a (List.mem_append_left _ ha)
    · rcases List.mem_cons.mp (show a ∈ p :: β from ha) with rfl | ha
      · exact q2
      · exact R.no a (List.mem_append_right _ ha)
  · by_cases hn : n < s.P.length
    · have h' : s.P[n]? = some o := by rw [← h]; exact (List.getElem?_append_left hn).symm
      obtain ⟨a, h1, h2⟩ := R.P n o h'
      exact ⟨a, get_app h1, ObR.up (Ex.refl G) [p] rfl h2⟩
    · have hl : n < (s.P ++ [ob]).length := (List.getElem?_eq_some_iff.mp h).1
      have e : n = s.P.length := by simp at hl; omega
      subst e
      have h' : (s.P ++ [ob])[s.P.length]? = some ob := by simp
      have h2 : (s.P ++ [ob])[s.P.length]? = some o := h
      rw [h'] at h2
      cases h2
      exact ⟨p, by rw [← R.la]; simp, hb⟩
  · obtain ⟨a, h1, h2⟩ := R.S n o h
    exact ⟨a, h1, ObR.up (Ex.refl G) [p] rfl h2⟩
  · obtain ⟨h1, h2, h3, h4⟩ := R.fr q (List.mem_cons_of_mem _ hq)
    refine ⟨h1, h2, fun z => ?_, h4⟩
    rw [List.append_assoc] at z
    rcases List.mem_append.mp z with z | z
    · exact h3 (List.mem_append_left _ z)
    · rcases List.mem_cons.mp (show q.1 ∈ p :: β from z) with z | z
      · exact hd.1 (List.mem_map.mpr ⟨q, hq, z⟩)
      · exact h3 (List.mem_append_right _ z)
end
section
variable {K : PySem.W.Frag} {C : Addr} {δ : List (Addr × HO)} {mg : Str → Option Value} {W : WX} {σ : L2.St} {G H : Hp} {α β : List Addr} {s : Sto} {p : Addr} {Q : VK} {m : Nat}
/-- a list just made -/
theorem newL_post {vs : List V} {xs : List A} (R : Rl K C ((p, .lst vs) :: δ) G H α β s) (d : AdL K G α β xs vs) (post : Post K C δ mg W σ (Qv K Q) G α β (newL m xs s)) : Q (.ref p) H := by
  obtain ⟨q1, q2, q3, q4⟩ := R.fr _ List.mem_cons_self
  unfold newL at post
  split at post
  · split at post
    · obtain ⟨z, hz, p1⟩ := Post.of post
      obtain ⟨R2, g⟩ := R.give
      unfold mkL at hz
      split at hz
      · rename_i ds hds
        cases hz
        exact p1 _ H α β (Gw.of g) R2 _ (Dp.lst (.inl upd_same) (dpAll_up g _ _ (d.data hds)))
      · split at hz
        · rename_i hn
          cases hz
          exact p1 _ H α β (Gw.of g) R2 _ ⟨p, vs, rfl, .inl upd_same, (d.ai hn).ex g⟩
        · cases hz
    · split at post
      · rename_i ds hds
        refine post G H α (β ++ [p]) ⟨Ex.refl G, ⟨[], by simp⟩, ⟨[p], rfl⟩⟩ (R.pushS ⟨vs, q1, d.data hds⟩) _ ⟨p, by rw [← R.lb]; simp, rfl⟩
      · exact post.elim
    · split at post
      · rename_i ds hds
        refine post G H (α ++ [p]) β ⟨Ex.refl G, ⟨[p], rfl⟩, ⟨[], by simp⟩⟩ (R.pushP ⟨vs, q1, d.data hds⟩) _ ⟨p, by rw [← R.la]; simp, rfl⟩
      · exact post.elim
  · exact post.elim
theorem newL_len {xs : List A} {Z : Hp → Hp → List Addr → List Addr → A → Prop} (post : Post K C δ mg W σ Z G α β (newL m xs s)) : xs.length ≤ 100000 := by
  unfold newL at post
  split at post
  · assumption
  · exact post.elim
theorem newT_post {ws : List (List Key × V)} {kvs : List (List Key × PyData)} (R : Rl K C ((p, .dT ws) :: δ) G H α β s) (d : PrD K G ws kvs) (post : Post K C δ mg W σ (Qv K Q) G α β (newT m kvs s)) : Q (.ref p) H := by
  obtain ⟨q1, q2, q3, q4⟩ := R.fr _ List.mem_cons_self
  unfold newT at post
  split at post
  · obtain ⟨R2, g⟩ := R.give
    exact post _ H α β (Gw.of g) R2 _ ⟨p, ws, rfl, .inl upd_same, prd_up g d⟩
  · exact post G H α (β ++ [p]) ⟨Ex.refl G, ⟨[], by simp⟩, ⟨[p], rfl⟩⟩ (R.pushS ⟨ws, q1, d⟩) _ ⟨p, by rw [← R.lb]; simp, rfl⟩
  · exact post G H (α ++ [p]) β ⟨Ex.refl G, ⟨[p], rfl⟩, ⟨[], by simp⟩⟩ (R.pushP ⟨ws, q1, d⟩) _ ⟨p, by rw [← R.la]; simp, rfl⟩
theorem newK_post {ws : List (Key × V)} {kvs : List (Str × A)} (R : Rl K C ((p, .dK ws) :: δ) G H α β s) (d : AiK K G α kvs ws) (post : Post K C δ mg W σ (Qv K Q) G α β (newK m kvs s)) : Q (.ref p) H := by
  obtain ⟨q1, q2, q3, q4⟩ := R.fr _ List.mem_cons_self
  unfold newK at post
  split at post
  · split at post
    · obtain ⟨R2, g⟩ := R.give
      exact post _ H α β (Gw.of g) R2 _ ⟨p, ws, rfl, .inl upd_same, d.ex g⟩
    · exact post G H α (β ++ [p]) ⟨Ex.refl G, ⟨[], by simp⟩, ⟨[p], rfl⟩⟩ (R.pushS ⟨ws, q1, d⟩) _ ⟨p, by rw [← R.lb]; simp, rfl⟩
    · exact post G H (α ++ [p]) β ⟨Ex.refl G, ⟨[p], rfl⟩, ⟨[], by simp⟩⟩ (R.pushP ⟨ws, q1, aiK_up (Ex.refl G) [p] _ _ d⟩) _ ⟨p, by rw [← R.la]; simp, rfl⟩
  · exact post.elim
end
section
variable {X : Cx} {C : Addr} {W : WX} {T : Tab} {a b c d e o : Expr} {es rest : List Expr} {ca cb cc cd ce : E} {cs : Es} {pos p p2 : Pos}
/-! ### displays -/
theorem sx_tup {k : Nat} (h : Sa X C W T es cs) : Sx X C W T (.Tuple es k pos) (.tup cs) := .mk fun δ σ G H α β r s Q R n p => by
  rw [ev] at p
  refine wE_of (pe_tup pa_w) (h.use R n p fun xs s1 vs G1 H1 α1 β1 g1 R1 n1 d1 p1 => ?_)
  obtain ⟨z, hz, p2⟩ := Post.of p1
  unfold mkT at hz
  split at hz
  · rename_i hl
    have hlen := AdL.len d1
    refine ⟨sz_of (by omega), fun t ht => ?_⟩
    have kn := Gr.new (o := .tup vs) R1.s ht
    split at hz
    · rename_i ds hds
      cases hz
      exact p2 _ _ α1 β1 (Gw.of kn.g) (R1.gr kn) _ (Dp.tup (.inl upd_same) (dpAll_up kn.g _ _ (d1.data hds)))
    · split at hz
      · rename_i hn
        cases hz
        exact p2 _ _ α1 β1 (Gw.of kn.g) (R1.gr kn) _ ⟨t, vs, rfl, upd_same, (d1.ai hn).ex kn.g⟩
      · cases hz
  · cases hz
theorem sx_list {m : Nat} (h : Sa X C W T es cs) : Sx X C W T (.List es pos) (.list m cs) := .mk fun δ σ G H α β r s Q R n p => by
  rw [ev] at p
  refine wE_of (pe_lst pa_w) (h.use R n p fun xs s1 vs G1 H1 α1 β1 g1 R1 n1 d1 p1 => ?_)
  have hlen := AdL.len d1
  have := newL_len p1
  exact ⟨sz_of (by omega), fun t ht => newL_post (R1.lay ht) d1 p1⟩
theorem sx_dnil {m : Nat} : Sx X C W T (.Dict [] [] pos) (.dnil m) := .mk fun δ σ G H α β r s Q R n p => by
  rw [ev] at p
  exact wE_of pe_dnewT fun t ht => newT_post (R.lay ht) .nil p
/-- {"a": e, ..} -/
def Sp2 (X : Cx) (C : Addr) (W : WX) (T : Tab) (ks : List Str) (es : List Expr) (cs : Es) (pos : Pos) (keys : List (Option Expr)) : Prop := ∃ trs, PPs X pos keys es trs ∧ keys.all (·.isSome) = true ∧ keys.length = es.length ∧ keys.length = ks.length ∧
  ∀ δ σ G H α β r s (Q : List (V × V) → Hp → Prop), Rl X.K C δ G H α β s → Em X.K G α β σ r → Post X.K C δ X.mg W σ (Ql X.K fun vs H2 => Q ((ks.map V.str).zip vs) H2) G α β (evs T cs r s) → tPairs trs σ H Q
theorem sp2_nil : Sp2 X C W T [] [] .nil pos [] := ⟨[], pps_nil, rfl, rfl, rfl, fun δ σ G H α β r s Q R n p => p G H α β Gw.refl R [] rfl⟩
theorem sp2_cons {k : Str} {j : Nat} {ks : List Str} {keys : List (Option Expr)} (ha : Sx X C W T e ce) (hr : Sp2 X C W T ks es cs pos keys) : Sp2 X C W T (k :: ks) (e :: es) (.cons ce cs) pos (some (.Constant (.str k) j p) :: keys) := by
  obtain ⟨trs, h1, h2, h3, h4, h5⟩ := hr
  refine ⟨_, pps_cons pe_str pe_w h1, by simp [h2], by simp [h3], by simp [h4], fun δ σ G H α β r s Q R n p => ?_⟩
  rw [evs] at p
  refine ha.use R n p fun x s1 v G1 H1 α1 β1 g1 R1 n1 d1 p1 => h5 δ σ G1 H1 α1 β1 r s1 _ R1 n1 ?_
  cases m : evs T cs r s1 with
  | ok xs s2 =>
    rw [m] at p1
    exact fun G2 H2 α2 β2 g2 R2 vs d2 => p1 G2 H2 α2 β2 g2 R2 (v :: vs) ⟨v, vs, rfl, d1.up g2, d2⟩
  | er c s2 => rw [m] at p1; exact p1
  | no => rw [m] at p1; exact p1
theorem mergeK_nodup : ∀ (kvs acc : List (Key × V)), ((acc ++ kvs).map (·.1)).Nodup → mergeK acc kvs = acc ++ kvs
  | [], acc, _ => by simp [mergeK]
  | q :: kvs, acc, h => by
    have hq : putK acc q.1 q.2 = acc ++ [q] := by
      unfold putK
      rw [if_neg]
      intro z
      obtain ⟨y, hy, e⟩ := List.any_eq_true.mp z
      rw [List.map_append, List.nodup_append] at h
      exact h.2.2 y.1 (List.mem_map_of_mem hy) q.1 (by simp) (by simpa using e)
    show mergeK (putK acc q.1 q.2) kvs = _
    rw [hq, mergeK_nodup kvs (acc ++ [q]) (by simpa using h)]
    simp
theorem aik_zip {K : PySem.W.Frag} {G : Hp} {α : List Addr} : ∀ {ks : List Str} {xs : List A} {vs : List V}, AiL K G α xs vs → ks.length = xs.length → AiK K G α (ks.zip xs) ((ks.map Sum.inr).zip vs)
  | [], [], _, h, _ => by rw [show _ = [] from h]; exact (rfl : ([] : List (Key × V)) = [])
  | [], _ :: _, _, _, e => by simp at e
  | _ :: _, [], _, _, e => by simp at e
  | k :: ks, x :: xs, _, ⟨v, t, h1, h2, h3⟩, e => by
    rw [h1]
    exact ⟨v, (ks.map Sum.inr).zip t, rfl, h2, aik_zip h3 (by simpa using e)⟩
theorem zip_kV : ∀ (ks : List Str) (vs : List V), ((ks.map Sum.inr).zip vs : List (Key × V)).map (fun kv => (kV kv.1, kv.2)) = (ks.map V.str).zip vs
  | [], _ => rfl
  | _ :: _, [] => rfl
  | k :: ks, v :: vs => congrArg (List.cons (V.str k, v)) (zip_kV ks vs)
theorem zip_noLoc : ∀ (ks : List Str) (xs : List A), ks.length = xs.length → ((ks.zip xs).all fun p => noLoc p.2) = true → xs.all noLoc = true
  | _, [], _, _ => rfl
  | [], _ :: _, e, _ => by simp at e
  | k :: ks, x :: xs, e, h => by
    rw [List.zip_cons_cons, List.all_cons, Bool.and_eq_true] at h
    rw [List.all_cons, h.1, zip_noLoc ks xs (by simpa using e) h.2]
    rfl
theorem zip_fst : ∀ (ks : List Str) (vs : List V), ks.length = vs.length → ((ks.map Sum.inr).zip vs : List (Key × V)).map (·.1) = ks.map Sum.inr
  | [], _, _ => rfl
  | _ :: _, [], e => by simp at e
  | k :: ks, v :: vs, e => congrArg (List.cons (Sum.inr k)) (zip_fst ks vs (by simpa using e))
theorem sx_dict {m : Nat} {ks : List Str} {keys : List (Option Expr)} (h : Sp2 X C W T ks es cs pos keys) (h0 : keys ≠ [] := by simp) (h15 : keys.length ≤ 15 := by decide) : Sx X C W T (.Dict keys es pos) (.dict m ks cs) := .mk fun δ σ G H α β r s Q R n p => by
  obtain ⟨trs, h1, h2, h3, h4, h5⟩ := h
  rw [ev] at p
  refine wE_of (pe_disp h1 h2 h3 h0 h15) fun q hq => h5 ((q, .dK []) :: δ) σ G _ α β r s _ (R.lay hq) n ?_
  cases e : evs T cs r s with
  | ok xs s' =>
    rw [e] at p
    have p' : Post X.K C δ X.mg W σ (Qv X.K Q) G α β (if ks.length = xs.length ∧ ks.Nodup ∧ ks.length ≤ 15 then newK m (ks.zip xs) s' else .no) := p
    split at p'
    · rename_i cc
      obtain ⟨c1, c2, c3⟩ := cc
      intro G2 H2 α2 β2 g2 R2 vs d2
      have hlen := AdL.len d2
      have hl2 : ((ks.map Sum.inr).zip vs : List (Key × V)).length = ks.length := by simp; omega
      refine ⟨(R2.fr _ List.mem_cons_self).1, (ks.map Sum.inr).zip vs, (zip_kV ks vs).symm, by omega, ?_⟩
      have hno : xs.all noLoc = true := by
        have p2 := p'
        unfold newK at p2
        split at p2
        · rename_i hn
          exact zip_noLoc ks xs c1 hn
        · exact p2.elim
      rw [show mergeK [] ((ks.map Sum.inr).zip vs) = (ks.map Sum.inr).zip vs from mergeK_nodup _ [] (by
        rw [List.nil_append, zip_fst ks vs (by omega)]
        refine List.Pairwise.map _ (fun a b h => ?_) c2
        exact fun z => h (Sum.inr.inj z))]
      exact newK_post (R2.re (o' := .dK ((ks.map Sum.inr).zip vs))) (aik_zip (d2.ai hno) c1) (Post.up p' g2)
    · exact p'.elim
  | er c s' => rw [e] at p; exact fun G2 H2 α2 β2 g2 R2 => p G2 H2 α2 β2 g2 R2.drop
  | no => rw [e] at p; exact p.elim
/-! ### chains -/
theorem sx_chain {op op' : CmpOp} {co co' : Cop} {f f' : R2} (ho : OpR X (compareOp op) f) (ho' : OpR X (compareOp op') f') (hr : CmpR X C co f) (hr' : CmpR X C co' f') (ha : Sx X C W T a ca) (hb : Sx X C W T b cb) (hc : Sx X C W T c cc)
    (hm : lastMarks [op, op'] [b, c] = false) : Sx X C W T (.Compare a [op, op'] [b, c] pos) (.chain co co' ca cb cc) := .mk fun δ σ G H α β r s Q R n p => by
  rw [ev] at p
  refine wE_of (pe_chain ho ho' pe_w pe_w pe_w hm) (ha.use R n p fun x s1 v G1 H1 α1 β1 g1 R1 n1 d1 p1 => hb.use R1 n1 p1 fun y s2 u G2 H2 α2 β2 g2 R2 n2 d2 p2 => ?_)
  split at p2
  · exact p2.elim
  · rename_i hq
    exact hr δ G2 H2 α2 β2 s2 x y v u false _ R2 (d1.up g2) d2 hq ⟨false, rfl, p2 G2 H2 α2 β2 Gw.refl R2 _ (Dp.bl _)⟩
  · rename_i hq
    refine hr δ G2 H2 α2 β2 s2 x y v u true _ R2 (d1.up g2) d2 hq ⟨true, rfl, hc.use R2 n2 p2 fun z s3 w G3 H3 α3 β3 g3 R3 n3 d3 p3 => ?_⟩
    obtain ⟨q, hz, p4⟩ := Post.of p3
    cases hq' : cmpA s3 co' y z with
    | none => rw [hq'] at hz; cases hz
    | some q' =>
      rw [hq'] at hz
      cases hz
      exact hr' δ G3 H3 α3 β3 s3 y z u w q' Q R3 (d2.up g3) d3 hq' (p4 G3 H3 α3 β3 Gw.refl R3 _ (Dp.bl q'))
theorem evT_chain (co co' : Cop) (ca cb cc : E) (r : Rh) (s : Sto) : evT T (.chain co co' ca cb cc) r s = (ev T ca r s).bind fun x s => (ev T cb r s).bind fun y s => match cmpA s co x y with
    | none => .no
    | some false => .ok false s
    | some true => (ev T cc r s).bind fun z s => Res.of (cmpA s co' y z) s := by
  unfold evT
  rw [ev, Res.bind_assoc]
  congr 1
  funext x s
  rw [Res.bind_assoc]
  congr 1
  funext y s
  cases cmpA s co x y with
  | none => rfl
  | some q =>
    cases q with
    | false => rfl
    | true =>
      simp only []
      rw [Res.bind_assoc]
      congr 1
      funext z s
      cases cmpA s co' y z <;> rfl
theorem sb_chain {op op' : CmpOp} {co co' : Cop} {f f' : R2} (ho : OpR X (compareOp op) f) (ho' : OpR X (compareOp op') f') (hr : CmpR X C co f) (hr' : CmpR X C co' f') (ha : Sx X C W T a ca) (hb : Sx X C W T b cb) (hc : Sx X C W T c cc)
    (hm : lastMarks [op, op'] [b, c] = false) : Sb X C W T (.Compare a [op, op'] [b, c] pos) (.chain co co' ca cb cc) := .mk fun δ σ G H α β r s Q R n p => by
  rw [evT_chain] at p
  refine wT_of (pt_chain ho ho' pe_w pe_w pe_w hm) (ha.use R n p fun x s1 v G1 H1 α1 β1 g1 R1 n1 d1 p1 => hb.use R1 n1 p1 fun y s2 u G2 H2 α2 β2 g2 R2 n2 d2 p2 => ?_)
  split at p2
  · exact p2.elim
  · rename_i hq
    exact hr δ G2 H2 α2 β2 s2 x y v u false _ R2 (d1.up g2) d2 hq ⟨false, rfl, false, rfl, p2 G2 H2 α2 β2 Gw.refl R2⟩
  · rename_i hq
    refine hr δ G2 H2 α2 β2 s2 x y v u true _ R2 (d1.up g2) d2 hq ⟨true, rfl, hc.use R2 n2 p2 fun z s3 w G3 H3 α3 β3 g3 R3 n3 d3 p3 => ?_⟩
    obtain ⟨q, hz, p4⟩ := Post.of p3
    exact hr' δ G3 H3 α3 β3 s3 y z u w q _ R3 (d2.up g3) d3 hz ⟨q, rfl, p4 G3 H3 α3 β3 Gw.refl R3⟩
theorem sx_lele (ha : Sx X C W T a ca) (hb : Sx X C W T b cb) (hc : Sx X C W T c cc) (hm : lastMarks [.LtE, .LtE] [b, c] = false := by rfl) : Sx X C W T (.Compare a [.LtE, .LtE] [b, c] pos) (.chain .le .le ca cb cc) := sx_chain op_le op_le cr_le cr_le ha hb hc hm
theorem sb_lele (ha : Sx X C W T a ca) (hb : Sx X C W T b cb) (hc : Sx X C W T c cc) (hm : lastMarks [.LtE, .LtE] [b, c] = false := by rfl) : Sb X C W T (.Compare a [.LtE, .LtE] [b, c] pos) (.chain .le .le ca cb cc) := sb_chain op_le op_le cr_le cr_le ha hb hc hm
theorem sx_lelt (h : Hx X) (ha : Sx X C W T a ca) (hb : Sx X C W T b cb) (hc : Sx X C W T c cc) (hm : lastMarks [.LtE, .Lt] [b, c] = false := by rfl) : Sx X C W T (.Compare a [.LtE, .Lt] [b, c] pos) (.chain .le .lt ca cb cc) := sx_chain op_le (op_lt.or (op_ltD h)) cr_le cr_lt ha hb hc hm
theorem sb_lelt (h : Hx X) (ha : Sx X C W T a ca) (hb : Sx X C W T b cb) (hc : Sx X C W T c cc) (hm : lastMarks [.LtE, .Lt] [b, c] = false := by rfl) : Sb X C W T (.Compare a [.LtE, .Lt] [b, c] pos) (.chain .le .lt ca cb cc) := sb_chain op_le (op_lt.or (op_ltD h)) cr_le cr_lt ha hb hc hm
/-- a <= b <= c <= d, as a test -/
def tChain3 (f : R2) (ta tb tc td : TE) : TT := fun σ H Q => ta σ H fun x H1 => tb σ H1 fun y H2 => f x y H2 fun z H3 => ∃ k, z = .bl k ∧ if k = true then tc σ H3 fun w H4 => f y w H4 fun z' H5 => ∃ k', z' = .bl k' ∧ if k' = true then td σ H5 fun u H6 => f w u H6 fun z2 H7 => ∃ k2, z2 = .bl k2 ∧ Q k2 H7 else Q false H5 else Q false H3
theorem pt_chain3 {op : CmpOp} {f : R2} {ta tb tc td : TE} (ho : OpR X (compareOp op) f) (ha : PE X a ta) (hb : PE X b tb) (hc : PE X c tc) (hd : PE X d td) (hm : lastMarks [op, op, op] [b, c, d] = false) : PT X (.Compare a [op, op, op] [b, c, d] pos) (tChain3 f ta tb tc td) := by
  refine ⟨fun pins s σ H Q I h => ?_⟩
  refine isTrue_chain (thn (ha.run pins s σ H _ I h) fun v s1 ⟨x, H1, I1, r1, q1⟩ => test_link (thn (hb.run pins s1 σ H1 _ I1 q1) fun u s2 ⟨y, H2, I2, r2, q2⟩ =>
    thn (ho pins s2 σ H2 x y v u _ I2 r1 r2 q2) fun d s3 ⟨z, H3, I3, r3, k, e, q3⟩ => ?_)) hm
  subst e
  cases r3
  refine wpAny_truthy_bool ?_
  cases k with
  | false => exact ite_ff ⟨H3, I3, q3⟩
  | true =>
    refine ite_tt (test_link (thn (hc.run pins s3 σ H3 _ I3 q3) fun w' s4 ⟨z', H4, I4, r4, q4⟩ => thn (ho pins s4 σ H4 y z' u w' _ I4 r2 r4 q4) fun d' s5 ⟨z2, H5, I5, r5, k2, e2, q5⟩ => ?_))
    subst e2
    cases r5
    refine wpAny_truthy_bool ?_
    cases k2 with
    | false => exact ite_ff ⟨H5, I5, q5⟩
    | true =>
      refine ite_tt (test_last (thn (hd.run pins s5 σ H5 _ I5 q5) fun w2 s6 ⟨z3, H6, I6, r6, q6⟩ => thn (ho pins s6 σ H6 z' z3 w' w2 _ I6 r4 r6 q6) fun d2 s7 ⟨z4, H7, I7, r7, k3, e3, q7⟩ => ?_))
      subst e3
      cases r7
      exact wpAny_truthy_bool ⟨H7, I7, q7⟩
theorem evT_le3 (ca cb cc cd : E) (r : Rh) (s : Sto) : evT T (.le3 ca cb cc cd) r s = (ev T ca r s).bind fun x s => (ev T cb r s).bind fun y s => match cmpA s .le x y with
    | none => .no
    | some false => .ok false s
    | some true => (ev T cc r s).bind fun z s => match cmpA s .le y z with
      | none => .no
      | some false => .ok false s
      | some true => (ev T cd r s).bind fun u s => Res.of (cmpA s .le z u) s := by
  unfold evT
  rw [ev, Res.bind_assoc]
  congr 1
  funext x s
  rw [Res.bind_assoc]
  congr 1
  funext y s
  cases cmpA s .le x y with
  | none => rfl
  | some q =>
    cases q with
    | false => rfl
    | true =>
      simp only []
      rw [Res.bind_assoc]
      congr 1
      funext z s
      cases cmpA s .le y z with
      | none => rfl
      | some q =>
        cases q with
        | false => rfl
        | true =>
          simp only []
          rw [Res.bind_assoc]
          congr 1
          funext u s
          cases cmpA s .le z u <;> rfl
theorem sb_le3 (ha : Sx X C W T a ca) (hb : Sx X C W T b cb) (hc : Sx X C W T c cc) (hd : Sx X C W T d cd) (hm : lastMarks [.LtE, .LtE, .LtE] [b, c, d] = false := by rfl) : Sb X C W T (.Compare a [.LtE, .LtE, .LtE] [b, c, d] pos) (.le3 ca cb cc cd) := .mk fun δ σ G H α β r s Q R n p => by
  rw [evT_le3] at p
  refine wT_of (pt_chain3 op_le pe_w pe_w pe_w pe_w hm) (ha.use R n p fun x s1 v G1 H1 α1 β1 g1 R1 n1 d1 p1 => hb.use R1 n1 p1 fun y s2 u G2 H2 α2 β2 g2 R2 n2 d2 p2 => ?_)
  split at p2
  · exact p2.elim
  · rename_i hq
    exact cr_le δ G2 H2 α2 β2 s2 x y v u false _ R2 (d1.up g2) d2 hq ⟨false, rfl, p2 G2 H2 α2 β2 Gw.refl R2⟩
  · rename_i hq
    refine cr_le δ G2 H2 α2 β2 s2 x y v u true _ R2 (d1.up g2) d2 hq ⟨true, rfl, hc.use R2 n2 p2 fun z s3 w G3 H3 α3 β3 g3 R3 n3 d3 p3 => ?_⟩
    split at p3
    · exact p3.elim
    · rename_i hq'
      exact cr_le δ G3 H3 α3 β3 s3 y z u w false _ R3 (d2.up g3) d3 hq' ⟨false, rfl, p3 G3 H3 α3 β3 Gw.refl R3⟩
    · rename_i hq'
      refine cr_le δ G3 H3 α3 β3 s3 y z u w true _ R3 (d2.up g3) d3 hq' ⟨true, rfl, hd.use R3 n3 p3 fun z4 s4 w4 G4 H4 α4 β4 g4 R4 n4 d4 p4 => ?_⟩
      obtain ⟨q, hz, p5⟩ := Post.of p4
      exact cr_le δ G4 H4 α4 β4 s4 z z4 w w4 q _ R4 (d3.up g4) d4 hz ⟨q, rfl, p5 G4 H4 α4 β4 Gw.refl R4⟩
/-! ### items, slices, attributes -/
def rIxT2 : R2 := fun x y H Q => ∃ p v, x = .ref p ∧ DGet H p y (some v) ∧ Q v H
theorem ix_dict (h : Hx X) : IxR X rIxT2 := by
  intro value slice pins s σ H x y v u Q I rx ry h' hs
  obtain ⟨p, w, rfl, g, q⟩ := h'
  obtain rfl : v = Value.ref p := rx
  have := h.hu
  exact tail_any (dict_typeIs I g) PySem.F.slot_dict_getitem.lookup (d_getItem (by omega) I g ry fun w' s3 I3 rw' => ⟨w, H, I3, rw', q⟩) hs
theorem aik_get {K : PySem.W.Frag} {G : Hp} {α : List Addr} {k : Str} : ∀ {kvs : List (Str × A)} {ws : List (Key × V)} {a : A}, AiK K G α kvs ws → kvs.lookup k = some a → ∃ v, valV ws (.inr k) = some v ∧ Ai K G α a v
  | [], _, _, _, e => by cases e
  | q :: kvs, _, a, ⟨v, t, h1, h2, h3⟩, e => by
    subst h1
    unfold valV
    rw [List.lookup_cons] at e
    cases hk : k == q.1 with
    | true =>
      rw [hk] at e
      cases e
      have : q.1 = k := (beq_iff_eq.mp hk).symm
      rw [List.find?_cons_of_pos (by simp [this])]
      exact ⟨v, rfl, h2⟩
    | false =>
      rw [hk] at e
      have hne : ¬ q.1 = k := fun z => by rw [z] at hk; simp at hk
      rw [List.find?_cons_of_neg (by simpa using hne)]
      exact aik_get h3 e
theorem atI_ai {K : PySem.W.Frag} {G : Hp} {α : List Addr} {xs : List A} {vs : List V} {i : Int} {y : A} (h : AiL K G α xs vs) (e : atI xs i = some y) : ∃ v, atI vs i = some v ∧ Ai K G α y v := by
  unfold atI at e ⊢
  rw [AiL.len h]
  cases q : ixN xs.length i with
  | none => rw [q] at e; cases e
  | some j =>
    rw [q] at e
    exact AiL.get h (show xs[j]? = some y from e)
theorem sx_ix (h : Hx X) (ha : Sx X C W T a ca) (hb : Sx X C W T b cb) (hs : PlainIx b := by exact fun _ _ => rfl) : Sx X C W T (.Subscript a b pos) (.ix ca cb) := .mk fun δ σ G H α β r s Q R n p => by
  rw [ev] at p
  refine wE_of (pe_ix (ix_seq.or (ix_dict h)) pe_w pe_w hs) (ha.use R n p fun x s1 v G1 H1 α1 β1 g1 R1 n1 d1 p1 => hb.use R1 n1 p1 fun y s2 u G2 H2 α2 β2 g2 R2 n2 d2 p2 => ?_)
  obtain ⟨z, hz, p3⟩ := Post.of p2
  have d1 := d1.up g2
  have fin : ∀ w, Ad X.K G2 α2 β2 z w → Q w H2 := fun w hw => p3 G2 H2 α2 β2 Gw.refl R2 w hw
  unfold ixA at hz
  split at hz
  · rename_i ds e
    split at hz
    · rename_i i
      obtain ⟨q, vs, rfl, h1, h2⟩ := rd_list R2 d1 e
      cases hq : atI ds i with
      | none => rw [hq] at hz; cases hz
      | some w =>
        rw [hq] at hz
        cases hz
        obtain ⟨w', h3, h4⟩ := atI_dp h2 hq
        exact .inl (.inl ⟨q, vs, i, w', rfl, ad_int d2, .inl h1, h3, fin _ h4⟩)
    · cases hz
  · rename_i ds e
    split at hz
    · rename_i i
      have := rd_tupD e; subst this
      cases (show Dp X.K G2 v (.tuple ds) from d1) with
      | tup h1 h2 =>
        cases hq : atI ds i with
        | none => rw [hq] at hz; cases hz
        | some w =>
          rw [hq] at hz
          cases hz
          obtain ⟨w', h3, h4⟩ := atI_dp h2 hq
          exact .inl (.inr (.inl ⟨_, _, i, w', rfl, ad_int d2, ex_t R2.s h1.sq, h3, fin _ h4⟩))
    · cases hz
  · rename_i z' e
    split at hz
    · rename_i i
      have := rd_str e; subst this
      split at hz
      · rename_i hl
        cases hq : atI z'.cps.toList i with
        | none => rw [hq] at hz; cases hz
        | some w =>
          rw [hq] at hz
          cases hz
          exact .inl (.inr (.inr ⟨z', i, w, ad_str d1, ad_int d2, sz_of hl, hq, fin _ (Dp.str _)⟩))
      · cases hz
    · cases hz
  · rename_i xs e
    split at hz
    · rename_i i
      have := rd_lstA e; subst this
      obtain ⟨q, vs, rfl, h1, h2⟩ := (show Ai X.K G2 α2 (.lst xs) v from d1)
      obtain ⟨w', h3, h4⟩ := atI_ai h2 hz
      exact .inl (.inl ⟨q, vs, i, w', rfl, ad_int d2, .inl (ex_rd R2.s h1), h3, fin _ h4.ad⟩)
    · cases hz
  · rename_i xs e
    split at hz
    · rename_i i
      have := rd_tupA e; subst this
      obtain ⟨q, vs, rfl, h1, h2⟩ := (show Ai X.K G2 α2 (.tup xs) v from d1)
      obtain ⟨w', h3, h4⟩ := atI_ai h2 hz
      exact .inl (.inr (.inl ⟨q, vs, i, w', rfl, ad_int d2, .inl (.inl (R2.s _ _ h1)), h3, fin _ h4.ad⟩))
    · cases hz
  · rename_i ns e
    split at hz
    · rename_i i
      have := rd_sc e; subst this
      obtain ⟨q, rfl, h1⟩ := (show Ai X.K G2 α2 (.sc ns) v from d1)
      cases hq : atI ns i with
      | none => rw [hq] at hz; cases hz
      | some w =>
        rw [hq] at hz
        cases hz
        exact .inl (.inl ⟨q, _, i, .int w, rfl, ad_int d2, ex_l R2.s h1, (atI_map V.int hq).1, fin _ (Dp.int _)⟩)
    · cases hz
  · rename_i kvs e
    split at hz
    · rename_i k hk
      obtain ⟨q, ws, rfl, h1, h2⟩ := rd_dT R2 d1 e
      have g := dget_rl R2 h1 hk d2
      rcases prd_val h2 k with ⟨h3, h4⟩ | ⟨v', d', h3, h4, h5⟩
      · rw [h4] at hz; cases hz
      · rw [h4] at hz
        cases hz
        rw [h3] at g
        exact .inr ⟨q, v', rfl, g, fin _ h5⟩
    · cases hz
  · rename_i kvs e
    split at hz
    · rename_i k
      obtain ⟨q, ws, rfl, h1, h2⟩ := rd_dK R2 d1 e
      obtain ⟨w', h3, h4⟩ := aik_get h2 hz
      rw [ad_str d2]
      exact .inr ⟨q, w', rfl, .inl ⟨ws, .inr k, h1, rfl, h3.symm⟩, fin _ h4.ad⟩
    · cases hz
  · cases hz
/-- slices -/
theorem slA_post {δ : List (Addr × HO)} {σ : L2.St} {G H : Hp} {α β : List Addr} {s : Sto} {x : A} {v : V} {lo hi : Option Int} {Q : VK} (R : Rl X.K C δ G H α β s) (d1 : Ad X.K G α β x v) (post : Post X.K C δ X.mg W σ (Qv X.K Q) G α β (Res.of (slA s x lo hi) s)) : rSlL X.K v lo hi H Q ∨ rSlA X.K v lo hi H Q := by
  obtain ⟨z, hz, p3⟩ := Post.of post
  unfold slA at hz
  split at hz
  · rename_i ds e
    cases hz
    obtain ⟨q, vs, rfl, h1, h2⟩ := rd_list R d1 e
    refine .inl ⟨q, vs, rfl, .inl h1, fun t ht => ?_⟩
    have kn := Gr.new (o := .lst (cutV vs lo hi)) R.s ht
    exact p3 _ _ α β (Gw.of kn.g) (R.gr kn) _ (Dp.lst (.inl upd_same) (dpAll_up kn.g _ _ (cut_dp h2 lo hi)))
  · rename_i ds e
    cases hz
    have := rd_tupD e; subst this
    cases (show Dp X.K G v (.tuple ds) from d1) with
    | @tup a0 vs0 _ h1 h2 =>
      have hl := DpAll.len h2
      refine .inr ⟨_, vs0, rfl, ex_t R.s h1.sq, fun hw => p3 _ _ α β Gw.refl R _ ?_, fun _ t ht => ?_⟩
      · rw [cutD_whole (by rw [← hl]; exact hw)]
        exact Dp.tup h1 h2
      · have kn := Gr.new (o := .tup (cutV vs0 lo hi)) R.s ht
        exact p3 _ _ α β (Gw.of kn.g) (R.gr kn) _ (Dp.tup (.inl upd_same) (dpAll_up kn.g _ _ (cut_dp h2 lo hi)))
  · cases hz
theorem numO_int {K : PySem.W.Frag} {G : Hp} {α β : List Addr} {y : A} {i : Int} {u : V} (h : numO y = some i) (d : Ad K G α β y u) : u = .int i := by
  unfold numO at h
  split at h
  · cases h; exact ad_int d
  · cases h
theorem sx_slF (ha : Sx X C W T a ca) (hb : Sx X C W T b cb) : Sx X C W T (.Subscript a (.Slice (some b) none none p2) pos) (.slF ca cb) := .mk fun δ σ G H α β r s Q R n p => by
  rw [ev] at p
  refine wE_of (pe_slice (sl_list.or sl_tupA) pe_w (L2.po_some pe_w) L2.po_none) (ha.use R n p fun x s1 v G1 H1 α1 β1 g1 R1 n1 d1 p1 => hb.use R1 n1 p1 fun y s2 u G2 H2 α2 β2 g2 R2 n2 d2 p2 => ?_)
  split at p2
  · rename_i i hi
    exact ⟨i, numO_int hi d2, slA_post R2 (d1.up g2) p2⟩
  · exact p2.elim
theorem sx_slT (ha : Sx X C W T a ca) (hb : Sx X C W T b cb) : Sx X C W T (.Subscript a (.Slice none (some b) none p2) pos) (.slT ca cb) := .mk fun δ σ G H α β r s Q R n p => by
  rw [ev] at p
  refine wE_of (pe_slice (sl_list.or sl_tupA) pe_w L2.po_none (L2.po_some pe_w)) (ha.use R n p fun x s1 v G1 H1 α1 β1 g1 R1 n1 d1 p1 => hb.use R1 n1 p1 fun y s2 u G2 H2 α2 β2 g2 R2 n2 d2 p2 => ?_)
  split at p2
  · rename_i i hi
    exact ⟨i, numO_int hi d2, slA_post R2 (d1.up g2) p2⟩
  · exact p2.elim
theorem sx_slB (ha : Sx X C W T a ca) (hb : Sx X C W T b cb) (hc : Sx X C W T c cc) : Sx X C W T (.Subscript a (.Slice (some b) (some c) none p2) pos) (.slB ca cb cc) := .mk fun δ σ G H α β r s Q R n p => by
  rw [ev] at p
  refine wE_of (pe_slice (sl_list.or sl_tupA) pe_w (L2.po_some pe_w) (L2.po_some pe_w)) (ha.use R n p fun x s1 v G1 H1 α1 β1 g1 R1 n1 d1 p1 => hb.use R1 n1 p1 fun y s2 u G2 H2 α2 β2 g2 R2 n2 d2 p2 => ?_)
  split at p2
  · rename_i i hi
    refine ⟨i, numO_int hi d2, hc.use R2 n2 p2 fun z s3 w G3 H3 α3 β3 g3 R3 n3 d3 p3 => ?_⟩
    split at p3
    · rename_i j hj
      exact ⟨j, numO_int hj d3, slA_post R3 ((d1.up g2).up g3) p3⟩
    · exact p3.elim
  · exact p2.elim
theorem sx_rev {k : Nat} {p1 p3 : Pos} (ha : Sx X C W T a ca) : Sx X C W T (.Subscript a (.Slice none none (some (.UnaryOp .USub (.Constant (.int 1) k p1) p2)) p3) pos) (.rev ca) := .mk fun δ σ G H α β r s Q R n p => by
  rw [ev] at p
  refine wE_of (pe_revT pe_w) (ha.use R n p fun x s1 v G1 H1 α1 β1 g1 R1 n1 d1 p1 => ?_)
  obtain ⟨z, hz, p2⟩ := Post.of p1
  unfold revA at hz
  split at hz
  · rename_i ds e
    cases hz
    have := rd_tupD e; subst this
    cases (show Dp X.K G1 v (.tuple ds) from d1) with
    | @tup a0 vs0 _ h1 h2 =>
      refine ⟨_, vs0, rfl, ex_t R1.s h1.sq, fun t ht => ?_⟩
      have kn := Gr.new (o := .tup vs0.reverse) R1.s ht
      exact p2 _ _ α1 β1 (Gw.of kn.g) (R1.gr kn) _ (Dp.tup (.inl upd_same) (dpAll_up kn.g _ _ (DpAll.rev h2)))
  · cases hz
/-- o.f -/
theorem aif_get {K : PySem.W.Frag} {G : Hp} {α : List Addr} {k : Str} : ∀ {kvs : List (Str × A)} {ws : List (Str × V)} {a : A}, AiF K G α kvs ws → kvs.lookup k = some a → ∃ v, ws.lookup k = some v ∧ Ai K G α a v
  | [], _, _, _, e => by cases e
  | q :: kvs, _, a, ⟨v, t, h1, h2, h3⟩, e => by
    subst h1
    rw [List.lookup_cons] at e ⊢
    cases hk : k == q.1 with
    | true =>
      rw [hk] at e
      cases e
      exact ⟨v, rfl, h2⟩
    | false =>
      rw [hk] at e
      exact aif_get h3 e
theorem aif_none {K : PySem.W.Frag} {G : Hp} {α : List Addr} {k : Str} : ∀ {kvs : List (Str × A)} {ws : List (Str × V)}, AiF K G α kvs ws → kvs.lookup k = none → ws.lookup k = none
  | [], _, h, _ => by rw [show _ = [] from h]; rfl
  | q :: kvs, _, ⟨v, t, h1, h2, h3⟩, e => by
    subst h1
    rw [List.lookup_cons] at e ⊢
    cases hk : k == q.1 with
    | true => rw [hk] at e; cases e
    | false =>
      rw [hk] at e
      exact aif_none h3 e
/-- an instance -/
theorem ins_at {K : PySem.W.Frag} {δ : List (Addr × HO)} {G H : Hp} {α β : List Addr} {s : Sto} {n : Nat} {fs : List (Str × A)} {v : V} (R : Rl K C δ G H α β s) (d1 : Ad K G α β (.ref n) v) (h : s.P[n]? = some (.ins fs)) : ∃ q dx ws, α[n]? = some q ∧ v = .ref q ∧ H q = some (.ins C dx ws) ∧ AiF K G α fs ws := by
  obtain ⟨q, h1, h2⟩ := R.P n _ h
  obtain ⟨q', h3, h4⟩ := d1
  rw [h1] at h3
  cases h3
  obtain ⟨dx, ws, h5, h6⟩ := h2
  exact ⟨q, dx, ws, h1, h4, h5, h6⟩
theorem attrA_ins {s : Sto} {x z : A} {f : Str} (h : attrA s x f = some z) : ∃ n fs, x = .ref n ∧ s.P[n]? = some (.ins fs) ∧ fs.lookup f = some z := by
  unfold attrA at h
  split at h
  · rename_i n
    split at h
    · rename_i fs hfs
      exact ⟨n, fs, rfl, hfs, h⟩
    · cases h
  · cases h
theorem sx_attr {f : Str} (hc : Cls X.K C) (hn : NoAttr X.K C f) (ho : Sx X C W T o ca) (hb : attributeBase o f X.env (eval o X.env) = eval o X.env := by rfl) : Sx X C W T (.Attribute o f pos) (.attr ca f) := .mk fun δ σ G H α β r s Q R n p => by
  rw [ev] at p
  refine wE_of (pe_fld pe_w hb) (ho.use R n p fun x s1 v G1 H1 α1 β1 g1 R1 n1 d1 p1 => ?_)
  obtain ⟨z, hz, p2⟩ := Post.of p1
  obtain ⟨m, fs, rfl, h1, h2⟩ := attrA_ins hz
  obtain ⟨q, dx, ws, _, rfl, h3, h4⟩ := ins_at R1 d1 h1
  obtain ⟨w, h5, h6⟩ := aif_get h4 h2
  exact ⟨q, C, dx, ws, w, rfl, h3, hc, hn, h5, p2 G1 H1 α1 β1 Gw.refl R1 w h6.ad⟩
end
end Fb

/-! Rf: calls of defs, methods, the class; built-ins. -/
namespace Fb
open PySem PySem.Spec PyProof.Rows L2 Evl
/-- the promise of a def that computes f -/
def spT (K : PySem.W.Frag) (C : Addr) (mg : Str → Option Value) (f : List A → Sto → Res A) : Sp := fun vs H Q E => ∃ δ G α β as s, Rl K C δ G H α β s ∧ AdL K G α β as vs ∧ Post K C δ mg (fun cls d _ H2 => E cls d H2) [] (Qv K Q) G α β (f as s)
theorem Post.re {K : PySem.W.Frag} {C : Addr} {δ : List (Addr × HO)} {mg : Str → Option Value} {W W' : WX} {σ σ' : L2.St} {γ : Type} {Z Z' : Hp → Hp → List Addr → List Addr → γ → Prop} {G : Hp} {α β : List Addr} {m : Res γ} (p : Post K C δ mg W σ Z G α β m)
    (hw : ∀ c d H, W c d σ H → W' c d σ' H) (hz : ∀ G2 H2 α2 β2 x, Gw G α β G2 α2 β2 → Z G2 H2 α2 β2 x → Z' G2 H2 α2 β2 x) : Post K C δ mg W' σ' Z' G α β m := by
  cases m with
  | ok x s => exact fun G2 H2 α2 β2 g R => hz _ _ _ _ _ g (p G2 H2 α2 β2 g R)
  | er c s => exact fun G2 H2 α2 β2 g R B hB => hw _ _ _ (p G2 H2 α2 β2 g R B hB)
  | no => exact p
section
variable {X : Cx} {C : Addr} {W : WX} {T : Tab} {a b c d e o : Expr} {es rest : List Expr} {ca cb cc cd ce : E} {cs : Es} {pos p p2 apos cpos q : Pos}
theorem sx_call {x : Str} {k j : Nat} (F : Fc X.prog X.w X.K X.mg X.base k x (spT X.K C X.mg (T.fn x))) (hr : Room j X.A) (tk : Takes X W) (ha : Sa X C W T (e :: es) cs) (hk : k ≤ j := by decide) (hg : Gl X x := by rfl)
    (hdb : (x == ("__debug__" : Str)) = false := by decide) (he : starEach (e :: es) X.env = (false, eval e X.env) :: starEach es X.env := by rfl) (hpl : (backTo pos (starEach es X.env)).any (·.1) = false := by rfl) :
    Sx X C W T (.Call (.Name x p) (e :: es) [] pos) (.call x cs) := .mk fun δ σ G H α β r s Q R n p => by
  rw [ev] at p
  obtain ⟨f, fd, ps, F, hm, hkp, hb⟩ := F.ex
  refine wE_of (pe_callS F (hr.mono hk) hg hm hkp hb (fun σ => passAt tk σ) pa_w hdb he hpl) (ha.use R n p fun xs s1 vs G1 H1 α1 β1 g1 R1 n1 d1 p1 => ?_)
  exact ⟨δ, G1, α1, β1, xs, s1, R1, d1, p1.re (fun _ _ _ h => h) fun _ _ _ _ _ _ h => h⟩
theorem pass_x {σ : L2.St} (tk : Takes X W) : PassesAt (L2.CX X.prog X.w) X σ (WE W σ) := passAt tk σ
theorem sx_meth {m : Str} {k j : Nat} {pl : Sem Bool} (F : Fm X.prog X.w X.K X.mg X.base k C m (spT X.K C X.mg (T.fn m))) (hc : Cls X.K C) (hr : Room j X.A) (tk : Takes X W) (ho : Sx X C W T o ca) (ha : Sa X C W T (e :: es) cs) (hk : k ≤ j := by decide)
    (hst : starEach (e :: es) X.env = (false, eval e X.env) :: starEach es X.env := by rfl) (hpl : (backTo pos (starEach es X.env)).any (·.1) = false := by rfl)
    (ht : eval (.Call (.Attribute o m apos) (e :: es) [] pos) X.env = (do
        let z ← eval o X.env
        standAt apos.atName
        let (u, first) ← holding [z] (getMethod z m pl)
        callWith pos u first (backTo pos (starEach (e :: es) X.env)) (backToKw pos (keywordEach [] X.env))) := by rfl) : Sx X C W T (.Call (.Attribute o m apos) (e :: es) [] pos) (.meth ca m cs) := .mk fun δ σ G H α β r s Q R n p pins sh I => by
  rw [ev] at p
  obtain ⟨f, fd, ps, F, hm, hb⟩ := F.ex
  refine PySem.W.methodCall_KW (pl := pl) (thn (ho.use (Q := fun x H1 => ∃ q dx ws, x = .ref q ∧ H1 q = some (.ins C dx ws) ∧ ws.lookup m = none ∧ wA X (e :: es) σ H1 fun vs H2 => spT X.K C X.mg (T.fn m) (.ref q :: vs) H2 Q (WE W σ)) R n p (fun x s1 v G1 H1 α1 β1 g1 R1 n1 d1 p1 => ?_) pins sh I) fun u s1 ⟨x, H1, I1, rx, q, dx, ws, hx, h1, h2, h3⟩ => ?_) ht
  · split at p1
    · rename_i i
      split at p1
      · rename_i fs hfs
        split at p1
        · rename_i hl
          obtain ⟨q, dx, ws, hq, rfl, h3, h4⟩ := ins_at R1 d1 hfs
          refine ⟨q, dx, ws, rfl, h3, aif_none h4 hl, ha.use R1 n1 p1 fun xs s2 vs G2 H2 α2 β2 g2 R2 n2 d2 p2 => ?_⟩
          exact ⟨δ, G2, α2, β2, .ref i :: xs, s2, R2, ⟨_, _, rfl, Ad.up g2 d1, d2⟩, p2.re (fun _ _ _ h => h) fun _ _ _ _ _ _ h => h⟩
        · exact p1.elim
      · exact p1.elim
    · exact p1.elim
  · subst hx
    obtain rfl : u = Value.ref q := rx
    refine getmeth_ok I1 h1 hc hm h2 ?_
    refine PySem.W.callWith_K (first := [.ref q]) (h₀ := X.base) I.ok.mod.kin hm.kp (thn (h3 pos pins s1 I1) fun us s2 ⟨vs, H2, I2, rv, k2⟩ => ⟨I2.kIn, ?_⟩) hst hpl
    exact run_fnS (us := .ref q :: us) (vs := .ref q :: vs) (E := fun σ => WE W σ) F (hr.mono hk) hb (pass_x tk) I2 (.cons rfl rv) k2
theorem sx_meth0 {m : Str} {k j : Nat} {pl : Sem Bool} (F : Fm X.prog X.w X.K X.mg X.base k C m (spT X.K C X.mg (T.fn m))) (hc : Cls X.K C) (hr : Room j X.A) (tk : Takes X W) (ho : Sx X C W T o ca) (hk : k ≤ j := by decide)
    (ht : eval (.Call (.Attribute o m apos) [] [] pos) X.env = (do
        let z ← eval o X.env
        standAt apos.atName
        let (u, first) ← holding [z] (getMethod z m pl)
        callWith pos u first (backTo pos (starEach [] X.env)) (backToKw pos (keywordEach [] X.env))) := by rfl) : Sx X C W T (.Call (.Attribute o m apos) [] [] pos) (.meth ca m .nil) := .mk fun δ σ G H α β r s Q R n p pins sh I => by
  rw [ev] at p
  obtain ⟨f, fd, ps, F, hm, hb⟩ := F.ex
  refine PySem.W.methodCall_KW (pl := pl) (thn (ho.use (Q := fun x H1 => ∃ q dx ws, x = .ref q ∧ H1 q = some (.ins C dx ws) ∧ ws.lookup m = none ∧ spT X.K C X.mg (T.fn m) [.ref q] H1 Q (WE W σ)) R n p (fun x s1 v G1 H1 α1 β1 g1 R1 n1 d1 p1 => ?_) pins sh I) fun u s1 ⟨x, H1, I1, rx, q, dx, ws, hx, h1, h2, h3⟩ => ?_) ht
  · split at p1
    · rename_i i
      split at p1
      · rename_i fs hfs
        split at p1
        · rename_i hl
          obtain ⟨q, dx, ws, hq, rfl, h3, h4⟩ := ins_at R1 d1 hfs
          rw [evs] at p1
          have p2 : Post X.K C δ X.mg W σ (Qv X.K Q) G1 α1 β1 (T.fn m [.ref i] s1) := p1
          exact ⟨q, dx, ws, rfl, h3, aif_none h4 hl, δ, G1, α1, β1, [.ref i], s1, R1, ⟨_, [], rfl, d1, rfl⟩, p2.re (fun _ _ _ h => h) fun _ _ _ _ _ _ h => h⟩
        · exact p1.elim
      · exact p1.elim
    · exact p1.elim
  · subst hx
    obtain rfl : u = Value.ref q := rx
    refine getmeth_ok I1 h1 hc hm h2 ?_
    exact PySem.W.callWith_K0 (first := [.ref q]) I1.kIn hm.kp (run_fnS (us := [.ref q]) (vs := [.ref q]) (E := fun σ => WE W σ) F (hr.mono hk) hb (pass_x tk) I1 (.cons rfl .nil) h3)
/-- C(e, ..) -/
theorem sx_make {x : Str} {k j : Nat} (F : Fk X.prog X.w X.K X.mg X.base k C x (spT X.K C X.mg T.mak)) (hr : Room j X.A) (tk : Takes X W) (ha : Sa X C W T (e :: es) cs) (hk : k + 1 ≤ j := by decide) (hg : Gl X x := by rfl)
    (hdb : (x == ("__debug__" : Str)) = false := by decide) (he : starEach (e :: es) X.env = (false, eval e X.env) :: starEach es X.env := by rfl) (hpl : (backTo pos (starEach es X.env)).any (·.1) = false := by rfl) :
    Sx X C W T (.Call (.Name x p) (e :: es) [] pos) (.make cs) := .mk fun δ σ G H α β r s Q R n p pins sh I => by
  rw [ev] at p
  obtain ⟨f, fd, ps, F, M, hb, hm⟩ := F.ex
  refine wpAny_Call_Name_kw (ld_glob I hg hm ?_ hdb)
  refine PySem.W.callWith_K (h₀ := X.base) I.ok.mod.kin M.kp (thn (ha.use (Q := fun vs H1 => ∀ q dx, H1 q = none → H1 dx = none → dx ≠ q → spT X.K C X.mg T.mak (.ref q :: vs) (upd (upd H1 dx (.own q)) q (.ins C dx [])) (fun v H2 => v = .non ∧ Q (.ref q) H2) (WE W σ)) R n p (fun xs s1 vs G1 H1 α1 β1 g1 R1 n1 d1 p1 => ?_) pos pins sh I) fun us s1 ⟨vs, H1, I1, rv, k1⟩ => ⟨I1.kIn, ?_⟩) he hpl
  · intro q dx hq hdx hne
    have R2 : Rl X.K C δ G1 (upd H1 dx (.own q)) α1 β1 s1 := (R1.lay hdx).drop
    have hq2 : upd H1 dx (.own q) q = none := by rw [upd_ne hne.symm]; exact hq
    have R3 := (R2.lay (o := .ins C dx []) hq2).pushP (ob := .ins []) ⟨dx, [], upd_same, rfl⟩
    have gw : Gw G1 α1 β1 G1 (α1 ++ [q]) β1 := ⟨Ex.refl _, ⟨[q], rfl⟩, ⟨[], by simp⟩⟩
    have hnn : (α1 ++ [q])[s1.P.length]? = some q := by rw [← R1.la]; simp
    refine ⟨δ, G1, α1 ++ [q], β1, .ref s1.P.length :: xs, _, R3, ⟨_, _, rfl, ⟨q, hnn, rfl⟩, d1.up gw⟩, ?_⟩
    have p2 := Post.up p1 gw
    cases hm : T.mak (.ref s1.P.length :: xs) ⟨s1.P ++ [.ins []], s1.S⟩ with
    | ok y s' =>
      rw [hm] at p2
      simp only [Res.bind] at p2
      split at p2
      · intro G2 H2 α2 β2 g2 R2 v hv
        refine ⟨ad_none hv, p2 G2 H2 α2 β2 g2 R2 _ ?_⟩
        obtain ⟨_, ⟨mm, rfl⟩, _⟩ := g2
        exact ⟨q, get_app hnn, rfl⟩
      · exact p2.elim
    | er c s' => rw [hm] at p2; exact fun G2 H2 α2 β2 g2 R2 B hB => p2 G2 H2 α2 β2 g2 R2 B hB
    | no => rw [hm] at p2; exact p2
  have hq := k1 (s1.heap.objs.size + 1) s1.heap.objs.size (I1.hok.fresh (Nat.le_succ _)) (I1.hok.fresh (Nat.le_refl _)) (Nat.ne_of_lt (Nat.lt_succ_self _))
  have I2 := Inv.made (C := C) I1
  have hl := F.len _ _ _ _ hq
  have r2 : Vals (V.ref (s1.heap.objs.size + 1) :: vs) (Value.ref (s1.heap.objs.size + 1) :: us) := .cons rfl rv
  rw [r2.length] at hl
  have bb := hb _ (Value.ref (s1.heap.objs.size + 1) :: us) I2.kIn (by rw [List.append_nil]; exact hl)
  rw [List.append_nil] at bb
  refine wpAny_call (make_map (f := f) I1.kIn M.makes M.init (beq_iff_eq.mp M.fn) (codeAny_mono (F.run _ X.stack _ _ _ _ _ _ _ ((hr.mono hk).make C us []) (I2.env0.make C us []) bb r2 hq) fun w s' hq' => ?_))
  cases w with
  | error e => exact pass_x (σ := σ) tk pins _ _ e s' I2 hq'
  | ok fl =>
    cases fl with
    | ret u =>
      obtain ⟨v, H', I3, rv3, ev, k2⟩ := I2.after hq'
      subst ev
      exact ⟨rv3, ⟨V.ref (s1.heap.objs.size + 1), H', I3, rfl, k2⟩⟩
    | next => exact False.elim hq'
    | brk => exact False.elim hq'
    | cont => exact False.elim hq'
/-! ### built-ins of one argument -/
/-- what is asked of a built-in -/
def B1R (X : Cx) (C : Addr) (f : B1) (m : Nat) (g : List V → Hp → VK → Prop) : Prop := ∀ δ (W : WX) σ G H α β s x v (Q : VK), Rl X.K C δ G H α β s → Ad X.K G α β x v → Post X.K C δ X.mg W σ (Qv X.K Q) G α β (b1A f m s x) → g [v] H Q
theorem adl1 {K : PySem.W.Frag} {G : Hp} {α β : List Addr} {xs : List A} {vs : List V} (h : AdL K G α β xs vs) (hx : xs.length = 1) : ∃ x v, xs = [x] ∧ vs = [v] ∧ Ad K G α β x v := by
  cases xs with
  | nil => simp at hx
  | cons x t =>
    cases t with
    | cons y t => simp at hx
    | nil =>
      obtain ⟨v, t, h1, h2, h3⟩ := h
      rw [show t = [] from h3] at h1
      exact ⟨x, v, rfl, h1, h2⟩
theorem sx_b1 {x : Str} {id : String} {f : B1} {m : Nat} {g : List V → Hp → VK → Prop} (hc : CallR X (.builtin id) g) (hm : X.mg x = none) (hv : bootBuiltins x = some (.builtin id)) (hr : B1R X C f m g) (ha : Sx X C W T a ca) (hg : Gl X x := by rfl)
    (hn : x ≠ "__name__" := by decide) (hdb : (x == ("__debug__" : Str)) = false := by decide) (he : starEach [a] X.env = (false, eval a X.env) :: starEach [] X.env := by rfl) (hpl : (backTo pos (starEach [] X.env)).any (·.1) = false := by rfl) :
    Sx X C W T (.Call (.Name x p) [a] [] pos) (.b1 f m ca) := .mk fun δ σ G H α β r s Q R n p => by
  rw [ev] at p
  refine wE_of (pe_callB hc hg hm hv (L2.pa_cons pe_w L2.pa_nil he) hn hdb he hpl) (ha.use R n p fun y s1 v G1 H1 α1 β1 g1 R1 n1 d1 p1 => ?_)
  exact hr δ W σ G1 H1 α1 β1 s1 y v Q R1 d1 p1
theorem sx_b1T {x : Str} {ty : String} {f : B1} {m : Nat} {g : List V → Hp → VK → Prop} (hc : CallR X (.type ty) g) (hm : X.mg x = none) (hv : bootBuiltins x = some (.type ty)) (hr : B1R X C f m g) (ha : Sx X C W T a ca) (hg : Gl X x := by rfl)
    (hn : x ≠ "__name__" := by decide) (hdb : (x == ("__debug__" : Str)) = false := by decide) (he : starEach [a] X.env = (false, eval a X.env) :: starEach [] X.env := by rfl) (hpl : (backTo pos (starEach [] X.env)).any (·.1) = false := by rfl) :
    Sx X C W T (.Call (.Name x p) [a] [] pos) (.b1 f m ca) := .mk fun δ σ G H α β r s Q R n p => by
  rw [ev] at p
  refine wE_of (pe_callTy hc hg hm hv (L2.pa_cons pe_w L2.pa_nil he) hn hdb he hpl) (ha.use R n p fun y s1 v G1 H1 α1 β1 g1 R1 n1 d1 p1 => ?_)
  exact hr δ W σ G1 H1 α1 β1 s1 y v Q R1 d1 p1
theorem CallR.or {f : Value} {r r' : List V → Hp → VK → Prop} (h : CallR X f r) (h' : CallR X f r') : CallR X f (fun xs H Q => r xs H Q ∨ r' xs H Q) := by
  intro pins s σ H xs us Q I rr q
  rcases q with q | q
  · exact h pins s σ H xs us Q I rr q
  · exact h' pins s σ H xs us Q I rr q
theorem lenA_of {K : PySem.W.Frag} {δ : List (Addr × HO)} {G H : Hp} {α β : List Addr} {s : Sto} {x : A} {v : V} {n : Nat} (R : Rl K C δ G H α β s) (d1 : Ad K G α β x v) (h : lenA s x = some n) : LenV K v H n := by
  unfold lenA at h
  split at h
  · rename_i y e
    have := rd_str e; subst this
    split at h
    · rename_i hl
      cases h
      rw [ad_str d1]
      exact ⟨sz_of hl, rfl⟩
    · cases h
  · rename_i y h1 e
    have hd := rd_dp R d1 e
    refine lenV_of hd ?_ h
    cases y <;> first | trivial | exact absurd rfl (h1 _)
  · rename_i xs e
    have := rd_lstA e; subst this
    cases h
    obtain ⟨p, vs, rfl, h1, h2⟩ := (show Ai K G α (.lst xs) v from d1)
    exact .inl ⟨vs, .inl (ex_rd R.s h1), (AiL.len h2).symm⟩
  · rename_i xs e
    have := rd_tupA e; subst this
    cases h
    obtain ⟨p, vs, rfl, h1, h2⟩ := (show Ai K G α (.tup xs) v from d1)
    exact .inr ⟨vs, .inl (.inl (R.s _ _ h1)), (AiL.len h2).symm⟩
  · rename_i ns e
    have := rd_sc e; subst this
    cases h
    obtain ⟨p, rfl, h1⟩ := (show Ai K G α (.sc ns) v from d1)
    exact .inl ⟨_, ex_l R.s h1, by simp⟩
  · cases h
theorem sx_len (hm : X.mg "len" = none) (ha : Sx X C W T a ca) (hg : Gl X "len" := by rfl) (he : starEach [a] X.env = (false, eval a X.env) :: starEach [] X.env := by rfl) (hpl : (backTo pos (starEach [] X.env)).any (·.1) = false := by rfl) : Sx X C W T (.Call (.Name "len" p) [a] [] pos) (.b1 .len 0 ca) :=
  sx_b1 call_len hm PySem.boot_len (fun δ W σ G H α β s x v Q R d1 p1 => by
    obtain ⟨z, hz, p2⟩ := Post.of p1
    cases hl : lenA s x with
    | none => rw [hl] at hz; cases hz
    | some n =>
      rw [hl] at hz
      cases hz
      exact ⟨v, n, rfl, lenA_of R d1 hl, p2 G H α β Gw.refl R _ (Dp.int _)⟩) ha hg (he := he) (hpl := hpl)
theorem sx_abs (hm : X.mg "abs" = none) (ha : Sx X C W T a ca) (hg : Gl X "abs" := by rfl) (he : starEach [a] X.env = (false, eval a X.env) :: starEach [] X.env := by rfl) (hpl : (backTo pos (starEach [] X.env)).any (·.1) = false := by rfl) : Sx X C W T (.Call (.Name "abs" p) [a] [] pos) (.b1 .abs 0 ca) :=
  sx_b1 call_abs hm PyProof.Rows.boot_abs (fun δ W σ G H α β s x v Q R d1 p1 => by
    simp only [b1A] at p1
    split at p1
    · rename_i i
      exact ⟨i, by rw [ad_int d1], p1 G H α β Gw.refl R _ (Dp.int _)⟩
    · exact p1.elim) ha hg (he := he) (hpl := hpl)
theorem sx_int1 (hm : X.mg "int" = none) (ha : Sx X C W T a ca) (hg : Gl X "int" := by rfl) (he : starEach [a] X.env = (false, eval a X.env) :: starEach [] X.env := by rfl) (hpl : (backTo pos (starEach [] X.env)).any (·.1) = false := by rfl) : Sx X C W T (.Call (.Name "int" p) [a] [] pos) (.b1 .int 0 ca) :=
  sx_b1T (CallR.or call_int1 call_int_str) hm PyProof.Rows.boot_int (fun δ W σ G H α β s x v Q R d1 p1 => by
    simp only [b1A] at p1
    split at p1
    · rename_i i
      exact .inl (.inr ⟨i, by rw [ad_bool d1], p1 G H α β Gw.refl R _ (Dp.int _)⟩)
    · rename_i y
      split at p1
      · rename_i n hn
        split at p1
        · rename_i hl
          exact .inr ⟨y, n, by rw [ad_str d1], hn, hl, p1 G H α β Gw.refl R _ (Dp.int _)⟩
        · exact p1.elim
      · exact p1.elim
    · exact p1.elim) ha hg (he := he) (hpl := hpl)
theorem sx_tuple1 (hm : X.mg "tuple" = none) (ha : Sx X C W T a ca) (hg : Gl X "tuple" := by rfl) (he : starEach [a] X.env = (false, eval a X.env) :: starEach [] X.env := by rfl) (hpl : (backTo pos (starEach [] X.env)).any (·.1) = false := by rfl) : Sx X C W T (.Call (.Name "tuple" p) [a] [] pos) (.b1 .tuple 0 ca) :=
  sx_b1T call_tuple_of hm PyProof.Rows.boot_tuple (fun δ W σ G H α β s x v Q R d1 p1 => by
    simp only [b1A] at p1
    split at p1
    · rename_i ds e
      obtain ⟨q, vs, rfl, h1, h2⟩ := rd_list R d1 e
      refine ⟨q, vs, rfl, .inl ⟨.inl h1, fun l hl => ?_⟩⟩
      have kn := Gr.new (o := .tup vs) R.s hl
      exact p1 _ _ α β (Gw.of kn.g) (R.gr kn) _ (Dp.tup (.inl upd_same) (dpAll_up kn.g _ _ h2))
    · rename_i ds e
      have := rd_tupD e; subst this
      cases (show Dp X.K G v (.tuple ds) from d1) with
      | tup h1 h2 => exact ⟨_, _, rfl, .inr ⟨ex_t R.s h1.sq, p1 G H α β Gw.refl R _ (Dp.tup h1 h2)⟩⟩
    · exact p1.elim) ha hg (he := he) (hpl := hpl)
theorem keys_rl {K : PySem.W.Frag} {δ : List (Addr × HO)} {G H : Hp} {α β : List Addr} {s : Sto} {ws : List (List Key × V)} {kvs : List (List Key × PyData)} {bs : List Addr} (R : Rl K C δ G H α β s) (hp : PrD K G ws kvs) (hb : IsKeys H ws bs) : ∃ G2, Ex G G2 ∧ Rl K C δ G2 H α β s ∧ DpAll K G2 (bs.map V.ref) (kvs.map fun q => keyD q.1) := by
  obtain ⟨G2, k2, q2⟩ := keys_in R.s hp hb
  exact ⟨G2, k2.g, R.gr k2, q2⟩
theorem adl_of {K : PySem.W.Frag} {G : Hp} {α β : List Addr} {ds : List PyData} {vs : List V} (h : DpAll K G vs ds) : AdL K G α β (ds.map .d) vs := (AiL.of h).ad
theorem sx_list1 {m : Nat} (hm : X.mg "list" = none) (ha : Sx X C W T a ca) (hc : X.calm = true := by rfl) (hg : Gl X "list" := by rfl) (he : starEach [a] X.env = (false, eval a X.env) :: starEach [] X.env := by rfl) (hpl : (backTo pos (starEach [] X.env)).any (·.1) = false := by rfl) : Sx X C W T (.Call (.Name "list" p) [a] [] pos) (.b1 .list m ca) :=
  sx_b1T (CallR.or call_list_of (call_list_dT hc)) hm PyProof.Rows.boot_list (fun δ W σ G H α β s x v Q R d1 p1 => by
    simp only [b1A] at p1
    split at p1
    · rename_i ds e
      obtain ⟨q, vs, rfl, h1, h2⟩ := rd_list R d1 e
      exact .inl ⟨q, vs, rfl, .inl (.inl h1), fun l hl => newL_post (R.lay hl) (adl_of h2) p1⟩
    · rename_i ds e
      have := rd_tupD e; subst this
      cases (show Dp X.K G v (.tuple ds) from d1) with
      | tup h1 h2 => exact .inl ⟨_, _, rfl, .inr (ex_t R.s h1.sq), fun l hl => newL_post (R.lay hl) (adl_of h2) p1⟩
    · rename_i kvs e
      obtain ⟨q, ws, rfl, h1, h2⟩ := rd_dT R d1 e
      refine .inr ⟨q, ws, rfl, h1, fun l bs hl hb => ?_⟩
      obtain ⟨G2, g2, R2, q2⟩ := keys_rl R h2 hb
      have q3 := adl_of (α := α) (β := β) q2
      rw [List.map_map] at q3
      exact newL_post (R2.lay hl) q3 (Post.up p1 (Gw.of g2))
    · exact p1.elim) ha hg (he := he) (hpl := hpl)
theorem pairsD_eq : ∀ {ds : List PyData} {kvs : List (List Key × PyData)}, pairsD ds = some kvs → ds = kvs.map pairD ∧ ∀ q ∈ kvs, kInt q.1 = true
  | [], _, h => by cases h; exact ⟨rfl, fun _ h => by cases h⟩
  | x :: ds, kvs, h => by
    unfold pairsD at h
    split at h
    · rename_i heq
      cases heq
    · rename_i k v r heq
      cases heq
      split at h
      · rename_i k' l hk hl
        cases h
        obtain ⟨e, h2⟩ := pairsD_eq hl
        obtain ⟨e1, e2⟩ := keyA_eq hk
        cases e1
        exact ⟨by rw [e, List.map_cons]; rfl, fun q hq => by
          rcases List.mem_cons.mp hq with rfl | hq
          · exact e2
          · exact h2 q hq⟩
      · cases h
    · cases h
theorem sx_dict1 {m : Nat} (h : Hx X) (hm : X.mg "dict" = none) (ha : Sx X C W T a ca) (hc : X.calm = true := by rfl) (hg : Gl X "dict" := by rfl) (he : starEach [a] X.env = (false, eval a X.env) :: starEach [] X.env := by rfl) (hpl : (backTo pos (starEach [] X.env)).any (·.1) = false := by rfl) : Sx X C W T (.Call (.Name "dict" p) [a] [] pos) (.b1 .dict m ca) :=
  sx_b1T (call_dictT hc (by have := h.hu; omega)) hm PyProof.Rows.boot_dict (fun δ W σ G H α β s x v Q R d1 p1 => by
    simp only [b1A] at p1
    split at p1
    · rename_i ds e
      split at p1
      · rename_i prs hp
        split at p1
        · obtain ⟨rfl, hk⟩ := pairsD_eq hp
          obtain ⟨q, vs, rfl, h1, h2⟩ := rd_list R d1 e
          obtain ⟨ps, kvs, rfl, r1, r2⟩ := pairs_dp R.s hk h2
          exact ⟨_, ps, kvs, rfl, .inl h1, r2, fun l hl => newT_post (R.lay hl) (prd_merge r1 .nil) p1⟩
        · exact p1.elim
      · exact p1.elim
    · exact p1.elim) ha hg (he := he) (hpl := hpl)
theorem sortOkB_ok {ds : List PyData} (h : sortOkB ds = true) : SortOk ds := by
  unfold sortOkB at h
  simp only [Bool.and_eq_true, List.all_eq_true] at h
  obtain ⟨⟨⟨⟨h1, h2⟩, h3⟩, h4⟩, h5⟩ := h
  refine ⟨fun d hd => ?_, h2, fun d hd => of_decide_eq_true (h3 d hd), fun x r y q hx hy => ?_, fun xs ys hx hy => h5 _ hx _ hy⟩
  · have := h1 d hd
    split at this
    · exact ⟨_, _, rfl⟩
    · cases this
  · exact of_decide_eq_true (h4 _ hx _ hy)
theorem sx_sorted {m : Nat} (h : Hx X) (hm : X.mg "sorted" = none) (ha : Sx X C W T a ca) (hc : X.calm = true := by rfl) (hg : Gl X "sorted" := by rfl) (he : starEach [a] X.env = (false, eval a X.env) :: starEach [] X.env := by rfl) (hpl : (backTo pos (starEach [] X.env)).any (·.1) = false := by rfl) : Sx X C W T (.Call (.Name "sorted" p) [a] [] pos) (.b1 .sorted m ca) :=
  sx_b1 (CallR.or (cr_sortD h.hu) (cr_sortT hc h.hu)) hm PyProof.Rows.boot_sorted (fun δ W σ G H α β s x v Q R d1 p1 => by
    simp only [b1A] at p1
    split at p1
    · rename_i ds e
      split at p1
      · rename_i hs
        obtain ⟨q, vs, rfl, h1, h2⟩ := rd_list R d1 e
        refine .inl ⟨q, vs, ds, rfl, .inl h1, DpAll.l2 _ _ (dpAll_up R.s _ _ h2), sortOkB_ok hs, fun zs l hz hzs hl => newL_post (R.lay hl) ?_ p1⟩
        rw [← hzs]
        exact adl_of (dpAll_pick h2 hz)
      · exact p1.elim
    · rename_i kvs e
      split at p1
      · rename_i hs
        obtain ⟨q, ws, rfl, h1, h2⟩ := rd_dT R d1 e
        have ek := prd_keys h2
        refine .inr ⟨q, ws, rfl, h1, by rw [ek]; exact sortOkB_ok hs, fun bs zs l hb hz hzs hl => ?_⟩
        obtain ⟨G2, g2, R2, q2⟩ := keys_rl R h2 hb
        rw [ek] at hz hzs
        refine newL_post (R2.lay hl) ?_ (Post.up p1 (Gw.of g2))
        rw [← hzs]
        exact adl_of (dpAll_pick q2 hz)
      · exact p1.elim
    · exact p1.elim) ha hg (he := he) (hpl := hpl)
theorem alikeOk_of {ds : List PyData} (h : alikeOk ds = true) : PySem.W.AlikeAll ds ∧ PyData.depthAll ds ≤ 8 ∧ PyData.canLayAll0 ds = true := by
  unfold alikeOk at h
  simp only [Bool.and_eq_true, List.all_eq_true, decide_eq_true_iff] at h
  obtain ⟨⟨⟨h1, h2⟩, h3⟩, h4⟩ := h
  exact ⟨⟨h1, fun x hx z => by have := h2 x hx; rw [z] at this; cases this⟩, h3, h4⟩
theorem sx_max1 (h : Hx X) (hm : X.mg "max" = none) (ha : Sx X C W T a ca) (hc : X.calm = true := by rfl) (hg : Gl X "max" := by rfl) (he : starEach [a] X.env = (false, eval a X.env) :: starEach [] X.env := by rfl) (hpl : (backTo pos (starEach [] X.env)).any (·.1) = false := by rfl) : Sx X C W T (.Call (.Name "max" p) [a] [] pos) (.b1 .max 0 ca) :=
  sx_b1 (cr_maxD hc h.hu) hm PyProof.Rows.boot_max (fun δ W σ G H α β s x v Q R d1 p1 => by
    simp only [b1A] at p1
    split at p1
    · rename_i d ds e
      split at p1
      · rename_i hs
        obtain ⟨al, dp, lay⟩ := alikeOk_of hs
        obtain ⟨q, vs, rfl, h1, h2⟩ := rd_list R d1 e
        refine ⟨q, vs, d, ds, rfl, .inl h1, DpAll.l2 _ _ (dpAll_up R.s _ _ h2), al, dp, lay, fun i x hx hi => ?_⟩
        obtain ⟨v', h3, h4⟩ := DpAll.get h2 hi
        rw [hx] at h3
        cases h3
        exact p1 G H α β Gw.refl R _ h4
      · exact p1.elim
    · exact p1.elim) ha hg (he := he) (hpl := hpl)
theorem sx_min1 (h : Hx X) (hm : X.mg "min" = none) (ha : Sx X C W T a ca) (hc : X.calm = true := by rfl) (hg : Gl X "min" := by rfl) (he : starEach [a] X.env = (false, eval a X.env) :: starEach [] X.env := by rfl) (hpl : (backTo pos (starEach [] X.env)).any (·.1) = false := by rfl) : Sx X C W T (.Call (.Name "min" p) [a] [] pos) (.b1 .min 0 ca) :=
  sx_b1 (cr_minD hc h.hu) hm PyProof.Rows.boot_min (fun δ W σ G H α β s x v Q R d1 p1 => by
    simp only [b1A] at p1
    split at p1
    · rename_i d ds e
      split at p1
      · rename_i hs
        obtain ⟨al, dp, lay⟩ := alikeOk_of hs
        obtain ⟨q, vs, rfl, h1, h2⟩ := rd_list R d1 e
        refine ⟨q, vs, d, ds, rfl, .inl h1, DpAll.l2 _ _ (dpAll_up R.s _ _ h2), al, dp, lay, fun i x hx hi => ?_⟩
        obtain ⟨v', h3, h4⟩ := DpAll.get h2 hi
        rw [hx] at h3
        cases h3
        exact p1 G H α β Gw.refl R _ h4
      · exact p1.elim
    · exact p1.elim) ha hg (he := he) (hpl := hpl)
/-- len(set(t)) -/
theorem sx_lenSet (hm : X.mg "len" = none) (hm2 : X.mg "set" = none) (ha : Sx X C W T a ca) (hc : X.calm = true := by rfl) (hg : Gl X "len" := by rfl) (hg2 : Gl X "set" := by rfl)
    (na : starEach [a] X.env = (false, eval a X.env) :: starEach [] X.env := by rfl) : Sx X C W T (.Call (.Name "len" p) [.Call (.Name "set" p2) [a] [] q] [] pos) (.b1 .lenSet 0 ca) := .mk fun δ σ G H α β r s Q R n p pins sh I => by
  rw [ev] at p
  refine PyProof.Rows.Call_ (ld_blt I hg hm PySem.boot_len ?_)
  refine PyProof.Rows.callWith_builtin1 (PyProof.Rows.args_cons ?_ rfl) rfl rfl
  refine PyProof.Rows.Call_ (ld_blt I hg2 hm2 PyProof.Rows.boot_set ?_)
  refine PyProof.Rows.callWith_type1 (PyProof.Rows.args_cons (thn (ha.use (Q := fun x H1 => ∃ (a : Addr) (ss : List Str), x = .ref a ∧ SqT X.K H1 a (ss.map V.str) ∧ ss.length ≤ 1000 ∧ Q (.int (dcn ss)) H1) R n p (fun y s1 v G1 H1 α1 β1 g1 R1 n1 d1 p1 => ?_) pins sh I) fun v s1 ⟨x, H1, I1, r1, a0, ss, hx, h1, hl, q1⟩ => PyProof.Rows.args_nil ?_) na) na rfl
  · simp only [b1A] at p1
    split at p1
    · rename_i ds e
      split at p1
      · rename_i ss hss
        split at p1
        · rename_i hl
          have := rd_tupD e; subst this
          have e2 := strsOf_some hss
          subst e2
          cases (show Dp X.K G1 v (.tuple (ss.map PyData.str)) from d1) with
          | tup h1 h2 =>
            have := strs_flat h2
            subst this
            exact ⟨_, ss, rfl, ex_t R1.s h1.sq, hl, p1 G1 H1 α1 β1 Gw.refl R1 _ (Dp.int _)⟩
        · exact p1.elim
      · exact p1.elim
    · exact p1.elim
  · subst hx
    cases r1
    obtain ⟨its, rv, pl, hz⟩ := I1.tuple h1
    refine set_of_texts (I1.ok.hd hc) pl (by simpa using strsAre_of rv) hl fun h' tk hS hk => ?_
    refine PyProof.Rows.args_nil ?_
    obtain ⟨o, es, ep, t, ho, hex, hd, _, _, _, hf, hn⟩ := hS
    have I2 : L2.Inv X pins σ H1 { s1 with heap := h', toks := tk } := I1.kept fun b o e => hk b o (Heap.lt_size e) e
    have hle := dcn_le ss
    exact call_len_set ho hex hd hf (by rw [hn]; omega) ⟨.int (dcn ss), H1, I2.tok _, ⟨_, by rw [hn]⟩, q1⟩
end
end Fb

/-! Rg: built-ins of two arguments, isinstance, .get; targets; what is walked; comprehensions. -/
namespace PySem.W
open PySem PySem.Spec PyProof.Rows
section
variable {prog : Program} {w : World} {A : Around} {E : Value → Shared → Prop} {s : Shared}
/-- max(a, b), compared where H stands -/
theorem call_max_twoH {a b : Value} {Q : Value → Shared → Prop}
    (h : wpAny (model prog w) A.in1 (pyIter (.ref s.heap.objs.size)) (fun it s₂ => ∃ I fp wr G n P St H bt, it = .ref I ∧ WalksS prog w A.in1 I fp wr G n P St ∧ St 0 s₂ ∧ (∀ b ∈ fp, b < s₂.heap.objs.size) ∧ 0 < n ∧
      (∀ b o, H.get? b = some o → b ∉ wr) ∧ (∀ b o, H.get? b = some o → s₂.heap.get? b = some o) ∧ CmpIn prog w A.in1 .Gt H P bt ∧ ∀ v s', P (argBest bt (n - 1)) v → Moved wr G s₂ s' → Q v s') E { s with heap := s.heap.push { cls := .type "tuple", data := .seq #[a, b] } }) :
    wpAny (model prog w) A (call (.builtin "max") [a, b]) Q E s := by
  have hname : (toString "max" ++ toString ".loop" : String) = "max.loop" := by decide
  refine call_function_tree F.kind_max F.plain_max F.entry_max (F.args_max2 _ _) ?_
  show wpAny _ A.in1 (Builtin.Builtins.bindParams "max" ["key", "default"] 0 ⟨[], []⟩ >>= _) _ _ s
  refine wpAny_bind (wpAny_of_eq (show Builtin.Builtins.bindParams "max" ["key", "default"] 0 ⟨[], []⟩ = pure [none, none] from rfl) ?_)
  show wpAny _ A.in1 (newTuple [a, b] >>= _) _ _ s
  refine wpAny_bind (wpAny_newObj_type ?_)
  refine wpAny_bind (wpAny_mono h (fun it s₂ h₂ => ?_) fun _ _ e => e)
  obtain ⟨I, fp, wr, G, n, P, St, H, bt, rfl, W, hst, hfp, hn, hw, hkeep, hcmp, hQ⟩ := h₂
  refine wpAny_bind (wpAny_newObj_type ?_)
  have hSf : s₂.heap.objs.size ∉ fp := fun hm => Nat.lt_irrefl _ (hfp _ hm)
  rw [hname]
  refine wpAny_pure ⟨plainId_quiet F.plain_max_loop _, codeAny_max_loop_firstH W H hw bt hcmp s₂.heap.objs.size hSf (fresh_in hkeep) _ hn (fun b o e => Heap.get?_push_of_some _ (hkeep b o e)) (W.frame 0 s₂ _ s₂.toks hst (Nat.le_refl _) fun b _ o e => Heap.get?_push_of_some _ e) (Heap.get?_push_size _ rfl) fun v s' hP hm => ?_⟩
  exact hQ v s' hP (Moved.drop_new (tk := s₂.toks) hm (Nat.le_refl _))
theorem max_two_data {a b : Value} {x y : PyData} {as : List Addr} {Q : Value → Shared → Prop} (hh : A.handled = none) (hr : ReadsAll s.heap [a, b] [x, y] as) (ha : AlikeAll [x, y]) (hu : A.units + 1 + PyData.depthAll [x, y] < cLine)
    (h : ∀ (i : Nat) v h' tk bs, [a, b][i]? = some v → Reads h' v (maxD x [y]) bs → (∀ b o, s.heap.get? b = some o → h'.get? b = some o) → Q v { s with heap := h', toks := tk }) :
    wpAny (model prog w) A (call (.builtin "max") [a, b]) Q E s := by
  have kp : ∀ b' o, s.heap.get? b' = some o → (s.heap.push { cls := .type "tuple", data := .seq #[a, b] }).get? b' = some o := fun b' o e => Heap.get?_push_of_some _ e
  have hr2 : ReadsAll (s.heap.push { cls := .type "tuple", data := .seq #[a, b] }) #[a, b].toList [x, y] as := ReadsAll.keeps kp hr
  have hl : (s.heap.push { cls := .type "tuple", data := .seq #[a, b] }).IsTuple s.heap.objs.size #[a, b] := ⟨_, Heap.get?_push_size _ rfl, rfl, _, rfl⟩
  refine call_max_twoH (iter_tupleW (A := A.in1) (s := { s with heap := s.heap.push { cls := .type "tuple", data := .seq #[a, b] } }) hh hl fun s₂ e W st hfp hw hk => ?_)
  refine ⟨_, _, _, _, _, _, _, s.heap.push { cls := .type "tuple", data := .seq #[a, b] }, _, rfl, W, st, hfp, by simp, hw, hk, cmpIn_gt (A := A.in1) (s := { s with heap := s.heap.push { cls := .type "tuple", data := .seq #[a, b] } }) hr2 ha (by show A.units + 1 + _ < _; exact hu), fun v s' hP m => ?_⟩
  obtain ⟨h', tk, rfl, hk'⟩ := moved_old e rfl m
  obtain ⟨bs, r, _, _, _⟩ := readsAll_atA hr2 _ v hP
  have e2 := (argBest_fold (fun a b => dataLt b a) PyData.none x [y] 1 (Nat.le_refl _)).2
  have hP' : [a, b][argBest (fun i j => dataLt ([x, y].getD j PyData.none) ([x, y].getD i PyData.none)) (#[a, b].size - 1)]? = some v := by
    rw [← hP, ← List.getElem?_toArray]
  exact h _ v h' tk bs hP' (reads_keeps hk' (by unfold maxD; rw [show ([y] : List PyData) = [y].take 1 from rfl, ← e2]; exact r)) fun b' o q => hk' b' o (kp b' o q)
end
end PySem.W
namespace Fb
open PySem PySem.Spec PyProof.Rows L2 Evl
section
variable {X : Cx} {C : Addr} {W : WX} {T : Tab} {a b c d e f o : Expr} {es rest : List Expr} {ca cb cc cd ce : E} {cs : Es} {pos p p2 apos cpos q : Pos}
theorem cr_max2D (hc : X.calm = true) (hu : X.A.units + 70 < cLine) : CallR X (.builtin "max") (fun vs H Q => ∃ (x y : V) (d e : PyData), vs = [x, y] ∧ L2.DpAll X.K H [x, y] [d, e] ∧ PySem.W.AlikeAll [d, e] ∧ PyData.depthAll [d, e] ≤ 8 ∧ PyData.canLayAll0 [d, e] = true ∧ ∀ (i : Nat) (z : V), [x, y][i]? = some z → [d, e][i]? = some (PySem.W.maxD d [e]) → Q z H) := by
  intro pins s σ H vs us Q I r h
  obtain ⟨x, y, d, e, rfl, hd, al, dp, lay, q⟩ := h
  obtain ⟨u, w, rfl, r1, r2⟩ := vals2 r
  have rv : Vals [x, y] [u, w] := .cons r1 (.cons r2 .nil)
  obtain ⟨as, hr⟩ := L2.Dp.readsAll I [d, e] [x, y] [u, w] hd rv
  refine PySem.W.max_two_data (I.ok.hd hc) hr al (by omega) fun i v h' tk bs hv rd kp => ?_
  obtain ⟨z, hx, rx⟩ := cr_maxD.vals_ix rv hv
  obtain ⟨d', as', h4, h5⟩ := readsAll_ix hr hv
  have e' := SeqAt.Reads.unique _ _ v _ _ (cr_maxD.lay_mem0 lay d' (List.mem_of_getElem? h4)) (Reads.keeps kp h5) rd
  rw [e'] at h4
  exact ⟨z, H, I.kept kp, rx, q i z hx h4⟩
def B2R (X : Cx) (C : Addr) (f : B2) (g : List V → Hp → VK → Prop) : Prop := ∀ δ G H α β s x y v u z (Q : VK), Rl X.K C δ G H α β s → Ad X.K G α β x v → Ad X.K G α β y u → b2A f s x y = some z → (∀ w, Ad X.K G α β z w → Q w H) → g [v, u] H Q
theorem sx_b2 {x : Str} {id : String} {f : B2} {g : List V → Hp → VK → Prop} (hc : CallR X (.builtin id) g) (hm : X.mg x = none) (hv : bootBuiltins x = some (.builtin id)) (hr : B2R X C f g) (hp : ∀ s x, b2Pre f s x = true) (ha : Sx X C W T a ca) (hb : Sx X C W T b cb) (hg : Gl X x := by rfl)
    (hn : x ≠ "__name__" := by decide) (hdb : (x == ("__debug__" : Str)) = false := by decide) (he : starEach [a, b] X.env = (false, eval a X.env) :: starEach [b] X.env := by rfl) (he2 : starEach [b] X.env = (false, eval b X.env) :: starEach [] X.env := by rfl) (hpl : (backTo pos (starEach [b] X.env)).any (·.1) = false := by rfl) :
    Sx X C W T (.Call (.Name x p) [a, b] [] pos) (.b2 f ca cb) := .mk fun δ σ G H α β r s Q R n p => by
  rw [ev] at p
  refine wE_of (pe_callB hc hg hm hv (L2.pa_cons pe_w (L2.pa_cons pe_w L2.pa_nil he2) he) hn hdb he hpl) (ha.use R n p fun y s1 v G1 H1 α1 β1 g1 R1 n1 d1 p1 => hb.use R1 n1 (by rw [if_pos (hp _ _)] at p1; exact p1) fun z s2 u G2 H2 α2 β2 g2 R2 n2 d2 p2 => ?_)
  obtain ⟨w, hw, p3⟩ := Post.of p2
  exact hr δ G2 H2 α2 β2 s2 y z v u w Q R2 (d1.up g2) d2 hw fun w' hw' => p3 G2 H2 α2 β2 Gw.refl R2 w' hw'
theorem sx_max2 (h : Hx X) (hm : X.mg "max" = none) (ha : Sx X C W T a ca) (hb : Sx X C W T b cb) (hc : X.calm = true := by rfl) (hg : Gl X "max" := by rfl) (he : starEach [a, b] X.env = (false, eval a X.env) :: starEach [b] X.env := by rfl) (he2 : starEach [b] X.env = (false, eval b X.env) :: starEach [] X.env := by rfl) (hpl : (backTo pos (starEach [b] X.env)).any (·.1) = false := by rfl) :
    Sx X C W T (.Call (.Name "max" p) [a, b] [] pos) (.b2 .max ca cb) := sx_b2 (CallR.or (call_max2 hc) (cr_max2D hc h.hu)) hm PyProof.Rows.boot_max (fun δ G H α β s x y v u z Q R d1 d2 hz k => by
  simp only [b2A] at hz
  split at hz
  · rename_i i j
    cases hz
    exact .inl ⟨i, j, by rw [ad_int d1, ad_int d2], k _ (Dp.int _)⟩
  · rename_i xs ys
    split at hz
    · rename_i hk
      cases hz
      obtain ⟨al, dp, lay⟩ := alikeOk_of hk
      have hd : DpAll X.K G [v, u] [.tuple xs, .tuple ys] := .cons d1 (.cons d2 .nil)
      refine .inr ⟨v, u, _, _, rfl, DpAll.l2 _ _ (dpAll_up R.s _ _ hd), al, dp, lay, fun i z hz hi => k _ ?_⟩
      obtain ⟨v', h3, h4⟩ := DpAll.get hd hi
      rw [hz] at h3
      cases h3
      exact h4
    · cases hz
  · cases hz) (fun _ _ => rfl) ha hb hg (he := he) (he2 := he2) (hpl := hpl)
theorem sx_min2 (hm : X.mg "min" = none) (ha : Sx X C W T a ca) (hb : Sx X C W T b cb) (hc : X.calm = true := by rfl) (hg : Gl X "min" := by rfl) (he : starEach [a, b] X.env = (false, eval a X.env) :: starEach [b] X.env := by rfl) (he2 : starEach [b] X.env = (false, eval b X.env) :: starEach [] X.env := by rfl) (hpl : (backTo pos (starEach [b] X.env)).any (·.1) = false := by rfl) :
    Sx X C W T (.Call (.Name "min" p) [a, b] [] pos) (.b2 .min ca cb) := sx_b2 (call_min2 hc) hm PyProof.Rows.boot_min (fun δ G H α β s x y v u z Q R d1 d2 hz k => by
  simp only [b2A] at hz
  split at hz
  · rename_i i j
    cases hz
    exact ⟨i, j, by rw [ad_int d1, ad_int d2], k _ (Dp.int _)⟩
  · cases hz) (fun _ _ => rfl) ha hb hg (he := he) (he2 := he2) (hpl := hpl)
theorem sx_join (ho : Sx X C W T o ca) (he : Sx X C W T e cb) (hs : starEach [e] X.env = [(false, eval e X.env)] := by rfl) (hbase : attributeBase o "join" X.env (eval o X.env) = eval o X.env := by rfl) (hline : (apos.endLine == pos.line) = true := by rfl) :
    Sx X C W T (.Call (.Attribute o "join" apos) [e] [] pos) (.b2 .join ca cb) := .mk fun δ σ G H α β r s Q R n p => by
  rw [ev] at p
  -- the separator is a text
  refine wE_of (pe_join pe_w pe_w hs hbase hline) (ho.use R n p fun x s1 v G1 H1 α1 β1 g1 R1 n1 d1 p1 => ?_)
  split at p1
  · rename_i hpre
    obtain ⟨z, rfl⟩ : ∃ z, x = .d (.str z) := by
      simp only [b2Pre] at hpre
      split at hpre
      · exact ⟨_, rfl⟩
      · cases hpre
    refine ⟨⟨z, ad_str d1⟩, he.use R1 n1 p1 fun y s2 u G2 H2 α2 β2 g2 R2 n2 d2 p2 => ?_⟩
    obtain ⟨w, hw, p3⟩ := Post.of p2
    simp only [b2A] at hw
    split at hw
    · rename_i z' ds e1 e2
      have e1' := rd_str e1
      cases e1'
      split at hw
      · rename_i ss hss
        split at hw
        · rename_i hl
          cases hw
          have e3 := strsOf_some hss
          subst e3
          obtain ⟨q, vs, rfl, h1, h2⟩ := rd_list R2 d2 e2
          have := strs_flat h2
          subst this
          exact ⟨z, q, ss, ad_str d1, rfl, .inl (.inl h1), hl, p3 G2 H2 α2 β2 Gw.refl R2 _ (Dp.str _)⟩
        · cases hw
      · cases hw
    · cases hw
  · exact p1.elim
/-! ### isinstance -/
theorem sx_isi {x : Str} {tyn : String} {t : Ty} (hm : X.mg "isinstance" = none) (hm2 : X.mg x = none) (hv2 : bootBuiltins x = some (.type tyn)) (hk : ∀ y, kitB (tyD y) tyn = some (tyIs t y)) (ha : Sx X C W T a ca) (hg : Gl X "isinstance" := by rfl) (hg2 : Gl X x := by rfl) (hn2 : x ≠ "__name__" := by decide) (hd2 : (x == ("__debug__" : Str)) = false := by decide)
    (he : starEach [a, .Name x p2] X.env = (false, eval a X.env) :: starEach [.Name x p2] X.env := by rfl) (he2 : starEach [.Name x p2] X.env = (false, eval (.Name x p2) X.env) :: starEach [] X.env := by rfl) (hpl : (backTo pos (starEach [.Name x p2] X.env)).any (·.1) = false := by rfl) :
    Sx X C W T (.Call (.Name "isinstance" p) [a, .Name x p2] [] pos) (.isi ca t) := .mk fun δ σ G H α β r s Q R n p => by
  rw [ev] at p
  refine wE_of (pe_callB call_isi hg hm PyProof.Rows.boot_isinstance (L2.pa_cons pe_w (L2.pa_cons (pe_bltn hg2 hm2 hv2 (v := .ty tyn) rfl hn2 hd2) L2.pa_nil he2) he) (by decide) (by decide) he hpl) (ha.use R n p fun y s1 v G1 H1 α1 β1 g1 R1 n1 d1 p1 => ?_)
  split at p1
  · rename_i y e
    exact ⟨v, _, _, _, _, rfl, .ty tyn, tyX_of (rd_dp R1 d1 e), kit_ty (hk y), p1 G1 H1 α1 β1 Gw.refl R1 _ (Dp.bl _)⟩
  · exact p1.elim
theorem sx_isInt (hm : X.mg "isinstance" = none) (hm2 : X.mg "int" = none) (ha : Sx X C W T a ca) (hg : Gl X "isinstance" := by rfl) (hg2 : Gl X "int" := by rfl)
    (he : starEach [a, .Name "int" p2] X.env = (false, eval a X.env) :: starEach [.Name "int" p2] X.env := by rfl) (he2 : starEach [.Name "int" p2] X.env = (false, eval (.Name "int" p2) X.env) :: starEach [] X.env := by rfl) (hpl : (backTo pos (starEach [.Name "int" p2] X.env)).any (·.1) = false := by rfl) :
    Sx X C W T (.Call (.Name "isinstance" p) [a, .Name "int" p2] [] pos) (.isi ca .int) := sx_isi hm hm2 PyProof.Rows.boot_int kit_int ha hg hg2 (he := he) (he2 := he2) (hpl := hpl)
theorem sx_isBool (hm : X.mg "isinstance" = none) (hm2 : X.mg "bool" = none) (ha : Sx X C W T a ca) (hg : Gl X "isinstance" := by rfl) (hg2 : Gl X "bool" := by rfl)
    (he : starEach [a, .Name "bool" p2] X.env = (false, eval a X.env) :: starEach [.Name "bool" p2] X.env := by rfl) (he2 : starEach [.Name "bool" p2] X.env = (false, eval (.Name "bool" p2) X.env) :: starEach [] X.env := by rfl) (hpl : (backTo pos (starEach [.Name "bool" p2] X.env)).any (·.1) = false := by rfl) :
    Sx X C W T (.Call (.Name "isinstance" p) [a, .Name "bool" p2] [] pos) (.isi ca .bool) := sx_isi hm hm2 (by decide +kernel) kit_bool ha hg hg2 (he := he) (he2 := he2) (hpl := hpl)
theorem sx_isStr (hm : X.mg "isinstance" = none) (hm2 : X.mg "str" = none) (ha : Sx X C W T a ca) (hg : Gl X "isinstance" := by rfl) (hg2 : Gl X "str" := by rfl)
    (he : starEach [a, .Name "str" p2] X.env = (false, eval a X.env) :: starEach [.Name "str" p2] X.env := by rfl) (he2 : starEach [.Name "str" p2] X.env = (false, eval (.Name "str" p2) X.env) :: starEach [] X.env := by rfl) (hpl : (backTo pos (starEach [.Name "str" p2] X.env)).any (·.1) = false := by rfl) :
    Sx X C W T (.Call (.Name "isinstance" p) [a, .Name "str" p2] [] pos) (.isi ca .str) := sx_isi hm hm2 (by decide +kernel) kit_str ha hg hg2 (he := he) (he2 := he2) (hpl := hpl)
theorem sx_isTup (hm : X.mg "isinstance" = none) (hm2 : X.mg "tuple" = none) (ha : Sx X C W T a ca) (hg : Gl X "isinstance" := by rfl) (hg2 : Gl X "tuple" := by rfl)
    (he : starEach [a, .Name "tuple" p2] X.env = (false, eval a X.env) :: starEach [.Name "tuple" p2] X.env := by rfl) (he2 : starEach [.Name "tuple" p2] X.env = (false, eval (.Name "tuple" p2) X.env) :: starEach [] X.env := by rfl) (hpl : (backTo pos (starEach [.Name "tuple" p2] X.env)).any (·.1) = false := by rfl) :
    Sx X C W T (.Call (.Name "isinstance" p) [a, .Name "tuple" p2] [] pos) (.isi ca .tuple) := sx_isi hm hm2 (by decide +kernel) kit_tup ha hg hg2 (he := he) (he2 := he2) (hpl := hpl)
theorem sx_isList (hm : X.mg "isinstance" = none) (hm2 : X.mg "list" = none) (ha : Sx X C W T a ca) (hg : Gl X "isinstance" := by rfl) (hg2 : Gl X "list" := by rfl)
    (he : starEach [a, .Name "list" p2] X.env = (false, eval a X.env) :: starEach [.Name "list" p2] X.env := by rfl) (he2 : starEach [.Name "list" p2] X.env = (false, eval (.Name "list" p2) X.env) :: starEach [] X.env := by rfl) (hpl : (backTo pos (starEach [.Name "list" p2] X.env)).any (·.1) = false := by rfl) :
    Sx X C W T (.Call (.Name "isinstance" p) [a, .Name "list" p2] [] pos) (.isi ca .list) := sx_isi hm hm2 (by decide +kernel) kit_list ha hg hg2 (he := he) (he2 := he2) (hpl := hpl)
/-! ### d.get(k, x) -/
theorem sx_get (h : Hx X) (ho : Sx X C W T o ca) (he : Sx X C W T e cb) (hf : Sx X C W T f cc) (m : M2 X o "get" apos e f cpos) : Sx X C W T (.Call (.Attribute o "get" apos) [e, f] [] cpos) (.get ca cb cc) := .mk fun δ σ G H α β r s Q R n p => by
  rw [ev] at p
  refine wE_of (pe_dget2 (by have := h.hu; omega) pe_w pe_w pe_w m) (ho.use R n p fun x s1 v G1 H1 α1 β1 g1 R1 n1 d1 p1 => ?_)
  split at p1
  · rename_i kvs0 ed
    obtain ⟨q, ws, rfl, h1, h2⟩ := rd_dT R1 d1 ed
    refine ⟨q, rfl, .inr ⟨ws, h1⟩, he.use R1 n1 p1 fun y s2 u G2 H2 α2 β2 g2 R2 n2 d2 p2 => hf.use R2 n2 p2 fun z s3 w G3 H3 α3 β3 g3 R3 n3 d3 p3 => ?_⟩
    obtain ⟨zz, hz, p4⟩ := Post.of p3
    unfold getDf at hz
    split at hz
    · rename_i kvs ed3
      split at hz
      · rename_i k hk
        have d1' : Ad X.K G3 α3 β3 x (.ref q) := Ad.up g3 (Ad.up g2 d1)
        obtain ⟨q', ws', eq', h3, h4⟩ := rd_dT R3 d1' ed3
        cases eq'
        refine ⟨_, dget_rl R3 h3 hk (d2.up g3), ?_⟩
        rcases prd_val h4 k with ⟨h5, h6⟩ | ⟨v', d', h5, h6, h7⟩
        · rw [h5]
          rw [h6] at hz
          cases hz
          exact p4 G3 H3 α3 β3 Gw.refl R3 _ d3
        · rw [h5]
          rw [h6] at hz
          cases hz
          exact p4 G3 H3 α3 β3 Gw.refl R3 _ h7
      · cases hz
    · cases hz
  · exact p1.elim
/-- D.get(k, j), D a written dict -/
theorem sx_kget {x : Str} {q : Addr} (D : Kd X.K X.w q (T.kd x)) (hm : X.mg x = some (.ref q)) (ha : Sx X C W T e ca) (hb : Sx X C W T f cb) (m : M2 X (.Name x p) "get" apos e f cpos) (hg : Gl X x := by rfl) (hdb : (x == ("__debug__" : Str)) = false := by decide) :
    Sx X C W T (.Call (.Attribute (.Name x p) "get" apos) [e, f] [] cpos) (.kget x ca cb) := .mk fun δ σ G H α β r s Q R n p pins sh I => by
  rw [ev] at p
  obtain ⟨es, nn, KD, hget⟩ := D.ex
  refine wpAny_Call_method m.base m.few m.line PySem.F.plainAttrs_dict PySem.F.slot_dict_get PySem.F.type_dict_get (ld_glob I hg hm ?_ hdb)
  have hM := PySem.W.mapOf_K (prog := X.prog) (w := X.w) I.kIn KD.at_ KD.lit
  have hO := I.kIn _ _ KD.at_
  refine ⟨hM.typeIs, fun a2 e2 => (by cases e2; exact ⟨_, hO, rfl⟩), ?_⟩
  rw [m.trees]
  refine Calls.callWith_builtin rfl (Calls.evalArgs_plain (Calls.spliced_cons (thn (ha.use (Q := fun iv H2 => wE X f σ H2 fun fv H3 => ∃ y j, iv = .str y ∧ fv = .int j ∧ Q (.int ((T.kd x y).getD j)) H3) R n p (fun y s1 v G1 H1 α1 β1 g1 R1 n1 d1 p1 => hb.use R1 n1 p1 fun z s2 u G2 H2 α2 β2 g2 R2 n2 d2 p2 => ?_) pins sh I) fun iv s2 ⟨y', H2, I2, ry, k2⟩ =>
    Calls.spliced_cons (thn (k2 pins s2 I2) fun fv s3 ⟨z, H3, I3, rz, y, j, e1, e2, q3⟩ => Calls.spliced_nil ?_))))
  · split at p2
    · rename_i k j
      exact ⟨k, j, ad_str d1, ad_int d2, p2 G2 H2 α2 β2 Gw.refl R2 _ (Dp.int _)⟩
    · exact p2.elim
  · subst e1 e2
    obtain ⟨t, rfl⟩ := ry
    obtain ⟨t', rfl⟩ := rz
    have hM3 := PySem.W.mapOf_K (prog := X.prog) (w := X.w) I3.kIn KD.at_ KD.lit
    refine call_meetsIn PySem.F.slot_dict_get hM3.typeIs PySem.F.entry_dict_get (PySem.F.args_dict_get_3 _ _ _) (meets_dict_get_default (PySem.strKind X.prog X.w) q (PySem.strKind_is X.prog X.w y t) KD.low (.int j t')) ⟨_, hM3, ?_⟩
    rcases hget y with ⟨h1, h2⟩ | ⟨i, u, h1, h2⟩
    · rw [PySem.W.find_K KD.at_ h1]
      rw [h2] at q3
      exact ⟨.int j, H3, I3.tok _, ⟨t', rfl⟩, q3⟩
    · rw [PySem.W.find_K KD.at_ h1]
      rw [h2] at q3
      exact ⟨.int i, H3, I3.tok _, ⟨u, rfl⟩, q3⟩
/-! ### targets -/
def tgS : Tg → List Nat
  | .one i => [i]
  | .many is => is
structure Sg (X : Cx) (tg : Expr) (ct : Tg) : Prop where
  run : ∀ σ G H α β r r2 a v, Em X.K G α β σ r → Ad X.K G α β a v → Ex G H → setTg ct a r = some r2 → wG X tg v σ H fun σ2 H2 => H2 = H ∧ Em X.K G α β σ2 r2 ∧ ∀ i, i ∉ tgS ct → σ2[i]? = σ[i]?
theorem sg_one (j : Nat) {x : Str} (hN : X.N.Nodup) (hi : X.N[j]? = some x := by rfl) (hx : Loc X.env.scope x := by first | exact Or.inl rfl | exact Or.inr rfl) (hf : X.fn x = true ∨ X.env.scope.names.lookup x = some .local := by first | exact .inl rfl | exact .inr rfl) :
    Sg X (.Name x pos) (.one j) := .mk fun σ G H α β r r2 a v n d g h => by
  cases h
  exact wG_of (L2.pg_name hN hi hx hf) ⟨rfl, n.set j d, fun i hi => List.getElem?_set_ne (by simpa [tgS] using fun z => hi (by simp [tgS, z]))⟩
structure Sgs (X : Cx) (ts : List Expr) (is : List Nat) : Prop where
  run : ∀ σ G H α β r r2 as vs, Em X.K G α β σ r → AdL X.K G α β as vs → setMany is as r = some r2 → wGs X ts vs σ H fun σ2 H2 => H2 = H ∧ Em X.K G α β σ2 r2 ∧ ∀ i, i ∉ is → σ2[i]? = σ[i]?
theorem sgs_nil : Sgs X [] [] := .mk fun σ G H α β r r2 as vs n d h => by
  cases as with
  | nil =>
    cases h
    rw [show vs = [] from d]
    exact wGs_of L2.pgs_nil ⟨rfl, rfl, n, fun _ _ => rfl⟩
  | cons _ _ => cases h
theorem sgs_cons (j : Nat) {x : Str} {ts : List Expr} {is : List Nat} (hr : Sgs X ts is) (hN : X.N.Nodup) (hi : X.N[j]? = some x := by rfl) (hx : Loc X.env.scope x := by first | exact Or.inl rfl | exact Or.inr rfl) (hf : X.fn x = true ∨ X.env.scope.names.lookup x = some .local := by first | exact .inl rfl | exact .inr rfl)
    (hs : (assignEach (.Name x pos :: ts) X.env).map (·.2) = assign (.Name x pos) X.env :: (assignEach ts X.env).map (·.2) := by rfl) : Sgs X (.Name x pos :: ts) (j :: is) := .mk fun σ G H α β r r2 as vs n d h => by
  cases as with
  | nil => cases h
  | cons a as =>
    obtain ⟨v, t, h1, h2, h3⟩ := d
    subst h1
    refine wGs_of (L2.pgs_cons pg_w pgs_w hs) ⟨v, t, rfl, wG_of (L2.pg_name hN hi hx hf) ?_⟩
    refine wGs_imp (hr.run _ G H α β _ r2 as t (n.set j h2) h3 h) fun σ2 H2 ⟨e2, n2, k2⟩ => ⟨e2, n2, fun i hi => ?_⟩
    rw [List.mem_cons, not_or] at hi
    rw [k2 i hi.2, List.getElem?_set_ne (fun z => hi.1 z.symm)]
theorem sg_many {ts : List Expr} {is : List Nat} {k : Nat} (hc : X.calm = true) (h : Sgs X ts is) (hn : (assignEach ts X.env).length = is.length := by rfl) (hst : (assignEach ts X.env).findIdx? (·.1) = none := by rfl) : Sg X (.Tuple ts k pos) (.many is) := .mk fun σ G H α β r r2 a v n d g hs => by
  have len : ∀ {is : List Nat} {as : List A} {r r2 : Rh}, setMany is as r = some r2 → as.length = is.length := by
    intro is
    induction is with
    | nil => intro as r r2 h; cases as with
      | nil => rfl
      | cons _ _ => cases h
    | cons i is ih => intro as r r2 h; cases as with
      | nil => cases h
      | cons a as => rw [List.length_cons, List.length_cons, ih h]
  cases a with
  | d x =>
    cases x with
    | tuple ds =>
      have hs' : setMany is (ds.map .d) r = some r2 := hs
      cases (show Dp X.K G v (.tuple ds) from d) with
      | tup h1 h2 => exact wG_of (L2.pg_tup hc pgs_w hn hst) ⟨_, _, rfl, ex_t g h1.sq, by rw [DpAll.len h2]; simpa using len hs', h.run σ G H α β r r2 _ _ n (adl_of h2) hs'⟩
    | _ => cases hs
  | tup xs =>
    have hs' : setMany is xs r = some r2 := hs
    obtain ⟨q, vs, rfl, h1, h2⟩ := (show Ai X.K G α (.tup xs) v from d)
    exact wG_of (L2.pg_tup hc pgs_w hn hst) ⟨q, vs, rfl, .inl (.inl (g _ _ h1)), by rw [AiL.len h2]; exact len hs', h.run σ G H α β r r2 _ _ n h2.ad hs'⟩
  | _ => cases hs
end
end Fb

/-! Rh: what is walked; comprehensions. -/
namespace Fb
open PySem PySem.Spec PyProof.Rows L2 Evl
mutual
theorem same_eq : ∀ (x y : PyData), PyData.same x y = true → x = y
  | .none, y, h => by cases y <;> first | rfl | (simp [PyData.same] at h)
  | .bool a, y, h => by
    cases y <;> simp [PyData.same] at h
    rw [h]
  | .int a, y, h => by
    cases y <;> simp [PyData.same] at h
    rw [h]
  | .str a, y, h => by
    cases y <;> simp [PyData.same] at h
    rw [h]
  | .list a, y, h => by
    cases y <;> simp [PyData.same] at h
    rw [sameL_eq a _ h]
  | .tuple a, y, h => by
    cases y <;> simp [PyData.same] at h
    rw [sameL_eq a _ h]
  | .dict a, y, h => by cases y <;> simp [PyData.same] at h
theorem sameL_eq : ∀ (x y : List PyData), PyData.sameL x y = true → x = y
  | [], y, h => by cases y <;> first | rfl | (simp [PyData.sameL] at h)
  | x :: xs, y, h => by
    cases y with
    | nil => simp [PyData.sameL] at h
    | cons y ys =>
      simp only [PyData.sameL, Bool.and_eq_true] at h
      rw [same_eq x y h.1, sameL_eq xs ys h.2]
end
/-- what was read as a list is read so still -/
theorem stays_rd {x : A} {s s3 : Sto} {ds : List PyData} (h : rd s x = .d (.list ds)) (k : stays x s s3 = true) : rd s3 x = .d (.list ds) := by
  have ob : ∀ {a b : Option Ob}, sameOb a b = true → ∃ ds, a = some (.lst ds) ∧ b = some (.lst ds) := fun {a b} q => by
    unfold sameOb at q
    split at q
    · rename_i xs ys
      exact ⟨xs, rfl, by rw [sameL_eq xs ys q]⟩
    · cases q
  cases x with
  | ref n =>
    obtain ⟨ds', h1, h2⟩ := ob k
    rw [rd, h1] at h
    rw [rd, h2]
    exact h
  | loc n =>
    obtain ⟨ds', h1, h2⟩ := ob k
    rw [rd, h1] at h
    rw [rd, h2]
    exact h
  | _ => exact h
/-- J walks the values xs, as long as what w tells stands -/
structure Wlk (K : PySem.W.Frag) (C : Addr) (J : It) (xs w : List A) (G : Hp) (α β : List Addr) (s0 : Sto) : Prop where
  go : ∀ i δ G3 H3 α3 β3 s3, Gw G α β G3 α3 β3 → Rl K C δ G3 H3 α3 β3 s3 → w.all (fun a => stays a s0 s3) = true → i < xs.length → J.go i H3
  yl : ∀ i δ G3 H3 α3 β3 s3 x H4, Gw G α β G3 α3 β3 → Rl K C δ G3 H3 α3 β3 s3 → w.all (fun a => stays a s0 s3) = true → J.yld i H3 x H4 → ∀ a, xs[i]? = some a → ∃ G4, Gr G3 H3 G4 H4 ∧ Ad K G4 α3 β3 a x
  st : ∀ i δ G3 H3 α3 β3 s3, Gw G α β G3 α3 β3 → Rl K C δ G3 H3 α3 β3 s3 → w.all (fun a => stays a s0 s3) = true → xs.length ≤ i → J.stop i H3
def PostI (K : PySem.W.Frag) (C : Addr) (δ : List (Addr × HO)) (mg : Str → Option Value) (W : WX) (σ : L2.St) (R : It → Hp → Prop) (G : Hp) (α β : List Addr) : Res (List A × List A) → Prop
  | .ok xw s2 => ∀ J G2 H2 α2 β2, Gw G α β G2 α2 β2 → Rl K C δ G2 H2 α2 β2 s2 → Wlk K C J xw.1 xw.2 G2 α2 β2 s2 → R J H2
  | .er c s2 => ∀ G2 H2 α2 β2, Gw G α β G2 α2 β2 → Rl K C δ G2 H2 α2 β2 s2 → ∀ B, mg c = some (.ref B) → W (.ref B) none σ H2
  | .no => False
def Si (X : Cx) (C : Addr) (W : WX) (T : Tab) (tg iter : Expr) (ci : I) : Prop := ∃ wi : TI, PI X tg iter wi ∧ ∀ δ σ G H α β r s (R : It → Hp → Prop), Rl X.K C δ G H α β s → Em X.K G α β σ r → PostI X.K C δ X.mg W σ R G α β (evI T ci r s) → wi σ H R
theorem PI.or {X : Cx} {tg e : Expr} {w1 w2 : TI} (h1 : PI X tg e w1) (h2 : PI X tg e w2) : PI X tg e (fun σ H R => w1 σ H R ∨ w2 σ H R) := ⟨fun pins s σ H R I h => by
  rcases h with h | h
  · exact h1.run pins s σ H R I h
  · exact h2.run pins s σ H R I h⟩
section
variable {X : Cx} {C : Addr} {W : WX} {T : Tab} {a b c d e f o tg : Expr} {es rest : List Expr} {ca cb cc cd ce : E} {cs : Es} {pos p p2 apos cpos q : Pos}
theorem Sx.useI (h : Sx X C W T e ce) {δ : List (Addr × HO)} {σ : L2.St} {G H : Hp} {α β : List Addr} {r : Rh} {s : Sto} {R : It → Hp → Prop} (Rr : Rl X.K C δ G H α β s) (n : Em X.K G α β σ r) {k : A → Sto → Res (List A × List A)} {Q : VK} (p : PostI X.K C δ X.mg W σ R G α β ((ev T ce r s).bind k))
    (q : ∀ a s' v G2 H2 α2 β2, ev T ce r s = .ok a s' → Gw G α β G2 α2 β2 → Rl X.K C δ G2 H2 α2 β2 s' → Em X.K G2 α2 β2 σ r → Ad X.K G2 α2 β2 a v → PostI X.K C δ X.mg W σ R G2 α2 β2 (k a s') → Q v H2) : wE X e σ H Q := by
  have up : ∀ {m : Res (List A × List A)} {G2 : Hp} {α2 β2 : List Addr}, PostI X.K C δ X.mg W σ R G α β m → Gw G α β G2 α2 β2 → PostI X.K C δ X.mg W σ R G2 α2 β2 m := fun {m G2 α2 β2} p g => by
    cases m with
    | ok x s => exact fun J G3 H3 α3 β3 g3 R3 => p J G3 H3 α3 β3 (g.trans g3) R3
    | er c s => exact fun G3 H3 α3 β3 g3 R3 => p G3 H3 α3 β3 (g.trans g3) R3
    | no => exact p
  refine h.run δ σ G H α β r s Q Rr n ?_
  cases m : ev T ce r s with
  | ok a s' => rw [m] at p; exact fun G2 H2 α2 β2 g R2 v hv => q a s' v G2 H2 α2 β2 m g R2 (n.up g) hv (up p g)
  | er c s' => rw [m] at p; exact p
  | no => rw [m] at p; exact p
theorem si_seq (h : Sx X C W T e ce) : Si X C W T tg e (.seq ce) := by
  refine ⟨_, PI.or (pi_list pe_w) (PI.or (pi_tup pe_w) (pi_str pe_w)), fun δ σ G H α β r s R Rr n p => ?_⟩
  rw [evI] at p
  -- what is walked is known from the evaluator
  have cas : (∀ x s', ev T ce r s = .ok x s' → (∃ ds, rd s' x = .d (.list ds)) ∨ ∃ xs, x = .lst xs) ∨ (∀ x s', ev T ce r s = .ok x s' → (∃ ds, x = .d (.tuple ds))) ∨ ∀ x s', ev T ce r s = .ok x s' → ∃ z, x = .d (.str z) := by
    cases m : ev T ce r s with
    | ok x s' =>
      rw [m] at p
      have p' : PostI X.K C δ X.mg W σ R G α β (match itemsA s' x with
        | some xs => .ok (xs, [x]) s'
        | none => .no) := p
      cases hi : itemsA s' x with
      | none => rw [hi] at p'; exact p'.elim
      | some xs =>
        unfold itemsA at hi
        split at hi
        · rename_i ds e
          exact .inl fun y s2 ey => by cases ey; exact .inl ⟨ds, e⟩
        · rename_i ds e
          exact .inr (.inl fun y s2 ey => by cases ey; exact ⟨ds, rd_tupD e⟩)
        · rename_i z e
          exact .inr (.inr fun y s2 ey => by cases ey; exact ⟨z, rd_str e⟩)
        · rename_i ys e
          exact .inl fun y s2 ey => by cases ey; exact .inr ⟨ys, rd_lstA e⟩
        · cases hi
    | er c s' => exact .inl fun x s2 ey => by cases ey
    | no => exact .inl fun x s2 ey => by cases ey
  rcases cas with cas | cas | cas
  · refine .inl (h.useI Rr n p fun x s1 v G1 H1 α1 β1 ee g1 R1 n1 d1 p1 => ?_)
    rcases cas x s1 ee with ⟨ds, e1⟩ | ⟨ys, rfl⟩
    · have hi : itemsA s1 x = some (ds.map .d) := by unfold itemsA; rw [e1]
      rw [hi] at p1
      obtain ⟨q, vs, rfl, h1, h2⟩ := rd_list R1 d1 e1
      refine ⟨q, rfl, ⟨vs, .inl h1⟩, p1 _ G1 H1 α1 β1 Gw.refl R1 ⟨fun i δ' G3 H3 α3 β3 s3 g3 R3 hs hi => ?_, fun i δ' G3 H3 α3 β3 s3 x' H4 g3 R3 hs hy a ha => ?_, fun i δ' G3 H3 α3 β3 s3 g3 R3 hs hi => ?_⟩⟩
      all_goals
        have e3 := stays_rd e1 (by simpa using hs)
        obtain ⟨q', vs', eq', h3, h4⟩ := rd_list R3 (Ad.up g3 d1) e3
        cases eq'
        have hl := DpAll.len h4
      · have hi' : i < vs'.length := by rw [hl]; simpa using hi
        exact ⟨vs', vs'[i], .inl h3, List.getElem?_eq_getElem hi'⟩
      · obtain ⟨rfl, y⟩ := hy
        have hx := y vs' (.inl h3)
        obtain ⟨d', q1, q2⟩ := DpAll.back h4 hx
        rw [List.getElem?_map, q1] at ha
        cases ha
        exact ⟨G3, Gr.refl R3.s, q2⟩
      · exact ⟨vs', .inl h3, by rw [hl]; simpa using hi⟩
    · have hi : itemsA s1 (.lst ys) = some ys := rfl
      rw [hi] at p1
      obtain ⟨q, vs, rfl, h1, h2⟩ := (show Ai X.K G1 α1 (.lst ys) v from d1)
      have hl := AiL.len h2
      refine ⟨q, rfl, ⟨vs, .inl (ex_rd R1.s h1)⟩, p1 _ G1 H1 α1 β1 Gw.refl R1 ⟨fun i δ' G3 H3 α3 β3 s3 g3 R3 hs hi => ?_, fun i δ' G3 H3 α3 β3 s3 x' H4 g3 R3 hs hy a ha => ?_, fun i δ' G3 H3 α3 β3 s3 g3 R3 hs hi => ?_⟩⟩
      · exact ⟨vs, vs[i]'(by rw [hl]; exact hi), .inl (ex_rd (g3.g.trans R3.s) h1), List.getElem?_eq_getElem _⟩
      · obtain ⟨rfl, y⟩ := hy
        have hx := y vs (.inl (ex_rd (g3.g.trans R3.s) h1))
        obtain ⟨a', q1, q2⟩ := AiL.back h2 hx
        rw [ha] at q1
        cases q1
        exact ⟨G3, Gr.refl R3.s, Ad.up g3 (q2.ad (β := β1))⟩
      · exact ⟨vs, .inl (ex_rd (g3.g.trans R3.s) h1), by rw [hl]; exact hi⟩
  · refine .inr (.inl (h.useI Rr n p fun x s1 v G1 H1 α1 β1 ee g1 R1 n1 d1 p1 => ?_))
    obtain ⟨ds, rfl⟩ := cas x s1 ee
    have hi : itemsA s1 (.d (.tuple ds)) = some (ds.map .d) := rfl
    rw [hi] at p1
    cases (show Dp X.K G1 v (.tuple ds) from d1) with
    | @tup q vs _ h1 h2 =>
      have hl := DpAll.len h2
      refine ⟨q, rfl, ⟨vs, ex_t R1.s h1.sq⟩, p1 _ G1 H1 α1 β1 Gw.refl R1 ⟨fun i δ' G3 H3 α3 β3 s3 g3 R3 hs hi => ?_, fun i δ' G3 H3 α3 β3 s3 x' H4 g3 R3 hs hy a ha => ?_, fun i δ' G3 H3 α3 β3 s3 g3 R3 hs hi => ?_⟩⟩
      · exact ⟨vs, vs[i]'(by rw [hl]; simpa using hi), ex_t (g3.g.trans R3.s) h1.sq, List.getElem?_eq_getElem _⟩
      · obtain ⟨rfl, y⟩ := hy
        have hx := y vs (ex_t (g3.g.trans R3.s) h1.sq)
        obtain ⟨a', q1, q2⟩ := DpAll.back h2 hx
        rw [List.getElem?_map, q1] at ha
        cases ha
        exact ⟨G3, Gr.refl R3.s, dp_up g3.g _ _ q2⟩
      · exact ⟨vs, ex_t (g3.g.trans R3.s) h1.sq, by rw [hl]; simpa using hi⟩
  · refine .inr (.inr (h.useI Rr n p fun x s1 v G1 H1 α1 β1 ee g1 R1 n1 d1 p1 => ?_))
    obtain ⟨z, rfl⟩ := cas x s1 ee
    have hi : itemsA s1 (.d (.str z)) = some (z.cps.toList.map fun c => .d (.str ⟨#[c]⟩)) := rfl
    rw [hi] at p1
    refine ⟨z, ad_str d1, p1 _ G1 H1 α1 β1 Gw.refl R1 ⟨fun i δ' G3 H3 α3 β3 s3 g3 R3 hs hi => ?_, fun i δ' G3 H3 α3 β3 s3 x' H4 g3 R3 hs hy a ha => ?_, fun i δ' G3 H3 α3 β3 s3 g3 R3 hs hi => ?_⟩⟩
    · show i < z.cps.size
      simpa using hi
    · obtain ⟨rfl, c, hc, rfl⟩ := hy
      rw [List.getElem?_map] at ha
      have : z.cps.toList[i]? = some c := by simpa using hc
      rw [this] at ha
      cases ha
      exact ⟨G3, Gr.refl R3.s, Dp.str _⟩
    · show z.cps.size ≤ i
      simpa using hi
theorem wlk_rng {K : PySem.W.Frag} {lo : Int} {k : Nat} {G : Hp} {α β : List Addr} {s0 : Sto} : Wlk K C (Itr lo k) ((upto lo k).map fun i => .d (.int i)) [] G α β s0 := by
  refine ⟨fun i δ' G3 H3 α3 β3 s3 g3 R3 hs hi => ?_, fun i δ' G3 H3 α3 β3 s3 x' H4 g3 R3 hs hy a ha => ?_, fun i δ' G3 H3 α3 β3 s3 g3 R3 hs hi => ?_⟩
  · rw [List.length_map, upto_len] at hi
    exact hi
  · obtain ⟨rfl, rfl⟩ := hy
    have : a = .d (.int (lo + (i : Int))) := by
      rw [List.getElem?_map] at ha
      cases hu : (upto lo k)[i]? with
      | none => rw [hu] at ha; cases ha
      | some j =>
        rw [hu] at ha
        cases ha
        have := upto_get (d := .d (.int j)) (lo := lo) (n := k) (i := i) (by rw [List.getElem?_map, hu]; rfl)
        cases this
        rfl
    subst this
    exact ⟨G3, Gr.refl R3.s, Dp.int _⟩
  · rw [List.length_map, upto_len] at hi
    exact hi
theorem si_rng1 {p : Pos} (hm : X.mg "range" = none) (h : Sx X C W T e ce) (hg : Gl X "range" := by rfl) (hs : starEach [e] X.env = [(false, eval e X.env)] := by rfl) : Si X C W T tg (.Call (.Name "range" p) [e] [] pos) (.rng1 ce) := by
  refine ⟨_, pi_range1 hg hm (L2.pa_cons pe_w L2.pa_nil hs) hs, fun δ σ G H α β r s R Rr n p => ?_⟩
  rw [evI] at p
  refine h.useI Rr n p fun x s1 v G1 H1 α1 β1 ee g1 R1 n1 d1 p1 => ?_
  split at p1
  · rename_i j
    split at p1
    · rename_i hb
      unfold rngOk at hb
      simp only [Bool.and_eq_true, decide_eq_true_iff] at hb
      refine ⟨j, by rw [ad_int d1], hb.1.2, hb.2, p1 _ G1 H1 α1 β1 Gw.refl R1 wlk_rng⟩
    · exact p1.elim
  · exact p1.elim
theorem si_rng2 {p : Pos} (hm : X.mg "range" = none) (ha : Sx X C W T a ca) (hb : Sx X C W T b cb) (hg : Gl X "range" := by rfl) (hs : starEach [a, b] X.env = [(false, eval a X.env), (false, eval b X.env)] := by rfl) (hs2 : starEach [b] X.env = [(false, eval b X.env)] := by rfl) : Si X C W T tg (.Call (.Name "range" p) [a, b] [] pos) (.rng2 ca cb) := by
  refine ⟨_, pi_range2 hg hm (L2.pa_cons pe_w (L2.pa_cons pe_w L2.pa_nil hs2) (by rw [hs, hs2])) hs hs2, fun δ σ G H α β r s R Rr n p => ?_⟩
  rw [evI] at p
  refine ha.useI Rr n p fun x s1 v G1 H1 α1 β1 ee g1 R1 n1 d1 p1 => hb.useI R1 n1 p1 fun y s2 u G2 H2 α2 β2 ee2 g2 R2 n2 d2 p2 => ?_
  split at p2
  · rename_i i j
    split at p2
    · rename_i hb
      unfold rngOk at hb
      simp only [Bool.and_eq_true, decide_eq_true_iff] at hb
      refine ⟨i, j, by rw [ad_int d1, ad_int d2], ⟨hb.1.1.1, hb.1.1.2, hb.1.2, hb.2⟩, p2 _ G2 H2 α2 β2 Gw.refl R2 wlk_rng⟩
    · exact p2.elim
  · exact p2.elim
/-! ### comprehensions -/
structure Sts (X : Cx) (C : Addr) (W : WX) (T : Tab) (ifs : List Expr) (c : E) : Prop where
  run : ∀ δ σ G H α β r s (Q : Bool → Hp → Prop), Rl X.K C δ G H α β s → Em X.K G α β σ r → Post X.K C δ X.mg W σ (Qb Q) G α β (evT T c r s) → wTs X ifs σ H Q
theorem sts_nil : Sts X C W T [] (.lit (.bool true)) := .mk fun δ σ G H α β r s Q R n p => wTs_of L2.pts_nil (p G H α β Gw.refl R)
theorem sts_one (h : Sb X C W T c cc) : Sts X C W T [c] cc := .mk fun δ σ G H α β r s Q R n p => wTs_of (L2.pts_one pt_w) (h.run δ σ G H α β r s Q R n p)
abbrev W0 : WX := fun _ _ _ _ => False
theorem takes0 {Y : Cx} : Takes Y W0 := fun u s' ⟨_, _, _, _, _, _, _, _, _, _, _, _, _, _, _, _, h⟩ => h.elim
theorem len_setMany : ∀ {is : List Nat} {as : List A} {r r2 : Rh}, setMany is as r = some r2 → r2.length = r.length
  | [], [], _, _, h => by cases h; rfl
  | [], _ :: _, _, _, h => by cases h
  | _ :: _, [], _, _, h => by cases h
  | i :: is, a :: as, r, r2, h => by
    rw [len_setMany (is := is) (as := as) h, List.length_set]
theorem len_setTg {ct : Tg} {a : A} {r r2 : Rh} (h : setTg ct a r = some r2) : r2.length = r.length := by
  cases ct with
  | one i => cases h; exact List.length_set
  | many is =>
    cases a with
    | d x =>
      cases x with
      | tuple ds => exact len_setMany h
      | _ => cases h
    | tup xs => exact len_setMany h
    | _ => cases h
theorem len_wipeA (r : Rh) : ∀ vs : List Nat, (wipeA r vs).length = r.length
  | [] => rfl
  | v :: vs => by rw [wipeA, List.length_set, len_wipeA r vs]
theorem adl_snoc {K : PySem.W.Frag} {G : Hp} {α β : List Addr} : ∀ {xs : List A} {vs : List V} {y : A} {u : V}, AdL K G α β xs vs → Ad K G α β y u → AdL K G α β (xs ++ [y]) (vs ++ [u])
  | [], vs, y, u, h, hy => by rw [show vs = [] from h]; exact ⟨u, [], rfl, hy, rfl⟩
  | x :: xs, _, y, u, ⟨v, t, h1, h2, h3⟩, hy => by
    subst h1
    exact ⟨v, t ++ [u], rfl, h2, adl_snoc h3 hy⟩
theorem lcGo_grow {own : List Nat} {ct : Tg} {w : List A} {fc fe : Rh → Sto → Res A} {r : Rh} {s0 : Sto} : ∀ {xs acc : List A} {s : Sto} {ys : List A} {s' : Sto}, lcGo own ct w fc fe r s0 xs acc s = .ok ys s' → acc.length ≤ ys.length
  | [], acc, s, ys, s', h => by cases h; exact Nat.le_refl _
  | x :: xs, acc, s, ys, s', h => by
    rw [lcGo] at h
    split at h
    · cases h
    · split at h
      · split at h
        · cases h
        · split at h
          · exact lcGo_grow h
          · cases h
        · split at h
          · split at h
            · have := lcGo_grow h
              rw [List.length_append] at this
              omega
            · cases h
          · cases h
      · cases h
theorem lcGo_noer {own : List Nat} {ct : Tg} {w : List A} {fc fe : Rh → Sto → Res A} {r : Rh} {s0 : Sto} : ∀ {xs acc : List A} {s : Sto} {c : Str} {s' : Sto}, lcGo own ct w fc fe r s0 xs acc s = .er c s' → False
  | [], acc, s, c, s', h => by cases h
  | x :: xs, acc, s, c, s', h => by
    rw [lcGo] at h
    split at h
    · cases h
    · split at h
      · split at h
        · cases h
        · split at h
          · exact lcGo_noer h
          · cases h
        · split at h
          · split at h
            · exact lcGo_noer h
            · cases h
          · cases h
      · cases h
/-- the turns of a comprehension, the list at D -/
theorem lc_turns {elt : Expr} {ifs : List Expr} {scope : Scope} {own : List (Str × Nat)} {m : Nat} {ct : Tg} {δ : List (Addr × HO)} {σ : L2.St} {G1 H1 : Hp} {α1 β1 : List Addr} {r : Rh} {s1 : Sto} {xs w : List A} {J : It} {Q : VK} {Wo : WX}
    (hg : Blk X scope fun Y => Sg Y tg ct) (ht : Blk X scope fun Y => Sts Y C W0 T ifs cc) (he : Blk X scope fun Y => Sx Y C W0 T elt ce) (hj : ∀ j, j ∈ tgS ct → j ∈ own.map (·.2))
    (R1 : Rl X.K C δ G1 H1 α1 β1 s1) (n1 : Em X.K G1 α1 β1 σ r) (wk : Wlk X.K C J xs w G1 α1 β1 s1) (hw : w.all (fun a => stays a s1 s1) = true)
    (post : Post X.K C δ X.mg Wo σ (Qv X.K Q) G1 α1 β1 ((lcGo (own.map (·.2)) ct w (ev T cc) (ev T ce) r s1 xs [] s1).bind fun ys s => newL m ys s)) (D : Addr) (hD : H1 D = none) :
    ∃ Wi : Nat → Nat → Hp → Prop, (∃ m, Wi 0 m (upd H1 D (.lst []))) ∧ ∀ i m H, Wi i m H →
      (J.stop i H ∧ Q (.ref D) H) ∨ (J.go i H ∧ ∃ Nx : Hp → Prop, (∀ H', Nx H' → ∃ m', m' < m ∧ Wi (i + 1) m' H') ∧ ∀ x H', J.yld i H x H' → bG X scope tg x (wipe σ (own.map (·.2))) H' fun σ2 H2 => wipe σ2 (own.map (·.2)) = wipe σ (own.map (·.2)) ∧ bTs X scope ifs σ2 H2 fun b H3 =>
        if b = true then bE X scope elt σ2 H3 fun y H4 => ∃ acc, H4 D = some (.lst acc) ∧ acc.length < sizeLine ∧ Nx (upd H4 D (.lst (acc ++ [y]))) else Nx H3) := by
  -- behind i turns
  let Inv : Nat → Hp → Prop := fun i H2 => i ≤ xs.length ∧ ∃ G2 α2 β2 vs acc s2, Gw G1 α1 β1 G2 α2 β2 ∧ Rl X.K C ((D, .lst vs) :: δ) G2 H2 α2 β2 s2 ∧ AdL X.K G2 α2 β2 acc vs ∧ w.all (fun a => stays a s1 s2) = true ∧
    Post X.K C δ X.mg Wo σ (Qv X.K Q) G2 α2 β2 ((lcGo (own.map (·.2)) ct w (ev T cc) (ev T ce) r s1 (xs.drop i) acc s2).bind fun ys s => newL m ys s)
  refine ⟨fun i k H2 => k = xs.length - i ∧ Inv i H2, ⟨xs.length, rfl, Nat.zero_le _, G1, α1, β1, [], [], s1, Gw.refl, R1.lay hD, rfl, hw, post⟩, ?_⟩
  rintro i k H2 ⟨rfl, hi2, G2, α2, β2, vs, acc, s2, g2, R2, d2, st2, p2⟩
  have n2 : Em X.K G2 α2 β2 σ r := n1.up g2
  by_cases hlt : i < xs.length
  · obtain ⟨x, hx⟩ : ∃ x, xs[i]? = some x := ⟨xs[i], List.getElem?_eq_getElem hlt⟩
    have hdr : xs.drop i = x :: xs.drop (i + 1) := by
      rw [List.drop_eq_getElem_cons hlt]
      congr 1
      rw [List.getElem?_eq_getElem hlt] at hx
      exact Option.some.inj hx
    refine .inr ⟨wk.go i _ G2 H2 α2 β2 s2 g2 R2 st2 hlt, Inv (i + 1), fun H' q => ⟨xs.length - (i + 1), by omega, rfl, q⟩, fun v H3 yl => ?_⟩
    obtain ⟨G3, k3, q3⟩ := wk.yl i _ G2 H2 α2 β2 s2 v H3 g2 R2 st2 yl x hx
    have R3 := R2.gr k3
    have n3 := n2.up (Gw.of k3.g)
    have g3 : Gw G2 α2 β2 G3 α2 β2 := Gw.of k3.g
    rw [hdr] at p2
    -- the target
    have hnb : ∀ {ρ : Res (List A)}, (ρ = .no) → Post X.K C δ X.mg Wo σ (Qv X.K Q) G2 α2 β2 (ρ.bind fun ys s => newL m ys s) → False := fun e z => by rw [e] at z; exact z
    cases hst : setTg ct x (wipeA r (own.map (·.2))) with
    | none => exact (hnb (by rw [lcGo, hst]) p2).elim
    | some r1 =>
      intro s0 H0 C0 cl fp
      refine wG_imp ((hg s0 H0 C0 cl fp).run (wipe σ (own.map (·.2))) G3 H3 α2 β2 (wipeA r (own.map (·.2))) r1 x v (n3.wipe _) q3 R3.s hst) fun σ2 H4 ⟨e4, n4, keep4⟩ => ?_
      subst e4
      refine ⟨wipe_eq (by rw [n4.len, len_setTg hst, len_wipeA, n1.len]) fun j hj' => keep4 j fun z => hj' (hj j z), fun s0 H0 C0 cl fp => ?_⟩
      -- the test
      refine (ht s0 H0 C0 cl fp).run ((D, .lst vs) :: δ) σ2 G3 H4 α2 β2 r1 s2 _ R3 n4 ?_
      unfold evT
      cases mc : ev T cc r1 s2 with
      | no => exact (hnb (by rw [lcGo, hst]; simp only [mc]) p2).elim
      | er c' s' => exact (hnb (by rw [lcGo, hst]; simp only [mc]) p2).elim
      | ok c' s3 =>
        show Post _ _ _ _ _ _ _ _ _ _ (Res.of (truA s3 c') s3)
        cases mt : truA s3 c' with
        | none => exact (hnb (by rw [lcGo, hst]; simp only [mc, mt]) p2).elim
        | some bb =>
          intro G5 H5 α5 β5 g5 R5
          have g25 := g3.trans g5
          cases bb with
          | false =>
            show Inv (i + 1) H5
            have p3 : Post X.K C δ X.mg Wo σ (Qv X.K Q) G2 α2 β2 ((if w.all (fun a => stays a s1 s3) then lcGo (own.map (·.2)) ct w (ev T cc) (ev T ce) r s1 (xs.drop (i + 1)) acc s3 else .no).bind fun ys s => newL m ys s) := by
              rw [lcGo, hst] at p2
              simp only [mc, mt] at p2
              exact p2
            split at p3
            · rename_i hw3
              exact ⟨hlt, G5, α5, β5, vs, acc, s3, g2.trans g25, R5, d2.up g25, hw3, Post.up p3 g25⟩
            · exact p3.elim
          | true =>
            show bE X scope elt σ2 H5 _
            intro s0 H0 C0 cl fp
            refine (he s0 H0 C0 cl fp).run ((D, .lst vs) :: δ) σ2 G5 H5 α5 β5 r1 s3 _ R5 (n4.up g5) ?_
            cases me : ev T ce r1 s3 with
            | no => exact (hnb (by rw [lcGo, hst]; simp only [mc, mt, me]) p2).elim
            | er c2 s' => exact (hnb (by rw [lcGo, hst]; simp only [mc, mt, me]) p2).elim
            | ok y s4 =>
              intro G6 H6 α6 β6 g6 R6 u hu
              have g26 := g25.trans g6
              have p3 : Post X.K C δ X.mg Wo σ (Qv X.K Q) G2 α2 β2 ((if (w.all (fun a => stays a s1 s4) && noLoc y) = true then lcGo (own.map (·.2)) ct w (ev T cc) (ev T ce) r s1 (xs.drop (i + 1)) (acc ++ [y]) s4 else .no).bind fun ys s => newL m ys s) := by
                rw [lcGo, hst] at p2
                simp only [mc, mt, me] at p2
                exact p2
              split at p3
              · rename_i hw4
                rw [Bool.and_eq_true] at hw4
                have hl := AdL.len d2
                have hz : acc.length + 1 ≤ 100000 := by
                  cases ml : lcGo (own.map (·.2)) ct w (ev T cc) (ev T ce) r s1 (xs.drop (i + 1)) (acc ++ [y]) s4 with
                  | no => rw [ml] at p3; exact p3.elim
                  | er c3 s5 => exact (lcGo_noer ml).elim
                  | ok ys s5 =>
                    rw [ml] at p3
                    have h1 := newL_len (show Post X.K C δ X.mg Wo σ (Qv X.K Q) G2 α2 β2 (newL m ys s5) from p3)
                    have h2 := lcGo_grow ml
                    rw [List.length_append] at h2
                    simp at h2
                    omega
                refine ⟨vs, (R6.fr _ List.mem_cons_self).1, sz_lt (by omega), hlt, G6, α6, β6, vs ++ [u], acc ++ [y], s4, g2.trans g26, R6.re, adl_snoc (d2.up g26) hu, hw4.1, Post.up p3 g26⟩
              · exact p3.elim
  · have hi3 : i = xs.length := by omega
    subst hi3
    rw [List.drop_length] at p2
    refine .inl ⟨wk.st _ _ G2 H2 α2 β2 s2 g2 R2 st2 (Nat.le_refl _), newL_post R2 d2 p2⟩
end
end Fb

/-! Ri: comprehensions as expressions; statements. -/
namespace Fb
open PySem PySem.Spec PyProof.Rows L2 Evl
section
variable {X : Cx} {C : Addr} {W : WX} {T : Tab} {a b c d e f o tg : Expr} {es rest : List Expr} {ca cb cc cd ce : E} {cs : Es} {pos p p2 apos cpos q : Pos}
theorem lc_read {elt iter : Expr} {ifs : List Expr} {scope : Scope} {own : List (Str × Nat)} {m : Nat} {ct : Tg} {ci : I} {wi : TI} {δ : List (Addr × HO)} {σ : L2.St} {G H : Hp} {α β : List Addr} {r : Rh} {s : Sto} {Q : VK}
    (hwi : ∀ δ σ G H α β r s (R : It → Hp → Prop), Rl X.K C δ G H α β s → Em X.K G α β σ r → PostI X.K C δ X.mg W σ R G α β (evI T ci r s) → wi σ H R)
    (hg : Blk X scope fun Y => Sg Y tg ct) (ht : Blk X scope fun Y => Sts Y C W0 T ifs cc) (he : Blk X scope fun Y => Sx Y C W0 T elt ce) (hj : ∀ j, j ∈ tgS ct → j ∈ own.map (·.2))
    (R : Rl X.K C δ G H α β s) (n : Em X.K G α β σ r) (p : Post X.K C δ X.mg W σ (Qv X.K Q) G α β (ev T (.lc m (own.map (·.2)) ce ct ci cc) r s)) : tLc wi (bG X scope tg) (bTs X scope ifs) (bE X scope elt) (own.map (·.2)) σ H Q := by
  rw [ev] at p
  refine hwi δ σ G H α β r s _ R n ?_
  cases me : evI T ci r s with
  | ok xw s1 =>
    rw [me] at p
    intro J G1 H1 α1 β1 g1 R1 wk D hD
    have p1 : Post X.K C δ X.mg W σ (Qv X.K Q) G α β (if xw.2.all (fun a => stays a s1 s1) = true then (lcGo (own.map (·.2)) ct xw.2 (ev T cc) (ev T ce) r s1 xw.1 [] s1).bind fun ys s => newL m ys s else .no) := p
    split at p1
    · rename_i hw
      exact lc_turns hg ht he hj R1 (n.up g1) wk hw (Post.up p1 g1) D hD
    · exact p1.elim
  | er c s1 => rw [me] at p; exact p
  | no => rw [me] at p; exact p
theorem sx_lc {elt iter : Expr} {ifs : List Expr} {scope : Scope} (own : List (Str × Nat)) {m : Nat} {ct : Tg} {ci : I} (hc : X.calm = true) (hN : X.N.Nodup) (hi : Si X C W T tg iter ci) (ok : BlkOk X.N X.env.scope scope own)
    (hg : Blk X scope fun Y => Sg Y tg ct) (ht : Blk X scope fun Y => Sts Y C W0 T ifs cc) (he : Blk X scope fun Y => Sx Y C W0 T elt ce) (hj : ∀ j, j ∈ tgS ct → j ∈ own.map (·.2)) (hs : ∀ x, foldedSetIterable iter X.env x = pure x := by intro _; rfl) :
    Sx X C W T (.ListComp elt [⟨tg, iter, ifs, 0⟩] scope pos) (.lc m (own.map (·.2)) ce ct ci cc) := by
  obtain ⟨wi, hpi, hwi⟩ := hi
  refine .mk fun δ σ G H α β r s Q R n p => ?_
  exact wE_of (pe_lc hc hN hpi ok bG_ok bTs_ok bE_ok hs) (lc_read (iter := iter) hwi hg ht he hj R n p)
end
/-! ### statements -/
def PostS (K : PySem.W.Frag) (C : Addr) (δ : List (Addr × HO)) (mg : Str → Option Value) (W : WX) (D : Ends) (G : Hp) (α β : List Addr) : Out → Prop
  | .nx r s => ∀ σ G2 H2 α2 β2, Gw G α β G2 α2 β2 → Rl K C δ G2 H2 α2 β2 s → Em K G2 α2 β2 σ r → D.nx σ H2
  | .rt a s => ∀ v G2 H2 α2 β2, Gw G α β G2 α2 β2 → Rl K C δ G2 H2 α2 β2 s → Ad K G2 α2 β2 a v → D.rt v H2
  | .er c r s => ∀ σ G2 H2 α2 β2, Gw G α β G2 α2 β2 → Rl K C δ G2 H2 α2 β2 s → Em K G2 α2 β2 σ r → ∀ B, mg c = some (.ref B) → W (.ref B) none σ H2
  | .no => False
theorem PostS.up {K : PySem.W.Frag} {C : Addr} {δ : List (Addr × HO)} {mg : Str → Option Value} {W : WX} {D : Ends} {G G2 : Hp} {α β α2 β2 : List Addr} {m : Out} (p : PostS K C δ mg W D G α β m) (g : Gw G α β G2 α2 β2) : PostS K C δ mg W D G2 α2 β2 m := by
  cases m with
  | nx r s => exact fun σ G3 H3 α3 β3 g3 R3 => p σ G3 H3 α3 β3 (g.trans g3) R3
  | rt a s => exact fun v G3 H3 α3 β3 g3 R3 => p v G3 H3 α3 β3 (g.trans g3) R3
  | er c r s => exact fun σ G3 H3 α3 β3 g3 R3 => p σ G3 H3 α3 β3 (g.trans g3) R3
  | no => exact p
structure Ss1 (X : Cx) (C : Addr) (W : WX) (T : Tab) (st : Stmt) (c : S) : Prop where
  run : ∀ δ σ G H α β r s D, Rl X.K C δ G H α β s → Em X.K G α β σ r → PostS X.K C δ X.mg W D G α β (exS T c r s) → wS X st D σ H
structure Sz (X : Cx) (C : Addr) (W : WX) (T : Tab) (sts : List Stmt) (c : Ss) : Prop where
  run : ∀ δ σ G H α β r s D, Rl X.K C δ G H α β s → Em X.K G α β σ r → PostS X.K C δ X.mg W D G α β (exSs T c r s) → wSs X sts D σ H
section
variable {X : Cx} {C : Addr} {W : WX} {T : Tab} {a b c d e f o tg i : Expr} {es : List Expr} {st : Stmt} {sts ss rest : List Stmt} {ca cb cc cd ce : E} {cs : Es} {cz : S} {czs czs2 : Ss} {pos p p' p1 p2 p3 p4 apos cpos q : Pos} {δ : List (Addr × HO)} {σ : L2.St} {G H : Hp} {α β : List Addr} {r : Rh} {s : Sto} {D : Ends}
theorem Sx.useS (h : Sx X C W T e ce) (R : Rl X.K C δ G H α β s) (n : Em X.K G α β σ r) {k : A → Sto → Out} {Q : VK} (p : PostS X.K C δ X.mg W D G α β ((ev T ce r s).out r k))
    (q : ∀ a s' v G2 H2 α2 β2, Gw G α β G2 α2 β2 → Rl X.K C δ G2 H2 α2 β2 s' → Em X.K G2 α2 β2 σ r → Ad X.K G2 α2 β2 a v → PostS X.K C δ X.mg W D G2 α2 β2 (k a s') → Q v H2) : wE X e σ H Q := by
  refine h.run δ σ G H α β r s Q R n ?_
  cases m : ev T ce r s with
  | ok a s' => rw [m] at p; exact fun G2 H2 α2 β2 g R2 v hv => q a s' v G2 H2 α2 β2 g R2 (n.up g) hv (PostS.up p g)
  | er c s' => rw [m] at p; exact fun G2 H2 α2 β2 g R2 B hB => p σ G2 H2 α2 β2 g R2 (n.up g) B hB
  | no => rw [m] at p; exact p
theorem Sb.useS (h : Sb X C W T e ce) (R : Rl X.K C δ G H α β s) (n : Em X.K G α β σ r) {k : Bool → Sto → Out} {Q : Bool → Hp → Prop} (p : PostS X.K C δ X.mg W D G α β ((evT T ce r s).out r k))
    (q : ∀ a s' G2 H2 α2 β2, Gw G α β G2 α2 β2 → Rl X.K C δ G2 H2 α2 β2 s' → Em X.K G2 α2 β2 σ r → PostS X.K C δ X.mg W D G2 α2 β2 (k a s') → Q a H2) : wT X e σ H Q := by
  refine h.run δ σ G H α β r s Q R n ?_
  cases m : evT T ce r s with
  | ok a s' => rw [m] at p; exact fun G2 H2 α2 β2 g R2 => q a s' G2 H2 α2 β2 g R2 (n.up g) (PostS.up p g)
  | er c s' => rw [m] at p; exact fun G2 H2 α2 β2 g R2 B hB => p σ G2 H2 α2 β2 g R2 (n.up g) B hB
  | no => rw [m] at p; exact p
/-! #### blocks -/
theorem sz_nil : Sz X C W T [] .nil := .mk fun δ σ G H α β r s D R n p => wSs_of pss_nil (p σ G H α β Gw.refl R n)
theorem sz_cons (h : Ss1 X C W T st cz) (hr : Sz X C W T rest czs) : Sz X C W T (st :: rest) (.cons cz czs) := .mk fun δ σ G H α β r s D R n p => by
  rw [exSs] at p
  refine wSs_of (pss_cons ps_w pss_w) (h.run δ σ G H α β r s _ R n ?_)
  cases m : exS T cz r s with
  | nx r' s' =>
    rw [m] at p
    exact fun σ2 G2 H2 α2 β2 g R2 n2 => hr.run δ σ2 G2 H2 α2 β2 r' s' D R2 n2 (PostS.up p g)
  | rt a s' => rw [m] at p; exact p
  | er c r' s' => rw [m] at p; exact p
  | no => rw [m] at p; exact p
/-! #### simple statements -/
theorem ss_ex (h : Sx X C W T e ce) (hs : swapsWith e none pos.line X.env = pure false := by rfl) : Ss1 X C W T (.Expr e pos) (.ex ce) := .mk fun δ σ G H α β r s D R n p => by
  rw [exS] at p
  exact wS_of (ps_expr pe_w hs) (h.useS R n p fun x s1 v G1 H1 α1 β1 g1 R1 n1 d1 p1 => p1 σ G1 H1 α1 β1 Gw.refl R1 n1)
theorem ss_set (i : Nat) {x : Str} (h : Sx X C W T e ce) (hN : X.N.Nodup) (hi : X.N[i]? = some x := by rfl) (hx : Loc X.env.scope x := by first | exact Or.inl rfl | exact Or.inr rfl)
    (hs : swapsWith e (some (.Name x p')) pos.line X.env = pure false := by rfl) (hf : X.fn x = true ∨ X.env.scope.names.lookup x = some .local := by first | exact .inl rfl | exact .inr rfl) : Ss1 X C W T (.Assign [.Name x p'] e pos) (.set i ce) := .mk fun δ σ G H α β r s D R n p => by
  rw [exS] at p
  exact wS_of (ps_set hN hi hx pe_w hs hf) (h.useS R n p fun x s1 v G1 H1 α1 β1 g1 R1 n1 d1 p1 => p1 _ G1 H1 α1 β1 Gw.refl R1 (n1.set i d1))
/-- y = [..] on one row, y a local -/
theorem ss_setLc (i : Nat) {y : Str} {py pl : Pos} {elt iter : Expr} {ifs : List Expr} {scope : Scope} (own : List (Str × Nat)) {m : Nat} {ct : Tg} {ci : I} (hc : X.calm = true) (hN : X.N.Nodup) (hi : Si X C W T tg iter ci) (ok : BlkOk X.N X.env.scope scope own)
    (hg : Blk X scope fun Y => Sg Y tg ct) (ht : Blk X scope fun Y => Sts Y C W0 T ifs cc) (he : Blk X scope fun Y => Sx Y C W0 T elt ce) (hj : ∀ j, j ∈ tgS ct → j ∈ own.map (·.2))
    (hsw : swapsWith (.ListComp elt [⟨tg, iter, ifs, 0⟩] scope pl) (some (.Name y py)) pos.line X.env = pure true) (hyi : X.N[i]? = some y := by rfl) (hyl : X.env.scope.names.lookup y = some .local := by rfl) (hs : ∀ x, foldedSetIterable iter X.env x = pure x := by intro _; rfl) :
    Ss1 X C W T (.Assign [.Name y py] (.ListComp elt [⟨tg, iter, ifs, 0⟩] scope pl) pos) (.set i (.lc m (own.map (·.2)) ce ct ci cc)) := by
  obtain ⟨wi, hpi, hwi⟩ := hi
  refine .mk fun δ σ G H α β r s D R n p => ?_
  rw [exS] at p
  refine wS_of (ps_setLc hc hN hyi hyl hsw hpi ok bG_ok bTs_ok bE_ok hs) (lc_read (iter := iter) (m := m) (Q := fun x H1 => gName i x σ H1 D.nx) hwi hg ht he hj R n ?_)
  cases mm : ev T (.lc m (own.map (·.2)) ce ct ci cc) r s with
  | ok x s' => rw [mm] at p; exact fun G2 H2 α2 β2 g R2 v hv => p _ G2 H2 α2 β2 g R2 ((n.up g).set i hv)
  | er c s' => rw [mm] at p; exact fun G2 H2 α2 β2 g R2 B hB => p σ G2 H2 α2 β2 g R2 (n.up g) B hB
  | no => rw [mm] at p; exact p
theorem ss_unp {ct : Tg} (h : Sx X C W T e ce) (hg : Sg X tg ct) (hs : swapsWithSole [tg] e pos.line X.env = pure false := by rfl) (hw : swappedStores [tg] e X.env = pure none := by rfl) (h1 : (assignEach [tg] X.env).map (·.2) = [assign tg X.env] := by rfl) : Ss1 X C W T (.Assign [tg] e pos) (.unp ct ce) := .mk fun δ σ G H α β r s D R n p => by
  rw [exS] at p
  refine wS_of (ps_asg pe_w pg_w hs hw h1) (h.useS R n p fun x s1 v G1 H1 α1 β1 g1 R1 n1 d1 p1 => ?_)
  split at p1
  · rename_i r2 hr2
    refine wG_imp (hg.run σ G1 H1 α1 β1 r r2 x v n1 d1 R1.s hr2) fun σ2 H2 ⟨e2, n2, _⟩ => ?_
    subst e2
    exact p1 σ2 G1 H2 α1 β1 Gw.refl R1 n2
  · exact p1.elim
theorem ss_par {ii jj : Nat} {x y : Str} {px py pt : Pos} {kt k2 : Nat} {pt2 : Pos} (ha : Sx X C W T a ca) (hb : Sx X C W T b cb) (hc : X.calm = true) (hN : X.N.Nodup) (hi : X.N[ii]? = some x := by rfl) (hj : X.N[jj]? = some y := by rfl) (hij : ii ≠ jj := by decide)
    (hx : X.env.scope.names.lookup x = some .local := by rfl) (hy : X.env.scope.names.lookup y = some .local := by rfl) (hw : swappedStores [.Tuple [.Name x px, .Name y py] kt pt] (.Tuple [a, b] k2 pt2) X.env = pure (some [x, y]) := by rfl)
    (hs : swapsWithSole [.Tuple [.Name x px, .Name y py] kt pt] (.Tuple [a, b] k2 pt2) pos.line X.env = pure false := by rfl) (he : starEach [a, b] X.env = (false, eval a X.env) :: starEach [b] X.env := by rfl) (he2 : starEach [b] X.env = (false, eval b X.env) :: starEach [] X.env := by rfl) :
    Ss1 X C W T (.Assign [.Tuple [.Name x px, .Name y py] kt pt] (.Tuple [a, b] k2 pt2) pos) (.par ii jj ca cb) := .mk fun δ σ G H α β r s D R n p => by
  rw [exS] at p
  refine wS_of (ps_par hc hN hi hj hij hx hy (L2.pa_cons pe_w (L2.pa_cons pe_w L2.pa_nil he2) he) hw hs) (ha.useS R n p fun x s1 v G1 H1 α1 β1 g1 R1 n1 d1 p1 => hb.useS R1 n1 p1 fun y s2 u G2 H2 α2 β2 g2 R2 n2 d2 p2 => ?_)
  exact ⟨v, u, rfl, p2 _ G2 H2 α2 β2 Gw.refl R2 ((n2.set ii (d1.up g2)).set jj d2)⟩
theorem ss_ret (h : Sx X C W T e ce) : Ss1 X C W T (.Return (some e) pos) (.ret ce) := .mk fun δ σ G H α β r s D R n p => by
  rw [exS] at p
  exact wS_of (ps_ret pe_w) (h.useS R n p fun x s1 v G1 H1 α1 β1 g1 R1 n1 d1 p1 => p1 v G1 H1 α1 β1 Gw.refl R1 d1)
theorem ss_retN : Ss1 X C W T (.Return none pos) (.ret (.lit .none)) := .mk fun δ σ G H α β r s D R n p => by
  rw [exS] at p
  exact wS_of ps_retN (p .non G H α β Gw.refl R Dp.non)
theorem ss_pass : Ss1 X C W T (.Pass pos) .pass := .mk fun δ σ G H α β r s D R n p => wS_of ps_pass (p σ G H α β Gw.refl R n)
theorem ss_if (hc : Sb X C W T c cc) (ha : Sz X C W T ss czs) (hb : Sz X C W T sts czs2) : Ss1 X C W T (.If c ss sts pos) (.ite cc czs czs2) := .mk fun δ σ G H α β r s D R n p => by
  have e : exS T (.ite cc czs czs2) r s = (evT T cc r s).out r fun q s => if q = true then exSs T czs r s else exSs T czs2 r s := by
    unfold evT
    rw [exS]
    cases ev T cc r s with
    | ok x s' =>
      show (match truA s' x with
        | none => Out.no
        | some true => exSs T czs r s'
        | some false => exSs T czs2 r s') = (Res.of (truA s' x) s').out r _
      cases truA s' x with
      | none => rfl
      | some q => cases q <;> rfl
    | er c s' => rfl
    | no => rfl
  rw [e] at p
  refine wS_of (ps_if pt_w pss_w pss_w) (hc.useS R n p fun q s1 G1 H1 α1 β1 g1 R1 n1 p1 => ?_)
  cases q with
  | true => exact ha.run δ σ G1 H1 α1 β1 r s1 D R1 n1 p1
  | false => exact hb.run δ σ G1 H1 α1 β1 r s1 D R1 n1 p1
theorem ss_raise {x m : Str} {j : Nat} {B : Addr} (E : Ec X.K X.mg x B) (tk : Takes X W) (hc : X.calm = true := by rfl) (hg : Gl X x := by rfl) (hdb : (x == ("__debug__" : Str)) = false := by decide) :
    Ss1 X C W T (.Raise (some (.Call (.Name x p) [.Constant (.str m) j p2] [] p3)) none p4) (.raise x) := .mk fun δ σ G H α β r s D R n p => by
  rw [exS] at p
  exact wS_of (ps_raise hc tk (pmk_own PySem.F.excBase_ValueError E.xP E.gP E.kP (raises_own E.bP E.tP) hg hdb)) (p σ G H α β Gw.refl R n B E.gP)
theorem ss_aug (ii : Nat) {x : Str} (h : Sx X C W T e ce) (hN : X.N.Nodup) (hi : X.N[ii]? = some x := by rfl) (hx : Loc X.env.scope x := by first | exact Or.inl rfl | exact Or.inr rfl) (hf : X.fn x = true ∨ X.env.scope.names.lookup x = some .local := by first | exact .inl rfl | exact .inr rfl) : Ss1 X C W T (.AugAssign (.Name x p') .Add e pos) (.aug ii ce) := .mk fun δ σ G H α β r s D R n p => by
  rw [exS] at p
  split at p
  · rename_i j hj
    obtain ⟨v, h1, h2⟩ := n.at_ ii _ hj
    have := ad_int h2
    subst this
    refine wS_of (ps_aug hN hi hx pe_w ip_add hf) ⟨_, h1, h.useS R n p fun y s1 u G1 H1 α1 β1 g1 R1 n1 d1 p1 => ?_⟩
    split at p1
    · rename_i k
      exact ⟨j, k, rfl, ad_int d1, p1 _ G1 H1 α1 β1 Gw.refl R1 (n1.set ii (show Ad X.K G1 α1 β1 (.d (.int (j + k))) _ from Dp.int _))⟩
    · exact p1.elim
  · exact p.elim
end
/-! #### objects changed -/
section
variable {K : PySem.W.Frag} {C : Addr} {δ : List (Addr × HO)} {G H : Hp} {α β : List Addr} {s s' : Sto} {x : A} {v : V} {f : Ob → Option Ob}
theorem nodup_ix2 {γ : Type} {l : List γ} (h : l.Nodup) {i j : Nat} {x : γ} (a : l[i]? = some x) (b : l[j]? = some x) : i = j := by
  obtain ⟨h1, h2⟩ := List.getElem?_eq_some_iff.mp a
  obtain ⟨h3, h4⟩ := List.getElem?_eq_some_iff.mp b
  have pw := List.pairwise_iff_getElem.mp h
  rcases Nat.lt_trichotomy i j with hlt | rfl | hlt
  · exact absurd (h2.trans h4.symm) (pw i j h1 h3 hlt)
  · rfl
  · exact absurd (h4.trans h2.symm) (pw j i h3 h1 hlt)
theorem Rl.setP (R : Rl K C δ G H α β s) {n : Nat} {p : Addr} {u : HO} {ob : Ob} (hn : α[n]? = some p) (hb : ObR K C G (upd H p u) α p ob) : Rl K C δ G (upd H p u) α β ⟨s.P.set n ob, s.S⟩ := by
  have hm : p ∈ α ++ β := List.mem_append_left _ (List.mem_of_getElem? hn)
  have gp := R.no p hm
  have nd := R.nd
  rw [List.nodup_append] at nd
  refine ⟨R.s.mut gp, R.nd, by simp [R.la], R.lb, R.no, fun k o h => ?_, fun k o h => ?_, fun q hq => ?_, R.dn⟩
  · have h : (s.P.set n ob)[k]? = some o := h
    by_cases e : n = k
    · subst e
      have hl : n < s.P.length := by rw [← R.la]; exact (List.getElem?_eq_some_iff.mp hn).1
      rw [List.getElem?_set_self hl] at h
      cases h
      exact ⟨p, hn, hb⟩
    · rw [List.getElem?_set_ne e] at h
      obtain ⟨a, h1, h2⟩ := R.P k o h
      exact ⟨a, h1, h2.mv (upd_ne fun z => e (nodup_ix2 nd.1 hn (z ▸ h1)))⟩
  · obtain ⟨a, h1, h2⟩ := R.S k o h
    exact ⟨a, h1, h2.mv (upd_ne fun z => nd.2.2 p (List.mem_of_getElem? hn) a (List.mem_of_getElem? h1) z.symm)⟩
  · obtain ⟨h1, h2, h3, h4⟩ := R.fr q hq
    exact ⟨by rw [upd_ne fun z => h3 (by rw [z]; exact hm)]; exact h1, h2, h3, h4⟩
theorem Rl.setS (R : Rl K C δ G H α β s) {n : Nat} {p : Addr} {u : HO} {ob : Ob} (hn : β[n]? = some p) (hb : ObR K C G (upd H p u) α p ob) : Rl K C δ G (upd H p u) α β ⟨s.P, s.S.set n ob⟩ := by
  have hm : p ∈ α ++ β := List.mem_append_right _ (List.mem_of_getElem? hn)
  have gp := R.no p hm
  have nd := R.nd
  rw [List.nodup_append] at nd
  refine ⟨R.s.mut gp, R.nd, R.la, by simp [R.lb], R.no, fun k o h => ?_, fun k o h => ?_, fun q hq => ?_, R.dn⟩
  · obtain ⟨a, h1, h2⟩ := R.P k o h
    exact ⟨a, h1, h2.mv (upd_ne fun z => nd.2.2 a (List.mem_of_getElem? h1) p (List.mem_of_getElem? hn) z)⟩
  · have h : (s.S.set n ob)[k]? = some o := h
    by_cases e : n = k
    · subst e
      have hl : n < s.S.length := by rw [← R.lb]; exact (List.getElem?_eq_some_iff.mp hn).1
      rw [List.getElem?_set_self hl] at h
      cases h
      exact ⟨p, hn, hb⟩
    · rw [List.getElem?_set_ne e] at h
      obtain ⟨a, h1, h2⟩ := R.S k o h
      exact ⟨a, h1, h2.mv (upd_ne fun z => e (nodup_ix2 nd.2.1 hn (z ▸ h1)))⟩
  · obtain ⟨h1, h2, h3, h4⟩ := R.fr q hq
    exact ⟨by rw [upd_ne fun z => h3 (by rw [z]; exact hm)]; exact h1, h2, h3, h4⟩
/-- an object is changed -/
theorem chg_at (R : Rl K C δ G H α β s) (d : Ad K G α β x v) (h : chg s x f = some s') : ∃ p o o', v = .ref p ∧ f o = some o' ∧ ObR K C G H α p o ∧ ∀ u, ObR K C G (upd H p u) α p o' → Rl K C δ G (upd H p u) α β s' := by
  unfold chg at h
  split at h
  · rename_i n
    split at h
    · rename_i o ho
      cases hf : f o with
      | none => rw [hf] at h; cases h
      | some o' =>
        rw [hf] at h
        cases h
        obtain ⟨p, h1, h2⟩ := R.P n o ho
        obtain ⟨p', h3, h4⟩ := d
        rw [h1] at h3
        cases h3
        exact ⟨p, o, o', h4, hf, h2, fun u hb => R.setP h1 hb⟩
    · cases h
  · rename_i n
    split at h
    · rename_i o ho
      cases hf : f o with
      | none => rw [hf] at h; cases h
      | some o' =>
        rw [hf] at h
        cases h
        obtain ⟨p, h1, h2⟩ := R.S n o ho
        obtain ⟨p', h3, h4⟩ := d
        rw [h1] at h3
        cases h3
        exact ⟨p, o, o', h4, hf, h2, fun u hb => R.setS h1 hb⟩
    · cases h
  · cases h
theorem aif_put {k : Str} {a : A} {u : V} (ha : Ai K G α a u) : ∀ {fs : List (Str × A)} {ws : List (Str × V)}, AiF K G α fs ws → AiF K G α (putL fs k a) (putF k u ws)
  | [], _, h => by rw [show _ = [] from h]; exact ⟨u, [], rfl, ha, rfl⟩
  | q :: fs, _, ⟨v, t, h1, h2, h3⟩ => by
    subst h1
    unfold putL putF
    obtain ⟨j, y⟩ := q
    by_cases e : j = k
    · simp only [if_pos e]
      exact ⟨u, t, rfl, ha, h3⟩
    · simp only [if_neg e]
      exact ⟨v, _, rfl, h2, aif_put ha h3⟩
theorem aif_len : ∀ {fs : List (Str × A)} {ws : List (Str × V)}, AiF K G α fs ws → ws.length = fs.length
  | [], _, h => by rw [show _ = [] from h]; rfl
  | q :: fs, _, ⟨v, t, h1, h2, h3⟩ => by subst h1; rw [List.length_cons, List.length_cons, aif_len h3]
theorem aik_len : ∀ {fs : List (Str × A)} {ws : List (Key × V)}, AiK K G α fs ws → ws.length = fs.length
  | [], _, h => by rw [show _ = [] from h]; rfl
  | q :: fs, _, ⟨v, t, h1, h2, h3⟩ => by subst h1; rw [List.length_cons, List.length_cons, aik_len h3]
theorem aik_keys {k : Str} : ∀ {fs : List (Str × A)} {ws : List (Key × V)}, AiK K G α fs ws → (ws.any fun kv => decide (kv.1 = Sum.inr k)) = fs.any fun q => decide (q.1 = k)
  | [], _, h => by rw [show _ = [] from h]; rfl
  | q :: fs, _, ⟨v, t, h1, h2, h3⟩ => by
    subst h1
    rw [List.any_cons, List.any_cons, aik_keys h3]
    congr 1
    rw [Bool.eq_iff_iff]
    simp
end
end Fb

/-! Rj: stores, loops, try; defs. -/
namespace Fb
open PySem PySem.Spec PyProof.Rows L2 Evl
theorem PSet.or {X : Cx} {t u : TSet} (h : PSet X t) (k : PSet X u) : PSet X (fun o i v H Q => t o i v H Q ∨ u o i v H Q) := by
  intro pins s σ H o i v ov iv w Q I ro ri rv q
  rcases q with q | q
  · exact h pins s σ H o i v ov iv w Q I ro ri rv q
  · exact k pins s σ H o i v ov iv w Q I ro ri rv q
section
variable {K : PySem.W.Frag} {C : Addr} {δ : List (Addr × HO)} {G H : Hp} {α β : List Addr} {s s' : Sto} {x : A} {v : V}
theorem aik_put {k : Str} {a : A} {u : V} (ha : Ai K G α a u) : ∀ {fs : List (Str × A)} {ws : List (Key × V)}, (fs.map (·.1)).Nodup → AiK K G α fs ws → AiK K G α (putL fs k a) (putK ws (.inr k) u)
  | [], _, _, h => by rw [show _ = [] from h]; exact ⟨u, [], rfl, ha, rfl⟩
  | q :: fs, _, hn, ⟨v, t, h1, h2, h3⟩ => by
    subst h1
    obtain ⟨j, y⟩ := q
    rw [List.map_cons, List.nodup_cons] at hn
    by_cases e : j = k
    · subst e
      -- only the first is turned
      have h4 : ∀ {fs : List (Str × A)} {t : List (Key × V)}, j ∉ fs.map (·.1) → AiK K G α fs t → t.map (fun kv => if kv.1 = Sum.inr j then (kv.1, u) else kv) = t := by
        intro fs
        induction fs with
        | nil => intro t _ h; rw [show t = [] from h]; rfl
        | cons q fs ih =>
          rintro t hj ⟨v', t', e1, _, e3⟩
          subst e1
          rw [List.map_cons, List.mem_cons, not_or] at hj
          rw [List.map_cons, ih hj.2 e3, if_neg (by simpa using fun z => hj.1 z.symm)]
      have e2 : putK ((Sum.inr j, v) :: t) (Sum.inr j) u = (Sum.inr j, u) :: t := by
        unfold putK
        rw [if_pos (by simp), List.map_cons, if_pos rfl, h4 hn.1 h3]
      show AiK K G α (putL ((j, y) :: fs) j a) (putK ((Sum.inr j, v) :: t) (Sum.inr j) u)
      rw [e2]
      unfold putL
      rw [if_pos rfl]
      exact ⟨u, t, rfl, ha, h3⟩
    · have ih := aik_put (k := k) ha hn.2 h3
      have e2 : putK ((Sum.inr j, v) :: t) (Sum.inr k) u = (Sum.inr j, v) :: putK t (Sum.inr k) u := by
        unfold putK
        rw [List.any_cons, decide_eq_false (fun z => e (Sum.inr.inj z)), Bool.false_or]
        split
        · rw [List.map_cons, if_neg (by simpa using e)]
        · rfl
      show AiK K G α (putL ((j, y) :: fs) k a) (putK ((Sum.inr j, v) :: t) (Sum.inr k) u)
      rw [e2]
      unfold putL
      rw [if_neg e]
      exact ⟨v, _, rfl, h2, ih⟩
theorem dpAll_set {d : PyData} {u : V} (hd : Dp K G u d) : ∀ {vs : List V} {ds : List PyData} (j : Nat), DpAll K G vs ds → DpAll K G (vs.set j u) (ds.set j d)
  | _, _, _, .nil => .nil
  | _, _, 0, .cons _ t => .cons hd t
  | _, _, j + 1, .cons h t => .cons h (dpAll_set hd j t)
/-- o[k] = y -/
theorem six_post {k y : A} {uk uy : V} {Q : Hp → Prop} (R : Rl K C δ G H α β s) (dx : Ad K G α β x v) (dk : Ad K G α β k uk) (dy : Ad K G α β y uy) (h : chg s x (sixO k y) = some s') (q : ∀ H2, Rl K C δ G H2 α β s' → Q H2) : rSetL v uk uy H Q ∨ rSetD v uk uy H Q := by
  obtain ⟨p, o, o', rfl, hf, hb, hR⟩ := chg_at R dx h
  cases o with
  | lst ds =>
    simp only [sixO] at hf
    split at hf
    · rename_i i y'
      split at hf
      · rename_i hi
        cases hf
        obtain ⟨vs, h1, h2⟩ := hb
        have hl := DpAll.len h2
        refine .inl ⟨p, vs, i, i.toNat, rfl, ad_int dk, h1, ?_, q _ (hR _ ⟨_, upd_same, dpAll_set dy _ h2⟩)⟩
        unfold ixN
        rw [if_pos hi.1, if_pos (by rw [hl]; exact hi.2)]
      · cases hf
    · cases hf
  | dT kvs =>
    simp only [sixO] at hf
    split at hf
    · rename_i k' y' hk
      split at hf
      · rename_i hl
        cases hf
        obtain ⟨ws, h1, h2⟩ := hb
        obtain ⟨rfl, hi⟩ := keyA_eq hk
        obtain ⟨b, rfl, hb⟩ := key_tr hi (show Dp K G uk (keyD k') from dk)
        have hlen := prd_len h2
        exact .inr ⟨p, _, rfl, DPut.t h1 (R.s _ _ hb) (by rw [hlen, sizeLine_eq]; omega), q _ (hR _ ⟨_, upd_same, prd_put h2 k' dy⟩)⟩
      · cases hf
    · cases hf
  | dK kvs =>
    simp only [sixO] at hf
    split at hf
    · rename_i k'
      split at hf
      · rename_i hl
        cases hf
        obtain ⟨ws, h1, h2⟩ := hb
        have hlen := aik_len h2
        rw [ad_str dk]
        exact .inr ⟨p, _, rfl, DPut.k (k := .inr k') h1 (by rw [hlen, sizeLine_eq]; omega), q _ (hR _ ⟨_, upd_same, aik_put (dy.ai hl.2.1) hl.2.2 h2⟩)⟩
      · cases hf
    · cases hf
  | ins fs => cases hf
end
section
variable {X : Cx} {C : Addr} {W : WX} {T : Tab} {a b c d e f o tg i : Expr} {es : List Expr} {st : Stmt} {sts ss rest : List Stmt} {ca cb cc cd ce : E} {cs : Es} {cz : S} {czs czs2 : Ss} {pos p p' p1 p2 p3 p4 apos cpos q : Pos}
theorem ss_six (h : Hx X) (he : Sx X C W T e ce) (ho : Sx X C W T o ca) (hi : Sx X C W T i cb)
    (ha : ∀ v, assign (.Subscript o i p) X.env v = (do
      let ov ← holding [v] (eval o X.env)
      let iv ← holding [v, ov] (eval i X.env)
      standAt p
      holding [v, ov, iv] (setItem ov iv v)
      release [v, ov, iv] []) := by intro _; rfl)
    (hs : swapsWithSole [.Subscript o i p] e pos.line X.env = pure false := by rfl) (hw : swappedStores [.Subscript o i p] e X.env = pure none := by rfl) (h1 : (assignEach [.Subscript o i p] X.env).map (·.2) = [assign (.Subscript o i p) X.env] := by rfl) : Ss1 X C W T (.Assign [.Subscript o i p] e pos) (.six ca cb ce) := .mk fun δ σ G H α β r s D R n p => by
  rw [exS] at p
  refine wS_of (ps_asg pe_w (pg_sub pe_w pe_w (PSet.or set_list (set_dict (by have := h.hu; omega))) ha) hs hw h1) (he.useS R n p fun y s1 u G1 H1 α1 β1 g1 R1 n1 d1 p1 => ho.useS R1 n1 p1 fun x s2 v G2 H2 α2 β2 g2 R2 n2 d2 p2 => hi.useS R2 n2 p2 fun k s3 w G3 H3 α3 β3 g3 R3 n3 d3 p3 => ?_)
  split at p3
  · rename_i s4 hc
    exact six_post R3 (d2.up g3) d3 ((d1.up g2).up g3) hc fun H4 R4 => p3 σ G3 H4 α3 β3 Gw.refl R4 n3
  · exact p3.elim
/-- d[k] += j -/
theorem ss_aix (h : Hx X) (ho : Sx X C W T o ca) (hi : Sx X C W T i cb) (he : Sx X C W T e ce) (ha : ∀ ov iv new, augStore i ov iv new = (do holding [new, ov, iv] (setItem ov iv new); release [new, ov, iv] []; pure .next) := by intro _ _ _; rfl) : Ss1 X C W T (.AugAssign (.Subscript o i p) .Add e pos) (.aix ca cb ce) := .mk fun δ σ G H α β r s D R n p => by
  rw [exS] at p
  refine wS_of (ps_daug (by have := h.hu; omega) pe_w pe_w pe_w in_add ha) (ho.useS R n p fun x s1 v G1 H1 α1 β1 g1 R1 n1 d1 p1 => hi.useS R1 n1 p1 fun k s2 w G2 H2 α2 β2 g2 R2 n2 d2 p2 => ?_)
  split at p2
  · rename_i kvs kk ex
    split at p2
    · rename_i j hj
      obtain ⟨q, ws, rfl, h1, h2⟩ := rd_dK R2 (d1.up g2) ex
      obtain ⟨w', h3, h4⟩ := aik_get h2 hj
      have := ad_int (h4.ad (β := β2))
      subst this
      refine ⟨q, .int j, rfl, ?_, he.useS R2 n2 p2 fun y s3 u G3 H3 α3 β3 g3 R3 n3 d3 p3 => ?_⟩
      · rw [ad_str d2]
        exact .inl ⟨ws, .inr kk, h1, rfl, h3.symm⟩
      · split at p3
        · rename_i k2
          split at p3
          · rename_i s4 hc
            refine ⟨j, k2, rfl, ad_int d3, ?_⟩
            rcases six_post (uy := .int (j + k2)) (Q := fun H4 => D.nx σ H4) R3 ((d1.up g2).up g3) (d2.up g3) (show Ad X.K G3 α3 β3 (.d (.int (j + k2))) _ from Dp.int _) hc (fun H4 R4 => p3 σ G3 H4 α3 β3 Gw.refl R4 n3) with ⟨p5, xs, k5, j5, e1, e2, _⟩ | ⟨p5, H5, e1, e2, e3⟩
            · rw [ad_str d2] at e2; cases e2
            · cases e1
              exact ⟨H5, e2, e3⟩
          · exact p3.elim
        · exact p3.elim
    · exact p2.elim
  · exact p2.elim
/-- o.f = e -/
theorem ss_sat {f : Str} (hc : Cls X.K C) (hn : NoAttr X.K C f) (he : Sx X C W T e ce) (ho : Sx X C W T o ca) (hs : swapsWith e (some (.Attribute o f p')) pos.line X.env = pure false := by rfl) : Ss1 X C W T (.Assign [.Attribute o f p'] e pos) (.sat ca f ce) := .mk fun δ σ G H α β r s D R n p => by
  rw [exS] at p
  refine wS_of (ps_fld pe_w pe_w hs) (he.useS R n p fun y s1 u G1 H1 α1 β1 g1 R1 n1 d1 p1 => ho.useS R1 n1 p1 fun x s2 v G2 H2 α2 β2 g2 R2 n2 d2 p2 => ?_)
  split at p2
  · rename_i s3 hch
    obtain ⟨q, ob, ob', rfl, hf, hb, hR⟩ := chg_at R2 d2 hch
    cases ob with
    | ins fs =>
      simp only [satO] at hf
      split at hf
      · rename_i hl
        cases hf
        obtain ⟨dx, ws, h1, h2⟩ := hb
        have hlen := aif_len h2
        exact ⟨q, C, dx, ws, rfl, h1, hc, hn, by omega, p2 σ G2 _ α2 β2 Gw.refl (hR _ ⟨dx, _, upd_same, aif_put ((d1.up g2).ai hl.2) h2⟩) n2⟩
      · cases hf
    | lst _ => cases hf
    | dT _ => cases hf
    | dK _ => cases hf
  · exact p2.elim
/-- o.f += e -/
theorem ss_aat {f : Str} (hc : Cls X.K C) (hn : NoAttr X.K C f) (ho : Sx X C W T o ca) (he : Sx X C W T e ce) : Ss1 X C W T (.AugAssign (.Attribute o f p') .Add e pos) (.aat ca f ce) := .mk fun δ σ G H α β r s D R n p => by
  rw [exS] at p
  refine wS_of (ps_fldaug pe_w pe_w in_add) (ho.useS R n p fun x s1 v G1 H1 α1 β1 g1 R1 n1 d1 p1 => ?_)
  split at p1
  · rename_i j hj
    obtain ⟨m, fs, rfl, h1, h2⟩ := attrA_ins hj
    obtain ⟨q, dx, ws, hq, rfl, h3, h4⟩ := ins_at R1 d1 h1
    obtain ⟨w, h5, h6⟩ := aif_get h4 h2
    have := ad_int (h6.ad (β := β1))
    subst this
    refine ⟨q, C, dx, ws, .int j, rfl, h3, hc, hn, h5, he.useS R1 n1 p1 fun y s2 u G2 H2 α2 β2 g2 R2 n2 d2 p2 => ?_⟩
    split at p2
    · rename_i k
      split at p2
      · rename_i s3 hch
        obtain ⟨q', ob, ob', e', hf, hb, hR⟩ := chg_at R2 (Ad.up g2 d1) hch
        cases e'
        cases ob with
        | ins fs2 =>
          simp only [satO] at hf
          split at hf
          · rename_i hl
            cases hf
            obtain ⟨dx2, ws2, h7, h8⟩ := hb
            have hlen := aif_len h8
            exact ⟨j, k, rfl, ad_int d2, dx2, ws2, h7, by omega, p2 σ G2 _ α2 β2 Gw.refl (hR _ ⟨dx2, _, upd_same, aif_put (show Ai X.K G2 α2 (.d (.int (j + k))) _ from Dp.int _) h8⟩) n2⟩
          · cases hf
        | lst _ => cases hf
        | dT _ => cases hf
        | dK _ => cases hf
      · exact p2.elim
    · exact p2.elim
  · exact p1.elim
/-- o.append(e) -/
theorem ss_app (ho : Sx X C W T o ca) (he : Sx X C W T e ce)
    (hbase : attributeBase o "append" X.env (eval o X.env) = eval o X.env := by rfl)
    (hfew : ((backTo cpos (starEach [e] X.env)).all (fun x => !x.1) && (backToKw cpos (keywordEach [] X.env)).all (fun x => x.1.isSome) && decide ([e].length + ([] : List Keyword).length + (if ([] : List Keyword).isEmpty then 0 else 1) < 30)) = true := by rfl)
    (hline : (apos.endLine == cpos.line) = true := by rfl) (hs : starEach [e] X.env = (false, eval e X.env) :: starEach [] X.env := by rfl) (hplain : (backTo cpos (starEach [] X.env)).any (·.1) = false := by rfl)
    (hsw : swapsWith (.Call (.Attribute o "append" apos) [e] [] cpos) none pos.line X.env = pure false := by rfl) : Ss1 X C W T (.Expr (.Call (.Attribute o "append" apos) [e] [] cpos) pos) (.app ca ce) := .mk fun δ σ G H α β r s D R n p => by
  rw [exS] at p
  refine wS_of (ps_expr (pe_bm PySem.F.plainAttrs_list PySem.F.slot_list_append PySem.F.type_list_append mt_append pe_w (L2.pa_cons pe_w L2.pa_nil hs) hbase hfew hline hs hplain) hsw) (ho.useS R n p fun x s1 v G1 H1 α1 β1 g1 R1 n1 d1 p1 => ?_)
  split at p1
  · rename_i ds0 e0
    obtain ⟨q, vs, rfl, h1, h2⟩ := rd_list R1 d1 e0
    refine ⟨.inl ⟨rfl, _, .inl h1⟩, he.useS R1 n1 p1 fun y s2 u G2 H2 α2 β2 g2 R2 n2 d2 p2 => ?_⟩
    split at p2
    · rename_i s3 hch
      obtain ⟨q', ob, ob', e', hf, hb, hR⟩ := chg_at R2 (Ad.up g2 d1) hch
      cases e'
      cases ob with
      | lst ds =>
        simp only [appO] at hf
        split at hf
        · rename_i z
          split at hf
          · rename_i hl
            cases hf
            obtain ⟨vs2, h3, h4⟩ := hb
            have hlen := DpAll.len h4
            exact ⟨q, vs2, u, rfl, rfl, h3, by rw [hlen, sizeLine_eq]; omega, p2 σ G2 _ α2 β2 Gw.refl (hR _ ⟨_, upd_same, DpAll.app h4 (.cons d2 .nil)⟩) n2⟩
          · cases hf
        · cases hf
      | ins _ => cases hf
      | dT _ => cases hf
      | dK _ => cases hf
    · exact p2.elim
  · exact p1.elim
/-! #### loops -/
theorem ss_for {iter : Expr} {ct : Tg} {ci : I} (hp : PassesOwn (model X.prog X.w) X.A X.env X.xe) (hc : X.calm = true) (hi : Si X C W T tg iter ci) (hg : Sg X tg ct) (hb : Sz X C W T ss czs) (hfs : ∀ v, foldedSetIterable iter X.env v = pure v := by intro _; rfl) : Ss1 X C W T (.For tg iter ss [] pos) (.for_ ct ci czs) := by
  obtain ⟨wi, hpi, hwi⟩ := hi
  refine .mk fun δ σ G H α β r s D R n p => ?_
  rw [exS] at p
  refine wS_of (ps_for hp hc hpi pg_w pss_w hfs) (hwi δ σ G H α β r s _ R n ?_)
  cases me : evI T ci r s with
  | ok xw s1 =>
    rw [me] at p
    have p1 : PostS X.K C δ X.mg W D G α β (if xw.2.all (fun a => stays a s1 s1) = true then forGo ct xw.2 (exSs T czs) s1 xw.1 r s1 else .no) := p
    split at p1
    · rename_i hw
      intro J G1 H1 α1 β1 g1 R1 wk
      let Iv : Nat → L2.St → Hp → Prop := fun i σ2 H2 => i ≤ xw.1.length ∧ ∃ G2 α2 β2 r2 s2, Gw G1 α1 β1 G2 α2 β2 ∧ Rl X.K C δ G2 H2 α2 β2 s2 ∧ Em X.K G2 α2 β2 σ2 r2 ∧ xw.2.all (fun a => stays a s1 s2) = true ∧ PostS X.K C δ X.mg W D G2 α2 β2 (forGo ct xw.2 (exSs T czs) s1 (xw.1.drop i) r2 s2)
      refine ⟨fun i m σ2 H2 => m = xw.1.length - i ∧ Iv i σ2 H2, ⟨xw.1.length, by simp, Nat.zero_le _, G1, α1, β1, r, s1, Gw.refl, R1, n.up g1, hw, PostS.up p1 g1⟩, ?_⟩
      rintro i m σ2 H2 ⟨rfl, hi2, G2, α2, β2, r2, s2, g2, R2, n2, st2, p2⟩
      by_cases hlt : i < xw.1.length
      · obtain ⟨x, hx⟩ : ∃ x, xw.1[i]? = some x := ⟨xw.1[i], List.getElem?_eq_getElem hlt⟩
        have hdr : xw.1.drop i = x :: xw.1.drop (i + 1) := by
          rw [List.drop_eq_getElem_cons hlt]
          congr 1
          rw [List.getElem?_eq_getElem hlt] at hx
          exact Option.some.inj hx
        refine .inr ⟨wk.go i _ G2 H2 α2 β2 s2 g2 R2 st2 hlt, Iv (i + 1), fun σ' H' q => ⟨xw.1.length - (i + 1), by omega, rfl, q⟩, fun v H3 yl => ?_⟩
        obtain ⟨G3, k3, q3⟩ := wk.yl i _ G2 H2 α2 β2 s2 v H3 g2 R2 st2 yl x hx
        have R3 := R2.gr k3
        have g3 : Gw G2 α2 β2 G3 α2 β2 := Gw.of k3.g
        have n3 := n2.up g3
        rw [hdr, forGo] at p2
        split at p2
        · exact p2.elim
        · rename_i r3 hr3
          refine wG_imp (hg.run σ2 G3 H3 α2 β2 r2 r3 x v n3 q3 R3.s hr3) fun σ4 H4 ⟨e4, n4, _⟩ => ?_
          subst e4
          refine hb.run δ σ4 G3 H4 α2 β2 r3 s2 _ R3 n4 ?_
          cases mb : exSs T czs r3 s2 with
          | nx r5 s5 =>
            rw [mb] at p2
            intro σ5 G5 H5 α5 β5 g5 R5 n5
            have p3 : PostS X.K C δ X.mg W D G2 α2 β2 (if xw.2.all (fun a => stays a s1 s5) then forGo ct xw.2 (exSs T czs) s1 (xw.1.drop (i + 1)) r5 s5 else .no) := p2
            split at p3
            · rename_i hw5
              exact ⟨hlt, G5, α5, β5, r5, s5, (g2.trans g3).trans g5, R5, n5, hw5, PostS.up p3 (g3.trans g5)⟩
            · exact p3.elim
          | rt a5 s5 => rw [mb] at p2; exact fun v G5 H5 α5 β5 g5 => p2 v G5 H5 α5 β5 (g3.trans g5)
          | er c5 r5 s5 => rw [mb] at p2; exact fun σ5 G5 H5 α5 β5 g5 => p2 σ5 G5 H5 α5 β5 (g3.trans g5)
          | no => rw [mb] at p2; exact p2
      · have hi3 : i = xw.1.length := by omega
        subst hi3
        rw [List.drop_length] at p2
        exact .inl ⟨wk.st _ _ G2 H2 α2 β2 s2 g2 R2 st2 (Nat.le_refl _), p2 σ2 G2 H2 α2 β2 Gw.refl R2 n2⟩
    · exact p1.elim
  | er c s1 => rw [me] at p; exact fun G2 H2 α2 β2 g R2 B hB => p σ G2 H2 α2 β2 g R2 (n.up g) B hB
  | no => rw [me] at p; exact p
theorem ss_whl {k : Nat} (hp : PassesOwn (model X.prog X.w) X.A X.env X.xe) (hc : Sb X C W T c cc) (hb : Sz X C W T ss czs) : Ss1 X C W T (.While c ss [] pos) (.whl k cc czs) := .mk fun δ σ G H α β r s D R n p => by
  rw [exS] at p
  have e : ∀ k r s, whlGo (ev T cc) (exSs T czs) (k + 1) r s = (evT T cc r s).out r fun q s => if q = true then (exSs T czs r s).then fun r s => whlGo (ev T cc) (exSs T czs) k r s else .nx r s := by
    intro k r s
    unfold evT
    rw [whlGo]
    cases ev T cc r s with
    | ok x s' =>
      show (match truA s' x with
        | none => Out.no
        | some false => .nx r s'
        | some true => (exSs T czs r s').then fun r s => whlGo (ev T cc) (exSs T czs) k r s) = (Res.of (truA s' x) s').out r _
      cases truA s' x with
      | none => rfl
      | some q => cases q <;> rfl
    | er c s' => rfl
    | no => rfl
  refine wS_of (ps_while hp pt_w pss_w) ⟨fun m σ2 H2 => ∃ G2 α2 β2 r2 s2, Gw G α β G2 α2 β2 ∧ Rl X.K C δ G2 H2 α2 β2 s2 ∧ Em X.K G2 α2 β2 σ2 r2 ∧ PostS X.K C δ X.mg W D G2 α2 β2 (whlGo (ev T cc) (exSs T czs) m r2 s2), ⟨k, G, α, β, r, s, Gw.refl, R, n, p⟩, ?_⟩
  rintro m σ2 H2 ⟨G2, α2, β2, r2, s2, g2, R2, n2, p2⟩
  cases m with
  | zero => exact p2.elim
  | succ m =>
    rw [e] at p2
    refine hc.useS R2 n2 p2 fun q s3 G3 H3 α3 β3 g3 R3 n3 p3 => ?_
    cases q with
    | false => exact p3 σ2 G3 H3 α3 β3 Gw.refl R3 n3
    | true =>
      refine ⟨fun σ' H' => ∃ G2 α2 β2 r2 s2, Gw G α β G2 α2 β2 ∧ Rl X.K C δ G2 H' α2 β2 s2 ∧ Em X.K G2 α2 β2 σ' r2 ∧ PostS X.K C δ X.mg W D G2 α2 β2 (whlGo (ev T cc) (exSs T czs) m r2 s2), fun σ' H' h => ⟨m, Nat.lt_succ_self m, h⟩, hb.run δ σ2 G3 H3 α3 β3 r2 s3 _ R3 n3 ?_⟩
      have p4 : PostS X.K C δ X.mg W D G3 α3 β3 ((exSs T czs r2 s3).then fun r s => whlGo (ev T cc) (exSs T czs) m r s) := p3
      cases mb : exSs T czs r2 s3 with
      | nx r5 s5 =>
        rw [mb] at p4
        exact fun σ5 G5 H5 α5 β5 g5 R5 n5 => ⟨G5, α5, β5, r5, s5, (g2.trans g3).trans g5, R5, n5, PostS.up p4 g5⟩
      | rt a5 s5 => rw [mb] at p4; exact p4
      | er c5 r5 s5 => rw [mb] at p4; exact p4
      | no => rw [mb] at p4; exact p4
end
end Fb

/-! Rk: try; defs. -/
namespace Fb
open PySem PySem.Spec PyProof.Rows L2 Evl
section
variable {X : Cx} {C : Addr} {W : WX} {T : Tab} {ss rest : List Stmt} {czs : Ss} {pos : Pos}
def Sh (X : Cx) (C : Addr) (W : WX) (T : Tab) (hds : List ExceptHandler) (hs : Hs) : Prop := ∃ l, HdsOk X hds l ∧ ∀ δ σ G H α β r s D c B, c ∈ errN → X.mg c = some (.ref B) → Rl X.K C δ G H α β s → Em X.K G α β σ r → PostS X.K C δ X.mg W D G α β (exHs T hs c r s) → wMany X.K W D l (.ref B) none σ H
theorem sh_nil : Sh X C W T [] .nil := ⟨[], .nil, fun δ σ G H α β r s D c B hc hB R n p => p σ G H α β Gw.refl R n B hB⟩
theorem sh_cons {x : Str} {v : Value} {b₀ : Stmt} {suite : List Stmt} {np pos' : Pos} {hds : List ExceptHandler} {hs : Hs} (hn : Names X x v) (hx : ∀ c B, c ∈ errN → X.mg c = some (.ref B) → PySem.W.exmOne X.K (.ref B) v = some (isSub c x))
    (hb : ∀ a pn, Sz (X.suite a pn) C W0 T (b₀ :: suite) czs) (hr : Sh X C W T hds hs) : Sh X C W T (.ExceptHandler (some (.Name x np)) none (b₀ :: suite) pos' :: hds) (.cons x czs hs) := by
  obtain ⟨l, h1, h2⟩ := hr
  refine ⟨_, hd_cons hn h1, fun δ σ G H α β r s D c B hc hB R n p => ⟨isSub c x, hx c B hc hB, fun hb' a ha oe pn z => ?_, fun hb' => ?_⟩⟩
  · rw [exHs, if_pos hb'] at p
    refine (hb a ((a, oe) :: pn)).run δ σ G H α β r s D R n ?_
    cases m : exSs T czs r s with
    | nx r' s' => rw [m] at p; exact p
    | rt a' s' => rw [m] at p; exact p
    | er c' r' s' => rw [m] at p; exact p.elim
    | no => rw [m] at p; exact p
  · rw [exHs, if_neg (by rw [hb']; decide)] at p
    exact h2 δ σ G H α β r s D c B hc hB R n p
theorem ss_try {body : List Stmt} {h₀ : ExceptHandler} {hds : List ExceptHandler} {hs : Hs} (tk : Takes X W) (hb : ∀ pn xe W', Takes (X.tr pn xe) W' → Sz (X.tr pn xe) C W' T body czs) (hh : Sh X C W T (h₀ :: hds) hs)
    (hst : X.stack = X.env :: X.outer := by rfl) (hf : X.env.frame = some X.env.locals := by rfl) : Ss1 X C W T (.Try body (h₀ :: hds) [] [] pos) (.try_ czs hs) := .mk fun δ σ G H α β r s D R n p => by
  rw [exS] at p
  obtain ⟨l, h1, h2⟩ := hh
  refine wS_of (ps_try_many (tb := fun W D σ H => ∀ pn xe, Takes (X.tr pn xe) W → wSs (X.tr pn xe) body D σ H) hst hf tk (fun W pn xe t _ => ⟨fun pins s σ H D I h => h pn xe t pins s I⟩) h1) fun pn xe t => (hb pn xe _ t).run δ σ G H α β r s D R n ?_
  cases m : exSs T czs r s with
  | nx r' s' => rw [m] at p; exact p
  | rt a' s' => rw [m] at p; exact p
  | no => rw [m] at p; exact p
  | er c r' s' =>
    rw [m] at p
    have p' : PostS X.K C δ X.mg W D G α β (if c ∈ errN then exHs T hs c r' s' else .no) := p
    split at p'
    · rename_i hc
      exact fun σ2 G2 H2 α2 β2 g2 R2 n2 B hB => h2 δ σ2 G2 H2 α2 β2 r' s' D c B hc hB R2 n2 (PostS.up p' g2)
    · exact p'.elim
end
/-! ### defs -/
section
variable {K : PySem.W.Frag} {C : Addr} {δ : List (Addr × HO)} {G H : Hp} {α β m : List Addr} {s : Sto}
theorem Rl.cut (R : Rl K C δ G H α (β ++ m) s) : Rl K C δ G H α β (s.cut β.length) := by
  have nd := R.nd
  rw [← List.append_assoc, List.nodup_append] at nd
  have hlb := R.lb
  rw [List.length_append] at hlb
  refine ⟨R.s, nd.1, R.la, ?_, fun a ha => R.no a ?_, R.P, fun n o h => ?_, fun q hq => ?_, R.dn⟩
  · show β.length = (s.S.take β.length).length
    rw [List.length_take]
    omega
  · rw [← List.append_assoc]
    exact List.mem_append_left _ ha
  · have h : (s.S.take β.length)[n]? = some o := h
    rw [List.getElem?_take] at h
    split at h
    · rename_i hn
      obtain ⟨a, h1, h2⟩ := R.S n o h
      rw [List.getElem?_append_left hn] at h1
      exact ⟨a, h1, h2⟩
    · cases h
  · obtain ⟨h1, h2, h3, h4⟩ := R.fr q hq
    exact ⟨h1, h2, fun z => h3 (by rw [← List.append_assoc]; exact List.mem_append_left _ z), h4⟩
theorem Rl.give2 {p : Addr} {o : HO} (R : Rl K C δ G H α β s) (hp : H p = some o) (hg : G p = none) (hn : p ∉ α ++ β) (hd : p ∉ δ.map (·.1)) : Rl K C δ (upd G p o) H α β s := by
  refine ⟨fun a u h => ?_, R.nd, R.la, R.lb, fun a ha => ?_, fun n o h => ?_, fun n o h => ?_, fun q hq => ?_, R.dn⟩
  · by_cases z : a = p
    · subst z; rw [upd_same] at h; rw [hp]; exact h
    · rw [upd_ne z] at h; exact R.s a u h
  · rw [upd_ne fun z => hn (by rw [← z]; exact ha)]
    exact R.no a ha
  · obtain ⟨a, h1, h2⟩ := R.P n o h
    exact ⟨a, h1, h2.gup (Ex.new hg)⟩
  · obtain ⟨a, h1, h2⟩ := R.S n o h
    exact ⟨a, h1, h2.gup (Ex.new hg)⟩
  · obtain ⟨h1, h2, h3, h4⟩ := R.fr q hq
    exact ⟨h1, by rw [upd_ne (show q.1 ≠ p from fun z => hd (List.mem_map.mpr ⟨q, hq, z⟩))]; exact h2, h3, h4⟩
/-- what a def gives back -/
theorem back_ad {a a' : A} {v : V} (R : Rl K C δ G H α (β ++ m) s) (d : Ad K G α (β ++ m) a v) (h : back β.length s a = some a') : ∃ G2, Ex G G2 ∧ Rl K C δ G2 H α β (s.cut β.length) ∧ Ad K G2 α β a' v := by
  have R2 := R.cut
  cases a with
  | loc n =>
    simp only [back] at h
    split at h
    · rename_i hn
      cases h
      obtain ⟨p, h1, h2⟩ := d
      rw [List.getElem?_append_left hn] at h1
      exact ⟨G, Ex.refl G, R2, p, h1, h2⟩
    · rename_i hn
      obtain ⟨p, h1, rfl⟩ := d
      have nd := R.nd
      rw [← List.append_assoc, List.nodup_append] at nd
      have hmem : p ∈ m := by
        rw [List.getElem?_append_right (by omega)] at h1
        exact List.mem_of_getElem? h1
      have hnot : p ∉ α ++ β := fun z => nd.2.2 p z p hmem rfl
      have hpin : p ∈ α ++ (β ++ m) := List.mem_append_right _ (List.mem_append_right _ hmem)
      have hg := R.no p hpin
      have hdn : p ∉ δ.map (·.1) := fun z => by
        obtain ⟨q, hq, e⟩ := List.mem_map.mp z
        exact (R.fr q hq).2.2.1 (by rw [e]; exact hpin)
      cases ho : s.S[n]? with
      | none => rw [ho] at h; cases h
      | some ob =>
        rw [ho] at h
        obtain ⟨p', h3, h4⟩ := R.S n ob ho
        rw [h1] at h3
        cases h3
        cases ob with
        | lst ds =>
          cases h
          obtain ⟨vs, h5, h6⟩ := h4
          exact ⟨_, Ex.new hg, R2.give2 h5 hg hnot hdn, Dp.lst (.inl upd_same) (dpAll_up (Ex.new hg) _ _ h6)⟩
        | dT kvs =>
          cases h
          obtain ⟨ws, h5, h6⟩ := h4
          exact ⟨_, Ex.new hg, R2.give2 h5 hg hnot hdn, p, ws, rfl, .inl upd_same, prd_up (Ex.new hg) h6⟩
        | dK kvs =>
          cases h
          obtain ⟨ws, h5, h6⟩ := h4
          exact ⟨_, Ex.new hg, R2.give2 h5 hg hnot hdn, p, ws, rfl, .inl upd_same, h6.ex (Ex.new hg)⟩
        | ins fs => cases h
  | _ => cases h; exact ⟨G, Ex.refl G, R2, d⟩
end
section
variable {P : Program} {w : World} {K : PySem.W.Frag} {mg : Str → Option Value} {base : Heap} {C : Addr}
/-- a def computes what the evaluator does -/
theorem okF {x qual : Str} {st : Stmt} {f : Addr} {fd : FuncData} {N ps : List Str} {k : Nat} {T : Tab} {F0 : Fn} (F : Fun K x qual st f fd) (S : FnScope N ps (defScope st)) (hN : N.length = F0.nl) (hP : ps.length = F0.np)
    (body : ∀ (cdv : Value) (A : Around) (outer : List Env) (s : Shared) (H : Hp) (E : XK), Room k (A.deeper (envOfC qual (defScope st) s.heap.objs.size f cdv)) →
      Sz (cxOf (L2.CX P w) P w K mg base N qual (defScope st) f cdv A outer s H E) C (fun cls d _ H2 => E cls d H2) T (defBody st) F0.body) : FnOk P w K mg base (L2.CX P w) (k + 1) f fd ps (spT K C mg (runF T F0)) := by
  have hlen : ∀ {δ : List (Addr × HO)} {G : Hp} {α β : List Addr} {as : List A} {s : Sto} {W : WX} {σ : L2.St} {Q : VK}, Post K C δ mg W σ (Qv K Q) G α β (runF T F0 as s) → as.length = F0.np ∧ Post K C δ mg W σ (Qv K Q) G α β (fin s.S.length (exSs T F0.body (as.map some ++ List.replicate (F0.nl - F0.np) none) s)) := fun {δ G α β as s W σ Q} p => by
    unfold runF at p
    split at p
    · rename_i h; exact ⟨h, p⟩
    · exact p.elim
  refine F.okX S ?_ (fun cdv A outer s H vs Q E hr h => ⟨_, pss_w, ?_⟩)
  · rintro vs H Q E ⟨δ, G, α, β, as, s, R, d, p⟩
    rw [AdL.len d, (hlen p).1, hP]
  · obtain ⟨δ, G, α, β, as, st0, R, d, p⟩ := h
    obtain ⟨hl, p⟩ := hlen p
    have n0 := Em.start (N := N) d
    rw [hN, hl] at n0
    refine (body cdv A outer s H E hr).run δ _ G H α β _ st0 _ R n0 ?_
    have hb : β.length = st0.S.length := R.lb
    rw [← hb] at p
    show PostS K C δ mg _ _ G α β _
    cases mm : exSs T F0.body (as.map some ++ List.replicate (F0.nl - F0.np) none) st0 with
    | nx r' s' =>
      rw [mm] at p
      intro σ2 G2 H2 α2 β2 g2 R2 n2
      obtain ⟨g, ga, m, rfl⟩ := g2
      exact p G2 H2 α2 β ⟨g, ga, ⟨[], by simp⟩⟩ R2.cut .non Dp.non
    | rt a s' =>
      rw [mm] at p
      intro v G2 H2 α2 β2 g2 R2 d2
      obtain ⟨g, ga, m, rfl⟩ := g2
      have p' : Post K C δ mg (fun cls d _ H2 => E cls d H2) [] (Qv K Q) G α β (match back β.length s' a with
        | some a => .ok a (s'.cut β.length)
        | none => .no) := p
      cases hbk : back β.length s' a with
      | none => rw [hbk] at p'; exact p'.elim
      | some a' =>
        rw [hbk] at p'
        obtain ⟨G3, e3, R3, d3⟩ := back_ad R2 d2 hbk
        exact p' G3 H2 α2 β ⟨g.trans e3, ga, ⟨[], by simp⟩⟩ R3 v d3
    | er c r' s' =>
      rw [mm] at p
      intro σ2 G2 H2 α2 β2 g2 R2 n2 B hB
      obtain ⟨g, ga, m, rfl⟩ := g2
      exact p G2 H2 α2 β ⟨g, ga, ⟨[], by simp⟩⟩ R2.cut B hB
    | no => rw [mm] at p; exact p.elim
/-- nothing is promised -/
theorem okNo {f : Addr} {fd : FuncData} {ps : List Str} {k : Nat} : FnOk P w K mg base (L2.CX P w) k f fd ps (spT K C mg fun _ _ => .no) := ⟨fun vs H Q E ⟨_, _, _, _, _, _, _, _, p⟩ => p.elim, fun A outer s H args us vs Q E hr he hb hv ⟨_, _, _, _, _, _, _, _, p⟩ => p.elim⟩
end
/-- the law's promise -/
theorem sp_law {K : PySem.W.Frag} {C : Addr} {mg : Str → Option Value} {f : List A → Sto → Res A} {H : Hp} {a : Addr} {ns : List Int} (h : ∃ s, f [.sc ns] ⟨[], []⟩ = .ok (.d (.bool true)) s) (hS : SqL K H a (ns.map V.int)) : spT K C mg f [.ref a] H (fun v _ => v = .bl true) fun _ _ _ => False := by
  obtain ⟨s, h⟩ := h
  refine ⟨[], H, [], [], [.sc ns], ⟨[], []⟩, ⟨Ex.refl H, by simp, rfl, rfl, fun a ha => by simp at ha, fun n o h => by simp at h, fun n o h => by simp at h, fun q hq => by simp at hq, by simp⟩, ⟨_, [], rfl, ⟨a, rfl, hS⟩, rfl⟩, ?_⟩
  rw [h]
  exact fun G2 H2 α2 β2 g R v hv => ad_bool hv
end Fb

/-! Rl2: lists repeated, joined to be owned; constants of the module. -/
namespace Fb
open PySem PySem.Spec PyProof.Rows L2 Evl
section
variable {X : Cx} {C : Addr} {W : WX} {T : Tab} {a b c d e f o tg i : Expr} {es : List Expr} {ca cb cc cd ce : E} {cs : Es} {pos p p2 : Pos}
theorem adl_app {K : PySem.W.Frag} {G : Hp} {α β : List Addr} : ∀ {xs ys : List A} {vs us : List V}, AdL K G α β xs vs → AdL K G α β ys us → AdL K G α β (xs ++ ys) (vs ++ us)
  | [], _, vs, _, h, k => by rw [show vs = [] from h]; exact k
  | x :: xs, _, _, _, ⟨v, t, h1, h2, h3⟩, k => by subst h1; exact ⟨v, t ++ _, rfl, h2, adl_app h3 k⟩
theorem adl_rep {K : PySem.W.Frag} {G : Hp} {α β : List Addr} {xs : List A} {vs : List V} (h : AdL K G α β xs vs) : ∀ n : Nat, AdL K G α β (List.replicate n xs).flatten (List.replicate n vs).flatten
  | 0 => rfl
  | n + 1 => by
    rw [List.replicate_succ, List.replicate_succ, List.flatten_cons, List.flatten_cons]
    exact adl_app h (adl_rep h n)
def esLen : Es → Nat
  | .nil => 0
  | .cons _ es => esLen es + 1
theorem evs_len : ∀ {cs : Es} {r : Rh} {s : Sto} {xs : List A} {s' : Sto}, evs T cs r s = .ok xs s' → xs.length = esLen cs
  | .nil, r, s, xs, s', h => by rw [evs] at h; cases h; rfl
  | .cons e es, r, s, xs, s', h => by
    rw [evs] at h
    cases h1 : ev T e r s with
    | no => rw [h1] at h; cases h
    | er c s1 => rw [h1] at h; cases h
    | ok y s1 =>
      rw [h1] at h
      have h : (evs T es r s1).bind (fun xs s => .ok (y :: xs) s) = .ok xs s' := h
      cases h2 : evs T es r s1 with
      | no => rw [h2] at h; cases h
      | er c s2 => rw [h2] at h; cases h
      | ok ys s2 =>
        rw [h2] at h
        cases h
        rw [List.length_cons, evs_len h2]
        rfl
/-- [..] * k -/
theorem sx_rep {m : Nat} (ha : Sa X C W T es cs) (hb : Sx X C W T b cb) (hl : esLen cs ≤ 1000 := by decide) : Sx X C W T (.BinOp (.List es p2) .Mult b pos) (.rep m cs cb) := .mk fun δ σ G H α β r s Q R n p => by
  rw [ev] at p
  refine wE_of (pe_op op_rep (pe_lst pa_w) pe_w) ?_
  show wA X es σ H _
  refine ha.run δ σ G H α β r s _ R n ?_
  cases me : evs T cs r s with
  | er c s1 => rw [me] at p; exact p
  | no => rw [me] at p; exact p
  | ok xs s1 =>
    rw [me] at p
    have p0 : Post X.K C δ X.mg W σ (Qv X.K Q) G α β ((ev T cb r s1).bind fun y s => match y with
      | .d (.int k) => if -(2 ^ 63) ≤ k ∧ k < 2 ^ 63 ∧ xs.length * k.toNat ≤ 100000 then newL m (List.replicate k.toNat xs).flatten s else .no
      | _ => .no) := p
    intro G1 H1 α1 β1 g1 R1 vs d1
    have hlen := AdL.len d1
    have hxl := evs_len me
    refine ⟨sz_of (by omega), fun q hq => ?_⟩
    have n1 := n.up g1
    refine hb.run ((q, .lst vs) :: δ) σ G1 _ α1 β1 r s1 _ (R1.lay hq) n1 ?_
    have p1 := Post.up p0 g1
    cases mb : ev T cb r s1 with
    | er c s2 => rw [mb] at p1; exact fun G2 H2 α2 β2 g2 R2 => p1 G2 H2 α2 β2 g2 R2.drop
    | no => rw [mb] at p1; exact p1
    | ok y s2 =>
      rw [mb] at p1
      intro G2 H2 α2 β2 g2 R2 u du
      simp only [Res.bind] at p1
      split at p1
      · rename_i k
        split at p1
        · rename_i hk
          refine ⟨q, k, vs, rfl, ad_int du, (R2.fr _ List.mem_cons_self).1, hk.1, hk.2.1, sz_of (by rw [hlen]; exact hk.2.2), fun l hl2 => ?_⟩
          exact newL_post (R2.drop.lay hl2) (adl_rep (d1.up g2) _) (Post.up p1 g2)
        · exact p1.elim
      · exact p1.elim
/-- xs + ys, to be owned -/
theorem sx_cat {m : Nat} (ha : Sx X C W T a ca) (hb : Sx X C W T b cb) : Sx X C W T (.BinOp a .Add b pos) (.cat m ca cb) := .mk fun δ σ G H α β r s Q R n p => by
  rw [ev] at p
  refine wE_of (pe_op op_catR pe_w pe_w) (ha.use R n p fun x s1 v G1 H1 α1 β1 g1 R1 n1 d1 p1 => hb.use R1 n1 p1 fun y s2 u G2 H2 α2 β2 g2 R2 n2 d2 p2 => ?_)
  split at p2
  · rename_i xs ys e1 e2
    split at p2
    · rename_i hl
      obtain ⟨q1, vs, rfl, h1, h2⟩ := rd_list R2 (d1.up g2) e1
      obtain ⟨q2, us, rfl, h3, h4⟩ := rd_list R2 d2 e2
      have l1 := DpAll.len h2
      have l2 := DpAll.len h4
      exact ⟨q1, q2, vs, us, rfl, rfl, h1, h3, sz_of (by omega), fun l hl2 => newL_post (R2.lay hl2) (adl_of (DpAll.app h2 h4)) p2⟩
    · exact p2.elim
  · exact p2.elim
/-! ### constants of the module -/
theorem sx_gint {x : Str} {k : Int} (h : (∃ t, X.mg x = some (.int k t)) ∧ T.gl x = some (.d (.int k))) (hg : Gl X x := by rfl) (hdb : (x == ("__debug__" : Str)) = false := by decide) : Sx X C W T (.Name x pos) (.glob x) := by
  obtain ⟨⟨t, hm⟩, hT⟩ := h
  exact sx_glob (v := .int k) hm ⟨t, rfl⟩ (fun _ => Dp.int k) hT hg hdb
theorem sx_gstr {x k : Str} (h : (∃ t, X.mg x = some (.str k t)) ∧ T.gl x = some (.d (.str k))) (hg : Gl X x := by rfl) (hdb : (x == ("__debug__" : Str)) = false := by decide) : Sx X C W T (.Name x pos) (.glob x) := by
  obtain ⟨⟨t, hm⟩, hT⟩ := h
  exact sx_glob (v := .str k) hm ⟨t, rfl⟩ (fun _ => Dp.str k) hT hg hdb
theorem sx_gtup {x : Str} {y : PyData} (h : (∃ q, X.mg x = some (.ref q) ∧ ∀ H, Dp X.K H (.ref q) y) ∧ T.gl x = some (.d y)) (hg : Gl X x := by rfl) (hdb : (x == ("__debug__" : Str)) = false := by decide) : Sx X C W T (.Name x pos) (.glob x) := by
  obtain ⟨⟨q, hm, hd⟩, hT⟩ := h
  exact sx_glob (v := .ref q) hm rfl hd hT hg hdb
theorem sx_gkget {x : Str} (h : ∃ q, X.mg x = some (.ref q) ∧ Kd X.K X.w q (T.kd x)) {apos cpos : Pos} (ha : Sx X C W T e ca) (hb : Sx X C W T f cb) (m : M2 X (.Name x p) "get" apos e f cpos) (hg : Gl X x := by rfl) (hdb : (x == ("__debug__" : Str)) = false := by decide) :
    Sx X C W T (.Call (.Attribute (.Name x p) "get" apos) [e, f] [] cpos) (.kget x ca cb) := by
  obtain ⟨q, hm, hd⟩ := h
  exact sx_kget hd hm ha hb m hg hdb
theorem ss_raiseE {x m : Str} {j : Nat} {p3 p4 : Pos} (E : ∃ B, Ec X.K X.mg x B) (tk : Takes X W) (hc : X.calm = true := by rfl) (hg : Gl X x := by rfl) (hdb : (x == ("__debug__" : Str)) = false := by decide) :
    Ss1 X C W T (.Raise (some (.Call (.Name x p) [.Constant (.str m) j p2] [] p3)) none p4) (.raise x) := by
  obtain ⟨B, E⟩ := E
  exact ss_raise E tk hc hg hdb
theorem sx_makeE {x : Str} {j : Nat} (F : ∃ k, k + 1 ≤ j ∧ Fk X.prog X.w X.K X.mg X.base k C x (spT X.K C X.mg T.mak)) (hr : Room j X.A) (tk : Takes X W) (ha : Sa X C W T (e :: es) cs) (hg : Gl X x := by rfl)
    (hdb : (x == ("__debug__" : Str)) = false := by decide) (he : starEach (e :: es) X.env = (false, eval e X.env) :: starEach es X.env := by rfl) (hpl : (backTo pos (starEach es X.env)).any (·.1) = false := by rfl) :
    Sx X C W T (.Call (.Name x p) (e :: es) [] pos) (.make cs) := by
  obtain ⟨k, hk, F⟩ := F
  exact sx_make F hr tk ha hk hg hdb he hpl
theorem sh_consE {x : Str} {b₀ : Stmt} {suite : List Stmt} {np pos' : Pos} {hds : List ExceptHandler} {hs : Hs} {czs : Ss} (hn : ∃ B0, X.mg x = some (.ref B0) ∧ ∀ c B, c ∈ errN → X.mg c = some (.ref B) → PySem.W.exmOne X.K (.ref B) (.ref B0) = some (isSub c x))
    (hb : ∀ a pn, Sz (X.suite a pn) C W0 T (b₀ :: suite) czs) (hr : Sh X C W T hds hs) (hg : Gl X x := by rfl) (hd : (x == ("__debug__" : Str)) = false := by decide) : Sh X C W T (.ExceptHandler (some (.Name x np)) none (b₀ :: suite) pos' :: hds) (.cons x czs hs) := by
  obtain ⟨B0, h1, h2⟩ := hn
  exact sh_cons ⟨hg, hd, .inl h1⟩ h2 hb hr
/-! ### assignments: what is not swapped -/
section
variable {t : Option Expr} {l : Nat} {env : Env} {k : Nat}
theorem sw_List {es : List Expr} : swapsWith (.List es pos) t l env = pure false := rfl
theorem sw_Tuple {es : List Expr} : swapsWith (.Tuple es k pos) t l env = pure false := rfl
theorem sw_Dict {ks : List (Option Expr)} {es : List Expr} : swapsWith (.Dict ks es pos) t l env = pure false := rfl
theorem sw_Call {es : List Expr} {kw : List Keyword} : swapsWith (.Call a es kw pos) t l env = pure false := rfl
theorem sw_BinOp {op : Operator} : swapsWith (.BinOp a op b pos) t l env = pure false := rfl
theorem sw_Name {x : Str} : swapsWith (.Name x pos) t l env = pure false := rfl
theorem sw_Constant {x : Const} : swapsWith (.Constant x k pos) t l env = pure false := rfl
theorem sw_Subscript : swapsWith (.Subscript a b pos) t l env = pure false := rfl
theorem sw_Attribute {x : Str} : swapsWith (.Attribute a x pos) t l env = pure false := rfl
theorem sw_Compare {os : List CmpOp} {es : List Expr} : swapsWith (.Compare a os es pos) t l env = pure false := rfl
theorem sw_BoolOp {op : PySem.BoolOp} {es : List Expr} : swapsWith (.BoolOp op es pos) t l env = pure false := rfl
theorem sw_UnaryOp {op : UnaryOp} : swapsWith (.UnaryOp op a pos) t l env = pure false := rfl
theorem sw_IfExp : swapsWith (.IfExp a b c pos) t l env = pure false := rfl
end
end
end Fb

namespace Fb
open PySem PySem.Spec PyProof.Rows L2 Evl

def c_is_within : Fn := ⟨3, 3, (.cons (.ret (.and_ (.isi (.slot 0) .int) (.and_ (.not_ (.isi (.slot 0) .bool)) (.chain .le .le (.slot 1) (.slot 0) (.slot 2)))))
  .nil)⟩
def c_is_world : Fn := ⟨1, 2, (.cons (.ite (.or_ (.not_ (.isi (.slot 0) .tuple)) (.or_ (.cmp .ne (.b1 .len 0 (.slot 0)) (.lit (.int 3))) (.not_ (.call "is_within" (.cons (.ix (.slot 0) (.lit (.int 0))) (.cons (.lit (.int 1)) (.cons (.glob "MOST_COPIES") Es.nil)))))))
  (.cons (.ret (.lit (.bool false)))
  .nil)
  .nil)
  (.cons (.ite (.or_ (.not_ (.call "is_within" (.cons (.ix (.slot 0) (.lit (.int 1))) (.cons (.lit (.int 1)) (.cons (.glob "MOST_ROOMS") Es.nil))))) (.not_ (.isi (.ix (.slot 0) (.lit (.int 2))) .tuple)))
  (.cons (.ret (.lit (.bool false)))
  .nil)
  .nil)
  (.cons (.ite (.lc 0 [1] (.slot 1) (.one 1) (.seq (.ix (.slot 0) (.lit (.int 2)))) (.or_ (.not_ (.isi (.slot 1) .str)) (.cmp .nin (.slot 1) (.glob "KEYS"))))
  (.cons (.ret (.lit (.bool false)))
  .nil)
  .nil)
  (.cons (.ret (.cmp .eq (.b1 .lenSet 0 (.ix (.slot 0) (.lit (.int 2)))) (.b1 .len 0 (.ix (.slot 0) (.lit (.int 2))))))
  .nil))))⟩
def c_look_world : Fn := ⟨1, 1, (.cons (.ite (.not_ (.call "is_world" (.cons (.slot 0) Es.nil)))
  (.cons (.raise "BadWorld")
  .nil)
  .nil)
  .nil)⟩
def c_is_name : Fn := ⟨1, 2, (.cons (.ret (.and_ (.isi (.slot 0) .str) (.and_ (.chain .le .le (.lit (.int 1)) (.b1 .len 0 (.slot 0)) (.lit (.int 4))) (.not_ (.lc 0 [1] (.slot 1) (.one 1) (.seq (.slot 0)) (.cmp .nin (.slot 1) (.glob "SMALL")))))))
  .nil)⟩
def c_is_place : Fn := ⟨4, 4, (.cons (.ret (.and_ (.call "is_within" (.cons (.slot 2) (.cons (.lit (.int 0)) (.cons (.bin .sub (.ix (.slot 0) (.lit (.int 1))) (.lit (.int 1))) Es.nil)))) (.call "is_within" (.cons (.slot 3) (.cons (.lit (.int 0)) (.cons (.bin .sub (.glob "HOURS") (.slot 1)) Es.nil))))))
  .nil)⟩
def c_is_wish : Fn := ⟨2, 2, (.cons (.ite (.or_ (.not_ (.isi (.slot 1) .tuple)) (.or_ (.cmp .ne (.b1 .len 0 (.slot 1)) (.lit (.int 5))) (.not_ (.call "is_name" (.cons (.ix (.slot 1) (.lit (.int 0))) Es.nil)))))
  (.cons (.ret (.lit (.bool false)))
  .nil)
  .nil)
  (.cons (.ite (.not_ (.call "is_within" (.cons (.ix (.slot 1) (.lit (.int 3))) (.cons (.lit (.int 1)) (.cons (.glob "MOST_LONG") Es.nil)))))
  (.cons (.ret (.lit (.bool false)))
  .nil)
  .nil)
  (.cons (.ret (.and_ (.call "is_place" (.cons (.slot 0) (.cons (.ix (.slot 1) (.lit (.int 3))) (.cons (.ix (.slot 1) (.lit (.int 1))) (.cons (.ix (.slot 1) (.lit (.int 2))) Es.nil))))) (.call "is_within" (.cons (.ix (.slot 1) (.lit (.int 4))) (.cons (.lit (.int 0)) (.cons (.lit (.int 9)) Es.nil))))))
  .nil)))⟩
def c_look_wish : Fn := ⟨2, 2, (.cons (.ite (.not_ (.call "is_wish" (.cons (.slot 0) (.cons (.slot 1) Es.nil))))
  (.cons (.raise "BadWish")
  .nil)
  .nil)
  .nil)⟩
def c_is_booking : Fn := ⟨2, 2, (.cons (.ite (.or_ (.not_ (.isi (.slot 1) .tuple)) (.or_ (.cmp .ne (.b1 .len 0 (.slot 1)) (.lit (.int 2))) (.not_ (.call "is_within" (.cons (.ix (.slot 1) (.lit (.int 0))) (.cons (.lit (.int 0)) (.cons (.bin .sub (.ix (.slot 0) (.lit (.int 0))) (.lit (.int 1))) Es.nil)))))))
  (.cons (.ret (.lit (.bool false)))
  .nil)
  .nil)
  (.cons (.ret (.call "is_within" (.cons (.ix (.slot 1) (.lit (.int 1))) (.cons (.lit (.int 0)) (.cons (.bin .sub (.glob "MOST_WISHES") (.lit (.int 1))) Es.nil)))))
  .nil))⟩
def c_is_factZ (sz : Str) : Fn := ⟨2, 2, (.cons (.ite (.or_ (.not_ (.isi (.slot 1) .tuple)) (.or_ (.not_ (.slot 1)) (.not_ (.isi (.ix (.slot 1) (.lit (.int 0))) .str))))
  (.cons (.ret (.lit (.bool false)))
  .nil)
  .nil)
  (.cons (.ite (.or_ (.cmp .ne (.b1 .len 0 (.slot 1)) (.kget sz (.ix (.slot 1) (.lit (.int 0))) (.lit (.int 0)))) (.not_ (.call "is_booking" (.cons (.slot 0) (.cons (.ix (.slot 1) (.lit (.int 1))) Es.nil)))))
  (.cons (.ret (.lit (.bool false)))
  .nil)
  .nil)
  (.cons (.ite (.cmp .eq (.ix (.slot 1) (.lit (.int 0))) (.lit (.str "off")))
  (.cons (.ret (.lit (.bool true)))
  .nil)
  .nil)
  (.cons (.ite (.or_ (.not_ (.isi (.ix (.slot 1) (.lit (.int 2))) .tuple)) (.or_ (.cmp .ne (.b1 .len 0 (.ix (.slot 1) (.lit (.int 2)))) (.lit (.int 2))) (.not_ (.call "is_within" (.cons (.ix (.ix (.slot 1) (.lit (.int 2))) (.lit (.int 0))) (.cons (.lit (.int 1)) (.cons (.glob "MOST_CLOCK") Es.nil)))))))
  (.cons (.ret (.lit (.bool false)))
  .nil)
  .nil)
  (.cons (.ite (.not_ (.call "is_within" (.cons (.ix (.ix (.slot 1) (.lit (.int 2))) (.lit (.int 1))) (.cons (.lit (.int 0)) (.cons (.bin .sub (.ix (.slot 0) (.lit (.int 0))) (.lit (.int 1))) Es.nil)))))
  (.cons (.ret (.lit (.bool false)))
  .nil)
  .nil)
  (.cons (.ite (.cmp .eq (.ix (.slot 1) (.lit (.int 0))) (.lit (.str "wish")))
  (.cons (.ret (.and_ (.call "is_wish" (.cons (.slot 0) (.cons (.ix (.slot 1) (.lit (.int 3))) Es.nil))) (.cmp .eq (.ix (.ix (.slot 1) (.lit (.int 2))) (.lit (.int 1))) (.ix (.ix (.slot 1) (.lit (.int 1))) (.lit (.int 0))))))
  .nil)
  .nil)
  (.cons (.ite (.or_ (.not_ (.isi (.ix (.slot 1) (.lit (.int 3))) .tuple)) (.cmp .ne (.b1 .len 0 (.ix (.slot 1) (.lit (.int 3)))) (.lit (.int 2))))
  (.cons (.ret (.lit (.bool false)))
  .nil)
  .nil)
  (.cons (.ret (.call "is_place" (.cons (.slot 0) (.cons (.lit (.int 1)) (.cons (.ix (.ix (.slot 1) (.lit (.int 3))) (.lit (.int 0))) (.cons (.ix (.ix (.slot 1) (.lit (.int 3))) (.lit (.int 1))) Es.nil))))))
  .nil))))))))⟩
def c_look_facts : Fn := ⟨2, 3, (.cons (.ite (.or_ (.not_ (.isi (.slot 1) .tuple)) (.lc 0 [2] (.slot 2) (.one 2) (.seq (.slot 1)) (.not_ (.call "is_fact" (.cons (.slot 0) (.cons (.slot 2) Es.nil))))))
  (.cons (.raise "BadFacts")
  .nil)
  .nil)
  .nil)⟩
def c_wishes_in : Fn := ⟨1, 3, (.cons (.set 1 (.lc 0 [2] (.ix (.slot 2) (.lit (.int 1))) (.one 2) (.seq (.slot 0)) (.cmp .eq (.ix (.slot 2) (.lit (.int 0))) (.lit (.str "off")))))
  (.cons (.ret (.b1 .dict 0 (.lc 0 [2] (.tup (.cons (.ix (.slot 2) (.lit (.int 1))) (.cons (.tup (.cons (.ix (.slot 2) (.lit (.int 2))) (.cons (.ix (.slot 2) (.lit (.int 3))) Es.nil))) Es.nil))) (.one 2) (.seq (.slot 0)) (.and_ (.cmp .eq (.ix (.slot 2) (.lit (.int 0))) (.lit (.str "wish"))) (.cmp .nin (.ix (.slot 2) (.lit (.int 1))) (.slot 1))))))
  .nil))⟩
def c_pins_in : Fn := ⟨1, 3, (.cons (.set 1 (.dnil 1))
  (.cons (.for_ (.one 2) (.seq (.slot 0))
  (.cons (.ite (.cmp .eq (.ix (.slot 2) (.lit (.int 0))) (.lit (.str "pin")))
  (.cons (.six (.slot 1) (.ix (.slot 2) (.lit (.int 1))) (.b2 .max (.get (.slot 1) (.ix (.slot 2) (.lit (.int 1))) (.slF (.slot 2) (.lit (.int 2)))) (.slF (.slot 2) (.lit (.int 2)))))
  .nil)
  .nil)
  .nil))
  (.cons (.ret (.slot 1))
  .nil)))⟩
def c_key_of : Fn := ⟨4, 11, (.cons (.unp (.many [4, 5, 6, 7, 8]) (.slot 3))
  (.cons (.set 9 (.dict 0 ["rank", "first", "short", "early"] (.cons (.neg (.slot 8)) (.cons (.ix (.slot 2) (.lit (.int 0))) (.cons (.slot 7) (.cons (.slot 6) Es.nil))))))
  (.cons (.ret (.bin .add (.b1 .tuple 0 (.lc 0 [10] (.ix (.slot 9) (.slot 10)) (.one 10) (.seq (.slot 0)) (.lit (.bool true)))) (.tup (.cons (.slot 2) (.cons (.slot 1) Es.nil)))))
  .nil)))⟩
def c_in_order : Fn := ⟨2, 4, (.cons (.ret (.lc 0 [2] (.ix (.slot 2) (.neg (.lit (.int 1)))) (.one 2) (.seq (.b1 .sorted 0 (.lcK 0 [3] (.call "key_of" (.cons (.slot 0) (.cons (.slot 3) (.cons (.ix (.ix (.slot 1) (.slot 3)) (.lit (.int 0))) (.cons (.ix (.ix (.slot 1) (.slot 3)) (.lit (.int 1))) Es.nil))))) (.one 3) 1 (.lit (.bool true))))) (.lit (.bool true))))
  .nil)⟩
def c_is_free : Fn := ⟨4, 5, (.cons (.ret (.not_ (.lc 0 [4] (.slot 4) (.one 4) (.rng2 (.slot 2) (.bin .add (.slot 2) (.slot 3))) (.cmp .in_ (.tup (.cons (.slot 1) (.cons (.slot 4) Es.nil))) (.slot 0)))))
  .nil)⟩
def c_fill : Fn := ⟨5, 6, (.cons (.for_ (.one 5) (.rng2 (.slot 3) (.bin .add (.slot 3) (.slot 4)))
  (.cons (.six (.slot 0) (.tup (.cons (.slot 2) (.cons (.slot 5) Es.nil))) (.slot 1))
  .nil))
  .nil)⟩
def c_nearest : Fn := ⟨3, 14, (.cons (.unp (.many [3, 4, 5, 6, 7]) (.slot 2))
  (.cons (.set 8 (.list 1 Es.nil))
  (.cons (.for_ (.one 9) (.rng1 (.ix (.slot 0) (.lit (.int 1))))
  (.cons (.for_ (.one 10) (.rng1 (.bin .add (.bin .sub (.glob "HOURS") (.slot 6)) (.lit (.int 1))))
  (.cons (.ite (.call "is_free" (.cons (.slot 1) (.cons (.slot 9) (.cons (.slot 10) (.cons (.slot 6) Es.nil)))))
  (.cons (.app (.slot 8) (.tup (.cons (.b1 .int 0 (.cmp .ne (.slot 9) (.slot 4))) (.cons (.b1 .abs 0 (.bin .sub (.slot 10) (.slot 5))) (.cons (.b1 .abs 0 (.bin .sub (.slot 9) (.slot 4))) (.cons (.slot 10) (.cons (.slot 9) Es.nil)))))))
  .nil)
  .nil)
  .nil))
  .nil))
  (.cons (.ite (.not_ (.slot 8))
  (.cons (.ret (.lit .none))
  .nil)
  .nil)
  (.cons (.unp (.many [11, 12, 13, 10, 9]) (.b1 .min 0 (.slot 8)))
  (.cons (.ret (.tup (.cons (.slot 9) (.cons (.slot 10) Es.nil))))
  .nil))))))⟩
def c_placed : Fn := ⟨2, 12, (.cons (.set 2 (.call "wishes_in" (.cons (.slot 1) Es.nil)))
  (.cons (.set 3 (.call "pins_in" (.cons (.slot 1) Es.nil)))
  (.cons (.set 4 (.call "in_order" (.cons (.ix (.slot 0) (.lit (.int 2))) (.cons (.slot 2) Es.nil))))
  (.cons (.set 5 (.dnil 1))
  (.cons (.set 6 (.dnil 1))
  (.cons (.for_ (.one 7) (.seq (.slot 4))
  (.cons (.ite (.cmp .in_ (.slot 7) (.slot 3))
  (.cons (.unp (.many [8, 9]) (.ix (.ix (.slot 3) (.slot 7)) (.lit (.int 1))))
  (.cons (.set 10 (.ix (.ix (.ix (.slot 2) (.slot 7)) (.lit (.int 1))) (.lit (.int 3))))
  (.cons (.ite (.and_ (.cmp .le (.bin .add (.slot 9) (.slot 10)) (.glob "HOURS")) (.call "is_free" (.cons (.slot 5) (.cons (.slot 8) (.cons (.slot 9) (.cons (.slot 10) Es.nil))))))
  (.cons (.ex (.call "fill" (.cons (.slot 5) (.cons (.slot 7) (.cons (.slot 8) (.cons (.slot 9) (.cons (.slot 10) Es.nil)))))))
  (.cons (.six (.slot 6) (.slot 7) (.tup (.cons (.slot 8) (.cons (.slot 9) Es.nil))))
  .nil))
  .nil)
  .nil)))
  .nil)
  .nil))
  (.cons (.for_ (.one 7) (.seq (.slot 4))
  (.cons (.ite (.cmp .nin (.slot 7) (.slot 6))
  (.cons (.set 11 (.ix (.ix (.slot 2) (.slot 7)) (.lit (.int 1))))
  (.cons (.six (.slot 6) (.slot 7) (.call "nearest" (.cons (.slot 0) (.cons (.slot 5) (.cons (.slot 11) Es.nil)))))
  (.cons (.ite (.cmp .isn (.ix (.slot 6) (.slot 7)) (.lit .none))
  (.cons (.ex (.call "fill" (.cons (.slot 5) (.cons (.slot 7) (.cons (.ix (.ix (.slot 6) (.slot 7)) (.lit (.int 0))) (.cons (.ix (.ix (.slot 6) (.slot 7)) (.lit (.int 1))) (.cons (.ix (.slot 11) (.lit (.int 3))) Es.nil)))))))
  .nil)
  .nil)
  .nil)))
  .nil)
  .nil))
  (.cons (.ret (.slot 6))
  .nil))))))))⟩
def c_Copy_init : Fn := ⟨3, 3, (.cons (.ex (.call "look_world" (.cons (.slot 1) Es.nil)))
  (.cons (.ite (.not_ (.call "is_within" (.cons (.slot 2) (.cons (.lit (.int 0)) (.cons (.bin .sub (.ix (.slot 1) (.lit (.int 0))) (.lit (.int 1))) Es.nil)))))
  (.cons (.raise "BadCopy")
  .nil)
  .nil)
  (.cons (.sat (.slot 0) "world" (.slot 1))
  (.cons (.sat (.slot 0) "mine" (.slot 2))
  (.cons (.sat (.slot 0) "facts" (.list 2 Es.nil))
  (.cons (.sat (.slot 0) "clock" (.lit (.int 0)))
  (.cons (.sat (.slot 0) "own" (.lit (.int 0)))
  (.cons (.sat (.slot 0) "seen" (.dnil 0))
  .nil))))))))⟩
def c_Copy_put : Fn := ⟨2, 2, (.cons (.ite (.cmp .nin (.slot 1) (.attr (.slot 0) "facts"))
  (.cons (.app (.attr (.slot 0) "facts") (.slot 1))
  .nil)
  .nil)
  .nil)⟩
def c_Copy_tick : Fn := ⟨1, 1, (.cons (.aat (.slot 0) "clock" (.lit (.int 1)))
  (.cons (.ret (.tup (.cons (.attr (.slot 0) "clock") (.cons (.attr (.slot 0) "mine") Es.nil))))
  .nil))⟩
def c_Copy_look_known : Fn := ⟨2, 2, (.cons (.ite (.or_ (.not_ (.call "is_booking" (.cons (.attr (.slot 0) "world") (.cons (.slot 1) Es.nil)))) (.cmp .nin (.slot 1) (.call "wishes_in" (.cons (.attr (.slot 0) "facts") Es.nil))))
  (.cons (.raise "NoBooking")
  .nil)
  .nil)
  .nil)⟩
def c_Copy_wish : Fn := ⟨2, 3, (.cons (.ex (.call "look_wish" (.cons (.attr (.slot 0) "world") (.cons (.slot 1) Es.nil))))
  (.cons (.ite (.cmp .eq (.attr (.slot 0) "own") (.glob "MOST_WISHES"))
  (.cons (.raise "Full")
  .nil)
  .nil)
  (.cons (.set 2 (.tup (.cons (.attr (.slot 0) "mine") (.cons (.attr (.slot 0) "own") Es.nil))))
  (.cons (.aat (.slot 0) "own" (.lit (.int 1)))
  (.cons (.ex (.meth (.slot 0) "put" (.cons (.tup (.cons (.lit (.str "wish")) (.cons (.slot 2) (.cons (.meth (.slot 0) "tick" Es.nil) (.cons (.slot 1) Es.nil))))) Es.nil)))
  (.cons (.ret (.slot 2))
  .nil))))))⟩
def c_Copy_off : Fn := ⟨2, 2, (.cons (.ex (.meth (.slot 0) "look_known" (.cons (.slot 1) Es.nil)))
  (.cons (.ex (.meth (.slot 0) "put" (.cons (.tup (.cons (.lit (.str "off")) (.cons (.slot 1) Es.nil))) Es.nil)))
  .nil))⟩
def c_Copy_pin : Fn := ⟨4, 5, (.cons (.ex (.meth (.slot 0) "look_known" (.cons (.slot 1) Es.nil)))
  (.cons (.set 4 (.ix (.ix (.ix (.call "wishes_in" (.cons (.attr (.slot 0) "facts") Es.nil)) (.slot 1)) (.lit (.int 1))) (.lit (.int 3))))
  (.cons (.ite (.not_ (.call "is_place" (.cons (.attr (.slot 0) "world") (.cons (.slot 4) (.cons (.slot 2) (.cons (.slot 3) Es.nil))))))
  (.cons (.raise "BadWish")
  .nil)
  .nil)
  (.cons (.ex (.meth (.slot 0) "put" (.cons (.tup (.cons (.lit (.str "pin")) (.cons (.slot 1) (.cons (.meth (.slot 0) "tick" Es.nil) (.cons (.tup (.cons (.slot 2) (.cons (.slot 3) Es.nil))) Es.nil))))) Es.nil)))
  .nil))))⟩
def c_Copy_told : Fn := ⟨1, 1, (.cons (.ret (.b1 .tuple 0 (.b1 .sorted 0 (.attr (.slot 0) "facts"))))
  .nil)⟩
def c_Copy_heard : Fn := ⟨2, 4, (.cons (.ex (.call "look_facts" (.cons (.attr (.slot 0) "world") (.cons (.slot 1) Es.nil))))
  (.cons (.set 2 (.b1 .len 0 (.attr (.slot 0) "facts")))
  (.cons (.for_ (.one 3) (.seq (.slot 1))
  (.cons (.ex (.meth (.slot 0) "put" (.cons (.slot 3) Es.nil)))
  (.cons (.ite (.cmp .ne (.ix (.slot 3) (.lit (.int 0))) (.lit (.str "off")))
  (.cons (.sat (.slot 0) "clock" (.b2 .max (.attr (.slot 0) "clock") (.ix (.ix (.slot 3) (.lit (.int 2))) (.lit (.int 0)))))
  .nil)
  .nil)
  .nil)))
  (.cons (.ret (.bin .sub (.b1 .len 0 (.attr (.slot 0) "facts")) (.slot 2)))
  .nil))))⟩
def c_Copy_places : Fn := ⟨1, 3, (.cons (.set 1 (.call "placed" (.cons (.attr (.slot 0) "world") (.cons (.attr (.slot 0) "facts") Es.nil))))
  (.cons (.ret (.lc 0 [2] (.tup (.cons (.slot 2) (.cons (.ix (.slot 1) (.slot 2)) Es.nil))) (.one 2) (.seq (.b1 .sorted 0 (.slot 1))) (.lit (.bool true))))
  .nil))⟩
def c_Copy_place : Fn := ⟨2, 2, (.cons (.ex (.meth (.slot 0) "look_known" (.cons (.slot 1) Es.nil)))
  (.cons (.ret (.ix (.call "placed" (.cons (.attr (.slot 0) "world") (.cons (.attr (.slot 0) "facts") Es.nil))) (.slot 1)))
  .nil))⟩
def c_Copy_listed : Fn := ⟨2, 7, (.cons (.ite (.or_ (.not_ (.isi (.slot 1) .str)) (.cmp .nin (.slot 1) (.glob "ASKS")))
  (.cons (.raise "BadWord")
  .nil)
  .nil)
  (.cons (.set 2 (.call "wishes_in" (.cons (.attr (.slot 0) "facts") Es.nil)))
  (.cons (.ite (.cmp .eq (.slot 1) (.lit (.str "order")))
  (.cons (.ret (.call "in_order" (.cons (.ix (.attr (.slot 0) "world") (.lit (.int 2))) (.cons (.slot 2) Es.nil))))
  .nil)
  .nil)
  (.cons (.set 3 (.call "placed" (.cons (.attr (.slot 0) "world") (.cons (.attr (.slot 0) "facts") Es.nil))))
  (.cons (.ite (.cmp .eq (.slot 1) (.lit (.str "out")))
  (.cons (.ret (.lc 0 [4] (.slot 4) (.one 4) (.seq (.b1 .sorted 0 (.slot 3))) (.cmp .is_ (.ix (.slot 3) (.slot 4)) (.lit .none))))
  .nil)
  .nil)
  (.cons (.ite (.cmp .eq (.slot 1) (.lit (.str "moved")))
  (.cons (.ret (.lc 0 [4] (.slot 4) (.one 4) (.seq (.b1 .sorted 0 (.slot 3))) (.cmp .nin (.ix (.slot 3) (.slot 4)) (.tup (.cons (.lit .none) (.cons (.slB (.ix (.ix (.slot 2) (.slot 4)) (.lit (.int 1))) (.lit (.int 1)) (.lit (.int 3))) Es.nil))))))
  .nil)
  .nil)
  (.cons (.set 5 (.b1 .dict 0 (.lc 0 [6] (.tup (.cons (.ix (.slot 6) (.lit (.int 1))) (.cons (.lit (.bool true)) Es.nil))) (.one 6) (.seq (.attr (.slot 0) "facts")) (.cmp .eq (.ix (.slot 6) (.lit (.int 0))) (.lit (.str "pin"))))))
  (.cons (.ret (.lc 0 [4] (.slot 4) (.one 4) (.seq (.b1 .sorted 0 (.slot 3))) (.and_ (.cmp .in_ (.slot 4) (.slot 5)) (.meth (.slot 0) "is_at_pin" (.cons (.slot 4) (.cons (.ix (.slot 3) (.slot 4)) Es.nil))))))
  .nil))))))))⟩
def c_Copy_is_at_pin : Fn := ⟨3, 5, (.cons (.set 3 (.lc 0 [4] (.slF (.slot 4) (.lit (.int 2))) (.one 4) (.seq (.attr (.slot 0) "facts")) (.and_ (.cmp .eq (.ix (.slot 4) (.lit (.int 0))) (.lit (.str "pin"))) (.cmp .eq (.ix (.slot 4) (.lit (.int 1))) (.slot 1)))))
  (.cons (.ret (.cmp .eq (.slot 2) (.ix (.b1 .max 0 (.slot 3)) (.lit (.int 1)))))
  .nil))⟩
def c_Copy_news : Fn := ⟨1, 6, (.cons (.set 1 (.call "placed" (.cons (.attr (.slot 0) "world") (.cons (.attr (.slot 0) "facts") Es.nil))))
  (.cons (.set 2 (.list 1 Es.nil))
  (.cons (.for_ (.one 3) (.seq (.b1 .sortSet 0 (.bin .add (.b1 .list 0 (.slot 1)) (.b1 .list 0 (.attr (.slot 0) "seen")))))
  (.cons (.set 4 (.get (.attr (.slot 0) "seen") (.slot 3) (.lit (.str "new"))))
  (.cons (.set 5 (.get (.slot 1) (.slot 3) (.lit (.str "off"))))
  (.cons (.ite (.cmp .ne (.slot 4) (.slot 5))
  (.cons (.app (.slot 2) (.tup (.cons (.slot 3) (.cons (.slot 4) (.cons (.slot 5) Es.nil)))))
  .nil)
  .nil)
  .nil))))
  (.cons (.sat (.slot 0) "seen" (.slot 1))
  (.cons (.ret (.slot 2))
  .nil)))))⟩
def c_far : Fn := ⟨1, 2, (.cons (.ex (.call "look_world" (.cons (.slot 0) Es.nil)))
  (.cons (.ret (.lc 0 [1] (.make (.cons (.slot 0) (.cons (.slot 1) Es.nil))) (.one 1) (.rng1 (.ix (.slot 0) (.lit (.int 0)))) (.lit (.bool true))))
  .nil))⟩
def c_is_deed : Fn := ⟨1, 1, (.cons (.ite (.or_ (.not_ (.isi (.slot 0) .tuple)) (.or_ (.not_ (.slot 0)) (.not_ (.isi (.ix (.slot 0) (.lit (.int 0))) .str))))
  (.cons (.ret (.lit (.bool false)))
  .nil)
  .nil)
  (.cons (.ret (.cmp .eq (.b1 .len 0 (.slot 0)) (.kget "SIZES_runs" (.ix (.slot 0) (.lit (.int 0))) (.lit (.int 0)))))
  .nil))⟩
def c_copy_of : Fn := ⟨2, 2, (.cons (.ite (.not_ (.call "is_within" (.cons (.slot 1) (.cons (.lit (.int 0)) (.cons (.bin .sub (.b1 .len 0 (.slot 0)) (.lit (.int 1))) Es.nil)))))
  (.cons (.raise "BadCopy")
  .nil)
  .nil)
  (.cons (.ret (.ix (.slot 0) (.slot 1)))
  .nil))⟩
def c_told_by : Fn := ⟨2, 6, (.cons (.set 2 (.ix (.slot 1) (.lit (.int 0))))
  (.cons (.set 3 (.call "copy_of" (.cons (.slot 0) (.cons (.ix (.slot 1) (.lit (.int 1))) Es.nil))))
  (.cons (.ite (.cmp .eq (.slot 2) (.lit (.str "wish")))
  (.cons (.ret (.meth (.slot 3) "wish" (.cons (.ix (.slot 1) (.lit (.int 2))) Es.nil)))
  .nil)
  .nil)
  (.cons (.ite (.cmp .eq (.slot 2) (.lit (.str "off")))
  (.cons (.ret (.meth (.slot 3) "off" (.cons (.ix (.slot 1) (.lit (.int 2))) Es.nil)))
  .nil)
  .nil)
  (.cons (.ite (.cmp .eq (.slot 2) (.lit (.str "pin")))
  (.cons (.ret (.meth (.slot 3) "pin" (.cons (.ix (.slot 1) (.lit (.int 2))) (.cons (.ix (.slot 1) (.lit (.int 3))) (.cons (.ix (.slot 1) (.lit (.int 4))) Es.nil)))))
  .nil)
  .nil)
  (.cons (.ite (.cmp .eq (.slot 2) (.lit (.str "news")))
  (.cons (.ret (.meth (.slot 3) "news" Es.nil))
  .nil)
  .nil)
  (.cons (.set 4 (.call "copy_of" (.cons (.slot 0) (.cons (.ix (.slot 1) (.lit (.int 2))) Es.nil))))
  (.cons (.ite (.cmp .eq (.slot 2) (.lit (.str "send")))
  (.cons (.ret (.meth (.slot 4) "heard" (.cons (.meth (.slot 3) "told" Es.nil) Es.nil)))
  .nil)
  .nil)
  (.cons (.set 5 (.meth (.slot 3) "told" Es.nil))
  (.cons (.ite (.or_ (.not_ (.call "is_within" (.cons (.ix (.slot 1) (.lit (.int 3))) (.cons (.lit (.int 0)) (.cons (.b1 .len 0 (.slot 5)) Es.nil))))) (.not_ (.call "is_within" (.cons (.ix (.slot 1) (.lit (.int 4))) (.cons (.ix (.slot 1) (.lit (.int 3))) (.cons (.b1 .len 0 (.slot 5)) Es.nil))))))
  (.cons (.raise "BadDeed")
  .nil)
  .nil)
  (.cons (.ret (.meth (.slot 4) "heard" (.cons (.slB (.slot 5) (.ix (.slot 1) (.lit (.int 3))) (.ix (.slot 1) (.lit (.int 4)))) Es.nil)))
  .nil)))))))))))⟩
def c_do : Fn := ⟨2, 3, (.cons (.ite (.not_ (.call "is_deed" (.cons (.slot 1) Es.nil)))
  (.cons (.raise "BadDeed")
  .nil)
  .nil)
  (.cons (.set 2 (.lit (.str "refused")))
  (.cons (.try_ (.cons (.set 2 (.call "told_by" (.cons (.slot 0) (.cons (.slot 1) Es.nil))))
  .nil) (.cons "BookError" (.cons (.set 2 (.lit (.str "refused")))
  .nil) .nil))
  (.cons (.ret (.slot 2))
  .nil))))⟩
def c_law_cell : Fn := ⟨2, 2, (.cons (.ite (.cmp .lt (.slot 1) (.b1 .len 0 (.slot 0)))
  (.cons (.ret (.ix (.slot 0) (.slot 1)))
  .nil)
  .nil)
  (.cons (.ret (.lit (.int 0)))
  .nil))⟩
def c_law_mix : Fn := ⟨3, 3, (.cons (.ret (.bin .mod (.bin .mod (.bin .pow (.bin .mod (.bin .mul (.slot 0) (.lit (.int 48271))) (.slot 1)) (.lit (.int 3))) (.slot 1)) (.slot 2)))
  .nil)⟩
def c_law_seed : Fn := ⟨2, 2, (.cons (.ret (.bin .mod (.bin .pow (.bin .mod (.bin .add (.bin .add (.bin .mul (.slot 0) (.lit (.int 1103515245))) (.bin .mul (.lit (.int 7919)) (.slot 1))) (.lit (.int 12345))) (.lit (.int 2147483647))) (.lit (.int 5))) (.lit (.int 2147483647))))
  .nil)⟩
def c_law_pick : Fn := ⟨2, 2, (.cons (.ret (.bin .mod (.bin .fdiv (.slot 0) (.lit (.int 97))) (.slot 1)))
  .nil)⟩
def c_law_world : Fn := ⟨1, 5, (.cons (.set 0 (.call "_law_seed" (.cons (.slot 0) (.cons (.lit (.int 9)) Es.nil))))
  (.cons (.set 1 (.list 0 (.cons (.lit (.str "rank")) (.cons (.lit (.str "first")) (.cons (.lit (.str "short")) (.cons (.lit (.str "early")) Es.nil))))))
  (.cons (.set 2 (.list 0 Es.nil))
  (.cons (.for_ (.one 3) (.rng1 (.bin .mod (.bin .fdiv (.slot 0) (.lit (.int 3))) (.lit (.int 5))))
  (.cons (.set 4 (.ix (.slot 1) (.call "_law_pick" (.cons (.call "_law_seed" (.cons (.slot 0) (.cons (.slot 3) Es.nil))) (.cons (.lit (.int 4)) Es.nil)))))
  (.cons (.set 2 (.bin .add (.slot 2) (.rep 0 (.cons (.slot 4) Es.nil) (.b1 .int 0 (.cmp .nin (.slot 4) (.slot 2))))))
  .nil)))
  (.cons (.ret (.tup (.cons (.bin .add (.lit (.int 1)) (.bin .mod (.bin .fdiv (.slot 0) (.lit (.int 5))) (.lit (.int 5)))) (.cons (.bin .add (.lit (.int 1)) (.bin .mod (.bin .fdiv (.slot 0) (.lit (.int 7))) (.lit (.int 3)))) (.cons (.b1 .tuple 0 (.slot 2)) Es.nil)))))
  .nil)))))⟩
def c_law_wish : Fn := ⟨2, 7, (.cons (.set 2 (.lit (.str "abcdefghijklmnopqrstuvwxyz")))
  (.cons (.set 3 (.b2 .join (.lit (.str "")) (.lc 0 [4] (.ix (.slot 2) (.call "_law_pick" (.cons (.call "_law_seed" (.cons (.slot 1) (.cons (.slot 4) Es.nil))) (.cons (.lit (.int 26)) Es.nil)))) (.one 4) (.rng1 (.bin .add (.lit (.int 1)) (.bin .mod (.bin .fdiv (.slot 1) (.lit (.int 3))) (.lit (.int 4))))) (.lit (.bool true)))))
  (.cons (.set 5 (.bin .add (.lit (.int 1)) (.bin .mod (.bin .fdiv (.slot 1) (.lit (.int 5))) (.ix (.list 0 (.cons (.lit (.int 6)) (.cons (.lit (.int 3)) Es.nil))) (.bin .mod (.bin .fdiv (.slot 1) (.lit (.int 7))) (.lit (.int 2)))))))
  (.cons (.set 6 (.b2 .min (.bin .sub (.lit (.int 24)) (.slot 5)) (.ix (.list 0 (.cons (.bin .add (.lit (.int 8)) (.bin .mod (.bin .fdiv (.slot 1) (.lit (.int 11))) (.lit (.int 5)))) (.cons (.bin .mod (.bin .fdiv (.slot 1) (.lit (.int 11))) (.lit (.int 24))) (.cons (.lit (.int 24)) Es.nil)))) (.bin .fdiv (.call "_law_pick" (.cons (.slot 1) (.cons (.lit (.int 5)) Es.nil))) (.lit (.int 2))))))
  (.cons (.ret (.tup (.cons (.slot 3) (.cons (.bin .mod (.bin .fdiv (.slot 1) (.lit (.int 13))) (.ix (.list 0 (.cons (.ix (.slot 0) (.lit (.int 1))) (.cons (.lit (.int 1)) Es.nil))) (.bin .mod (.bin .fdiv (.slot 1) (.lit (.int 17))) (.lit (.int 2))))) (.cons (.slot 6) (.cons (.slot 5) (.cons (.bin .mod (.bin .fdiv (.slot 1) (.lit (.int 19))) (.ix (.list 0 (.cons (.lit (.int 10)) (.cons (.lit (.int 3)) Es.nil))) (.bin .mod (.bin .fdiv (.slot 1) (.lit (.int 23))) (.lit (.int 2))))) Es.nil)))))))
  .nil)))))⟩
def c_law_first : Fn := ⟨1, 3, (.cons (.set 1 (.lc 0 [2] (.dict 2 ["facts", "clock", "own", "seen"] (.cons (.list 2 Es.nil) (.cons (.lit (.int 0)) (.cons (.lit (.int 0)) (.cons (.dnil 0) Es.nil))))) (.one 2) (.rng1 (.ix (.slot 0) (.lit (.int 0)))) (.lit (.bool true))))
  (.cons (.ret (.dict 0 ["world", "copies"] (.cons (.slot 0) (.cons (.slot 1) Es.nil))))
  .nil))⟩
def c_law_standing : Fn := ⟨1, 3, (.cons (.set 1 (.dnil 1))
  (.cons (.for_ (.one 2) (.seq (.slot 0))
  (.cons (.ite (.and_ (.cmp .eq (.ix (.slot 2) (.lit (.int 0))) (.lit (.str "wish"))) (.cmp .nin (.tup (.cons (.lit (.str "off")) (.cons (.ix (.slot 2) (.lit (.int 1))) Es.nil))) (.slot 0)))
  (.cons (.six (.slot 1) (.ix (.slot 2) (.lit (.int 1))) (.tup (.cons (.ix (.slot 2) (.lit (.int 2))) (.cons (.ix (.slot 2) (.lit (.int 3))) Es.nil))))
  .nil)
  .nil)
  .nil))
  (.cons (.ret (.slot 1))
  .nil)))⟩
def c_law_ahead : Fn := ⟨4, 8, (.cons (.par 4 5 (.ix (.slot 3) (.slot 1)) (.ix (.slot 3) (.slot 2)))
  (.cons (.set 6 (.dict 1 ["rank", "first"] (.cons (.tup (.cons (.ix (.ix (.slot 5) (.lit (.int 1))) (.lit (.int 4))) (.cons (.ix (.ix (.slot 4) (.lit (.int 1))) (.lit (.int 4))) Es.nil))) (.cons (.tup (.cons (.ix (.ix (.slot 4) (.lit (.int 0))) (.lit (.int 0))) (.cons (.ix (.ix (.slot 5) (.lit (.int 0))) (.lit (.int 0))) Es.nil))) Es.nil))))
  (.cons (.six (.slot 6) (.lit (.str "short")) (.tup (.cons (.ix (.ix (.slot 4) (.lit (.int 1))) (.lit (.int 3))) (.cons (.ix (.ix (.slot 5) (.lit (.int 1))) (.lit (.int 3))) Es.nil))))
  (.cons (.six (.slot 6) (.lit (.str "early")) (.tup (.cons (.ix (.ix (.slot 4) (.lit (.int 1))) (.lit (.int 2))) (.cons (.ix (.ix (.slot 5) (.lit (.int 1))) (.lit (.int 2))) Es.nil))))
  (.cons (.for_ (.one 7) (.seq (.slot 0))
  (.cons (.ite (.cmp .ne (.ix (.ix (.slot 6) (.slot 7)) (.lit (.int 0))) (.ix (.ix (.slot 6) (.slot 7)) (.lit (.int 1))))
  (.cons (.ret (.cmp .lt (.ix (.ix (.slot 6) (.slot 7)) (.lit (.int 0))) (.ix (.ix (.slot 6) (.slot 7)) (.lit (.int 1)))))
  .nil)
  .nil)
  .nil))
  (.cons (.ret (.cmp .lt (.tup (.cons (.ix (.slot 4) (.lit (.int 0))) (.cons (.slot 1) Es.nil))) (.tup (.cons (.ix (.slot 5) (.lit (.int 0))) (.cons (.slot 2) Es.nil)))))
  .nil))))))⟩
def c_law_order : Fn := ⟨2, 5, (.cons (.set 2 (.list 0 Es.nil))
  (.cons (.for_ (.one 3) (.seq (.b1 .sorted 0 (.slot 1)))
  (.cons (.set 4 (.lit (.int 0)))
  (.cons (.whl 200 (.and_ (.cmp .lt (.slot 4) (.b1 .len 0 (.slot 2))) (.call "_law_ahead" (.cons (.slot 0) (.cons (.ix (.slot 2) (.slot 4)) (.cons (.slot 3) (.cons (.slot 1) Es.nil))))))
  (.cons (.aug 4 (.lit (.int 1)))
  .nil))
  (.cons (.set 2 (.bin .add (.bin .add (.slT (.slot 2) (.slot 4)) (.list 0 (.cons (.slot 3) Es.nil))) (.slF (.slot 2) (.slot 4))))
  .nil))))
  (.cons (.ret (.slot 2))
  .nil)))⟩
def c_law_free : Fn := ⟨4, 5, (.cons (.ret (.and_ (.cmp .le (.lit (.int 0)) (.slot 2)) (.and_ (.cmp .le (.bin .add (.slot 2) (.slot 3)) (.lit (.int 24))) (.cmp .eq (.lc 0 [4] (.lit (.int 1)) (.one 4) (.rng2 (.slot 2) (.bin .add (.slot 2) (.slot 3))) (.cmp .in_ (.tup (.cons (.slot 1) (.cons (.slot 4) Es.nil))) (.slot 0))) (.list 0 Es.nil)))))
  .nil)⟩
def c_law_nearest : Fn := ⟨3, 15, (.cons (.unp (.many [3, 4, 5, 6, 7]) (.slot 2))
  (.cons (.set 8 (.b1 .sorted 0 (.lc 0 [9] (.tup (.cons (.b1 .abs 0 (.bin .sub (.slot 9) (.slot 4))) (.cons (.slot 9) Es.nil))) (.one 9) (.rng1 (.ix (.slot 0) (.lit (.int 1)))) (.cmp .ne (.slot 9) (.slot 4)))))
  (.cons (.for_ (.one 10) (.seq (.tup (.cons (.list 0 (.cons (.slot 4) Es.nil)) (.cons (.lc 0 [9, 11] (.slot 9) (.many [11, 9]) (.seq (.slot 8)) (.lit (.bool true))) Es.nil))))
  (.cons (.for_ (.one 12) (.rng1 (.lit (.int 24)))
  (.cons (.set 13 (.list 0 Es.nil))
  (.cons (.for_ (.one 9) (.seq (.slot 10))
  (.cons (.set 13 (.bin .add (.slot 13) (.list 0 (.cons (.tup (.cons (.b1 .abs 0 (.bin .sub (.slot 9) (.slot 4))) (.cons (.bin .sub (.slot 5) (.slot 12)) (.cons (.slot 9) Es.nil)))) (.cons (.tup (.cons (.b1 .abs 0 (.bin .sub (.slot 9) (.slot 4))) (.cons (.bin .add (.slot 5) (.slot 12)) (.cons (.slot 9) Es.nil)))) Es.nil)))))
  .nil))
  (.cons (.for_ (.many [11, 14, 9]) (.seq (.b1 .sorted 0 (.slot 13)))
  (.cons (.ite (.call "_law_free" (.cons (.slot 1) (.cons (.slot 9) (.cons (.slot 14) (.cons (.slot 6) Es.nil)))))
  (.cons (.ret (.tup (.cons (.slot 9) (.cons (.slot 14) Es.nil))))
  .nil)
  .nil)
  .nil))
  .nil))))
  .nil))
  (.cons (.ret (.lit .none))
  .nil))))⟩
def c_law_plan : Fn := ⟨2, 13, (.cons (.set 2 (.call "_law_standing" (.cons (.slot 1) Es.nil)))
  (.cons (.set 3 (.call "_law_order" (.cons (.ix (.slot 0) (.lit (.int 2))) (.cons (.slot 2) Es.nil))))
  (.cons (.set 4 (.list 0 Es.nil))
  (.cons (.set 5 (.dnil 1))
  (.cons (.for_ (.one 6) (.rng1 (.lit (.int 2)))
  (.cons (.for_ (.one 7) (.seq (.lc 0 [7] (.slot 7) (.one 7) (.seq (.slot 3)) (.cmp .nin (.slot 7) (.slot 5))))
  (.cons (.set 8 (.ix (.ix (.ix (.slot 2) (.slot 7)) (.lit (.int 1))) (.lit (.int 3))))
  (.cons (.set 9 (.lit .none))
  (.cons (.set 10 (.lc 0 [11] (.slF (.slot 11) (.lit (.int 2))) (.one 11) (.seq (.slot 1)) (.and_ (.cmp .eq (.ix (.slot 11) (.lit (.int 0))) (.lit (.str "pin"))) (.cmp .eq (.ix (.slot 11) (.lit (.int 1))) (.slot 7)))))
  (.cons (.ite (.cmp .eq (.slot 6) (.lit (.int 1)))
  (.cons (.set 9 (.call "_law_nearest" (.cons (.slot 0) (.cons (.slot 4) (.cons (.ix (.ix (.slot 2) (.slot 7)) (.lit (.int 1))) Es.nil)))))
  (.cons (.six (.slot 5) (.slot 7) (.slot 9))
  .nil))
  (.cons (.ite (.and_ (.cmp .ne (.slot 10) (.list 0 Es.nil)) (.call "_law_free" (.cons (.slot 4) (.cons (.ix (.ix (.b1 .max 0 (.slot 10)) (.lit (.int 1))) (.lit (.int 0))) (.cons (.ix (.ix (.b1 .max 0 (.slot 10)) (.lit (.int 1))) (.lit (.int 1))) (.cons (.slot 8) Es.nil))))))
  (.cons (.set 9 (.ix (.b1 .max 0 (.slot 10)) (.lit (.int 1))))
  (.cons (.six (.slot 5) (.slot 7) (.slot 9))
  .nil))
  .nil)
  .nil))
  (.cons (.ite (.cmp .isn (.slot 9) (.lit .none))
  (.cons (.set 4 (.bin .add (.slot 4) (.lc 0 [12] (.tup (.cons (.ix (.slot 9) (.lit (.int 0))) (.cons (.bin .add (.ix (.slot 9) (.lit (.int 1))) (.slot 12)) Es.nil))) (.one 12) (.rng1 (.slot 8)) (.lit (.bool true)))))
  .nil)
  .nil)
  .nil))))))
  .nil))
  (.cons (.ret (.slot 5))
  .nil))))))⟩
def c_law_put : Fn := ⟨2, 4, (.cons (.set 2 (.lit (.int 0)))
  (.cons (.for_ (.one 3) (.seq (.slot 1))
  (.cons (.ite (.cmp .nin (.slot 3) (.ix (.slot 0) (.lit (.str "facts"))))
  (.cons (.app (.ix (.slot 0) (.lit (.str "facts"))) (.slot 3))
  (.cons (.aug 2 (.lit (.int 1)))
  .nil))
  .nil)
  (.cons (.ite (.cmp .ne (.ix (.slot 3) (.lit (.int 0))) (.lit (.str "off")))
  (.cons (.six (.slot 0) (.lit (.str "clock")) (.b2 .max (.ix (.slot 0) (.lit (.str "clock"))) (.ix (.ix (.slot 3) (.lit (.int 2))) (.lit (.int 0)))))
  .nil)
  .nil)
  .nil)))
  (.cons (.ret (.slot 2))
  .nil)))⟩
def c_law_told : Fn := ⟨2, 8, (.cons (.set 2 (.ix (.slot 0) (.lit (.str "world"))))
  (.cons (.unp (.many [3, 4]) (.slT (.slot 1) (.lit (.int 2))))
  (.cons (.ite (.or_ (.cmp .ge (.slot 4) (.ix (.slot 2) (.lit (.int 0)))) (.and_ (.cmp .in_ (.slot 3) (.tup (.cons (.lit (.str "send")) (.cons (.lit (.str "part")) Es.nil)))) (.cmp .ge (.ix (.slot 1) (.lit (.int 2))) (.ix (.slot 2) (.lit (.int 0))))))
  (.cons (.ret (.lit (.str "refused")))
  .nil)
  .nil)
  (.cons (.set 5 (.ix (.ix (.slot 0) (.lit (.str "copies"))) (.slot 4)))
  (.cons (.ite (.cmp .eq (.slot 3) (.lit (.str "wish")))
  (.cons (.ite (.cmp .eq (.ix (.slot 5) (.lit (.str "own"))) (.lit (.int 12)))
  (.cons (.ret (.lit (.str "refused")))
  .nil)
  .nil)
  (.cons (.set 6 (.tup (.cons (.slot 4) (.cons (.ix (.slot 5) (.lit (.str "own"))) Es.nil))))
  (.cons (.aix (.slot 5) (.lit (.str "own")) (.lit (.int 1)))
  (.cons (.ex (.call "_law_put" (.cons (.slot 5) (.cons (.list 0 (.cons (.tup (.cons (.lit (.str "wish")) (.cons (.slot 6) (.cons (.tup (.cons (.bin .add (.ix (.slot 5) (.lit (.str "clock"))) (.lit (.int 1))) (.cons (.slot 4) Es.nil))) (.cons (.ix (.slot 1) (.lit (.int 2))) Es.nil))))) Es.nil)) Es.nil))))
  (.cons (.ret (.slot 6))
  .nil)))))
  .nil)
  (.cons (.ite (.cmp .in_ (.slot 3) (.tup (.cons (.lit (.str "off")) (.cons (.lit (.str "pin")) Es.nil))))
  (.cons (.ret (.call "_law_told_of" (.cons (.slot 2) (.cons (.slot 5) (.cons (.slot 4) (.cons (.slot 1) Es.nil))))))
  .nil)
  .nil)
  (.cons (.ite (.cmp .eq (.slot 3) (.lit (.str "news")))
  (.cons (.ret (.call "_law_news" (.cons (.slot 2) (.cons (.slot 5) Es.nil))))
  .nil)
  .nil)
  (.cons (.set 7 (.b1 .sorted 0 (.ix (.slot 5) (.lit (.str "facts")))))
  (.cons (.ite (.cmp .eq (.slot 3) (.lit (.str "part")))
  (.cons (.ite (.not_ (.le3 (.lit (.int 0)) (.ix (.slot 1) (.lit (.int 3))) (.ix (.slot 1) (.lit (.int 4))) (.b1 .len 0 (.slot 7))))
  (.cons (.ret (.lit (.str "refused")))
  .nil)
  .nil)
  (.cons (.set 7 (.slB (.slot 7) (.ix (.slot 1) (.lit (.int 3))) (.ix (.slot 1) (.lit (.int 4)))))
  .nil))
  .nil)
  (.cons (.ret (.call "_law_put" (.cons (.ix (.ix (.slot 0) (.lit (.str "copies"))) (.ix (.slot 1) (.lit (.int 2)))) (.cons (.slot 7) Es.nil))))
  .nil))))))))))⟩
def c_law_told_of : Fn := ⟨4, 5, (.cons (.set 4 (.call "_law_standing" (.cons (.ix (.slot 1) (.lit (.str "facts"))) Es.nil)))
  (.cons (.ite (.cmp .nin (.ix (.slot 3) (.lit (.int 2))) (.slot 4))
  (.cons (.ret (.lit (.str "refused")))
  .nil)
  .nil)
  (.cons (.ite (.cmp .eq (.ix (.slot 3) (.lit (.int 0))) (.lit (.str "off")))
  (.cons (.ex (.call "_law_put" (.cons (.slot 1) (.cons (.list 0 (.cons (.tup (.cons (.lit (.str "off")) (.cons (.ix (.slot 3) (.lit (.int 2))) Es.nil))) Es.nil)) Es.nil))))
  (.cons (.ret (.lit .none))
  .nil))
  .nil)
  (.cons (.ite (.or_ (.not_ (.chain .le .lt (.lit (.int 0)) (.ix (.slot 3) (.lit (.int 3))) (.ix (.slot 0) (.lit (.int 1))))) (.not_ (.chain .le .le (.lit (.int 0)) (.ix (.slot 3) (.lit (.int 4))) (.bin .sub (.lit (.int 24)) (.ix (.ix (.ix (.slot 4) (.ix (.slot 3) (.lit (.int 2)))) (.lit (.int 1))) (.lit (.int 3)))))))
  (.cons (.ret (.lit (.str "refused")))
  .nil)
  .nil)
  (.cons (.ex (.call "_law_put" (.cons (.slot 1) (.cons (.list 0 (.cons (.tup (.cons (.lit (.str "pin")) (.cons (.ix (.slot 3) (.lit (.int 2))) (.cons (.tup (.cons (.bin .add (.ix (.slot 1) (.lit (.str "clock"))) (.lit (.int 1))) (.cons (.slot 2) Es.nil))) (.cons (.slF (.slot 3) (.lit (.int 3))) Es.nil))))) Es.nil)) Es.nil))))
  (.cons (.ret (.lit .none))
  .nil))))))⟩
def c_law_news : Fn := ⟨2, 6, (.cons (.set 2 (.call "_law_plan" (.cons (.slot 0) (.cons (.ix (.slot 1) (.lit (.str "facts"))) Es.nil))))
  (.cons (.set 3 (.list 1 Es.nil))
  (.cons (.for_ (.one 4) (.seq (.b1 .sortSet 0 (.bin .add (.b1 .list 0 (.slot 2)) (.b1 .list 0 (.ix (.slot 1) (.lit (.str "seen")))))))
  (.cons (.set 5 (.tup (.cons (.get (.ix (.slot 1) (.lit (.str "seen"))) (.slot 4) (.lit (.str "new"))) (.cons (.get (.slot 2) (.slot 4) (.lit (.str "off"))) Es.nil))))
  (.cons (.ite (.cmp .ne (.ix (.slot 5) (.lit (.int 0))) (.ix (.slot 5) (.lit (.int 1))))
  (.cons (.app (.slot 3) (.bin .add (.tup (.cons (.slot 4) Es.nil)) (.slot 5)))
  .nil)
  .nil)
  .nil)))
  (.cons (.six (.slot 1) (.lit (.str "seen")) (.slot 2))
  (.cons (.ret (.slot 3))
  .nil)))))⟩
def c_law_deed : Fn := ⟨2, 10, (.cons (.set 2 (.ix (.slot 0) (.lit (.str "world"))))
  (.cons (.set 3 (.bin .mod (.bin .fdiv (.slot 1) (.lit (.int 7))) (.ix (.slot 2) (.lit (.int 0)))))
  (.cons (.set 4 (.bin .mod (.bin .add (.bin .add (.slot 3) (.lit (.int 1))) (.bin .mod (.bin .fdiv (.slot 1) (.lit (.int 11))) (.b2 .max (.lit (.int 1)) (.bin .sub (.ix (.slot 2) (.lit (.int 0))) (.lit (.int 1)))))) (.ix (.slot 2) (.lit (.int 0)))))
  (.cons (.set 5 (.b1 .sorted 0 (.call "_law_standing" (.cons (.ix (.ix (.ix (.slot 0) (.lit (.str "copies"))) (.slot 3)) (.lit (.str "facts"))) Es.nil))))
  (.cons (.set 6 (.tup (.cons (.bin .mod (.bin .fdiv (.slot 1) (.lit (.int 13))) (.lit (.int 5))) (.cons (.bin .mod (.bin .fdiv (.slot 1) (.lit (.int 19))) (.lit (.int 12))) Es.nil))))
  (.cons (.ite (.and_ (.cmp .ne (.slot 5) (.list 0 Es.nil)) (.cmp .gt (.bin .mod (.bin .fdiv (.slot 1) (.lit (.int 17))) (.lit (.int 9))) (.lit (.int 0))))
  (.cons (.set 6 (.ix (.slot 5) (.bin .mod (.bin .fdiv (.slot 1) (.lit (.int 13))) (.b1 .len 0 (.slot 5)))))
  .nil)
  .nil)
  (.cons (.set 7 (.call "_law_pick" (.cons (.slot 1) (.cons (.lit (.int 20)) Es.nil))))
  (.cons (.ite (.cmp .lt (.slot 7) (.lit (.int 8)))
  (.cons (.ret (.tup (.cons (.lit (.str "wish")) (.cons (.slot 3) (.cons (.call "_law_wish" (.cons (.slot 2) (.cons (.call "_law_seed" (.cons (.slot 1) (.cons (.lit (.int 1)) Es.nil))) Es.nil))) Es.nil)))))
  .nil)
  .nil)
  (.cons (.ite (.cmp .lt (.slot 7) (.lit (.int 10)))
  (.cons (.ret (.tup (.cons (.lit (.str "off")) (.cons (.slot 3) (.cons (.slot 6) Es.nil)))))
  .nil)
  .nil)
  (.cons (.ite (.cmp .lt (.slot 7) (.lit (.int 13)))
  (.cons (.ret (.tup (.cons (.lit (.str "pin")) (.cons (.slot 3) (.cons (.slot 6) (.cons (.bin .mod (.bin .fdiv (.slot 1) (.lit (.int 23))) (.bin .add (.ix (.slot 2) (.lit (.int 1))) (.b1 .int 0 (.cmp .eq (.bin .mod (.bin .fdiv (.slot 1) (.lit (.int 29))) (.lit (.int 9))) (.lit (.int 0)))))) (.cons (.bin .mod (.bin .fdiv (.slot 1) (.lit (.int 31))) (.lit (.int 24))) Es.nil)))))))
  .nil)
  .nil)
  (.cons (.ite (.cmp .lt (.slot 7) (.lit (.int 16)))
  (.cons (.ret (.tup (.cons (.lit (.str "send")) (.cons (.slot 3) (.cons (.slot 4) Es.nil)))))
  .nil)
  .nil)
  (.cons (.ite (.cmp .lt (.slot 7) (.lit (.int 19)))
  (.cons (.set 8 (.b1 .len 0 (.ix (.ix (.ix (.slot 0) (.lit (.str "copies"))) (.slot 3)) (.lit (.str "facts")))))
  (.cons (.set 9 (.bin .mod (.bin .fdiv (.slot 1) (.lit (.int 23))) (.bin .add (.slot 8) (.lit (.int 1)))))
  (.cons (.ret (.tup (.cons (.lit (.str "part")) (.cons (.slot 3) (.cons (.slot 4) (.cons (.slot 9) (.cons (.bin .add (.slot 9) (.bin .mod (.bin .fdiv (.slot 1) (.lit (.int 29))) (.bin .add (.slot 8) (.lit (.int 2))))) Es.nil)))))))
  .nil)))
  .nil)
  (.cons (.ret (.tup (.cons (.lit (.str "news")) (.cons (.bin .add (.slot 3) (.b1 .int 0 (.cmp .eq (.bin .mod (.bin .fdiv (.slot 1) (.lit (.int 23))) (.lit (.int 12))) (.lit (.int 0))))) Es.nil))))
  .nil)))))))))))))⟩
def c_law_as : Fn := ⟨2, 2, (.cons (.ret (.and_ (.isi (.slot 0) .bool) (.cmp .eq (.slot 0) (.slot 1))))
  .nil)⟩
def c_law_in : Fn := ⟨3, 3, (.cons (.ret (.and_ (.isi (.slot 0) .int) (.and_ (.not_ (.isi (.slot 0) .bool)) (.chain .le .le (.slot 1) (.slot 0) (.slot 2)))))
  .nil)⟩
def c_law_is_world : Fn := ⟨1, 3, (.cons (.ite (.or_ (.not_ (.isi (.slot 0) .tuple)) (.or_ (.cmp .ne (.b1 .len 0 (.slot 0)) (.lit (.int 3))) (.or_ (.not_ (.call "_law_in" (.cons (.ix (.slot 0) (.lit (.int 0))) (.cons (.lit (.int 1)) (.cons (.lit (.int 5)) Es.nil))))) (.not_ (.call "_law_in" (.cons (.ix (.slot 0) (.lit (.int 1))) (.cons (.lit (.int 1)) (.cons (.lit (.int 3)) Es.nil))))))))
  (.cons (.ret (.lit (.bool false)))
  .nil)
  .nil)
  (.cons (.ite (.not_ (.isi (.ix (.slot 0) (.lit (.int 2))) .tuple))
  (.cons (.ret (.lit (.bool false)))
  .nil)
  .nil)
  (.cons (.for_ (.many [1, 2]) (.enum (.ix (.slot 0) (.lit (.int 2))))
  (.cons (.ite (.or_ (.not_ (.isi (.slot 2) .str)) (.or_ (.cmp .nin (.slot 2) (.tup (.cons (.lit (.str "rank")) (.cons (.lit (.str "first")) (.cons (.lit (.str "short")) (.cons (.lit (.str "early")) Es.nil)))))) (.cmp .in_ (.slot 2) (.slT (.ix (.slot 0) (.lit (.int 2))) (.slot 1)))))
  (.cons (.ret (.lit (.bool false)))
  .nil)
  .nil)
  .nil))
  (.cons (.ret (.lit (.bool true)))
  .nil))))⟩
def c_law_is_wish : Fn := ⟨2, 3, (.cons (.ite (.or_ (.not_ (.isi (.slot 1) .tuple)) (.or_ (.cmp .ne (.b1 .len 0 (.slot 1)) (.lit (.int 5))) (.not_ (.isi (.ix (.slot 1) (.lit (.int 0))) .str))))
  (.cons (.ret (.lit (.bool false)))
  .nil)
  .nil)
  (.cons (.ite (.or_ (.not_ (.chain .le .le (.lit (.int 1)) (.b1 .len 0 (.ix (.slot 1) (.lit (.int 0)))) (.lit (.int 4)))) (.cmp .ne (.lc 0 [2] (.slot 2) (.one 2) (.seq (.ix (.slot 1) (.lit (.int 0)))) (.cmp .nin (.slot 2) (.lit (.str "abcdefghijklmnopqrstuvwxyz")))) (.list 0 Es.nil)))
  (.cons (.ret (.lit (.bool false)))
  .nil)
  .nil)
  (.cons (.ite (.or_ (.not_ (.call "_law_in" (.cons (.ix (.slot 1) (.lit (.int 3))) (.cons (.lit (.int 1)) (.cons (.lit (.int 6)) Es.nil))))) (.not_ (.call "_law_in" (.cons (.ix (.slot 1) (.lit (.int 2))) (.cons (.lit (.int 0)) (.cons (.bin .sub (.lit (.int 24)) (.ix (.slot 1) (.lit (.int 3)))) Es.nil))))))
  (.cons (.ret (.lit (.bool false)))
  .nil)
  .nil)
  (.cons (.ret (.and_ (.call "_law_in" (.cons (.ix (.slot 1) (.lit (.int 1))) (.cons (.lit (.int 0)) (.cons (.bin .sub (.ix (.slot 0) (.lit (.int 1))) (.lit (.int 1))) Es.nil)))) (.call "_law_in" (.cons (.ix (.slot 1) (.lit (.int 4))) (.cons (.lit (.int 0)) (.cons (.lit (.int 9)) Es.nil))))))
  .nil))))⟩
def c_law_is_pair : Fn := ⟨3, 3, (.cons (.ite (.or_ (.not_ (.isi (.slot 0) .tuple)) (.cmp .ne (.b1 .len 0 (.slot 0)) (.lit (.int 2))))
  (.cons (.ret (.lit (.bool false)))
  .nil)
  .nil)
  (.cons (.ret (.and_ (.call "_law_in" (.cons (.ix (.slot 0) (.lit (.int 0))) (.cons (.ix (.slot 1) (.lit (.int 0))) (.cons (.ix (.slot 1) (.lit (.int 1))) Es.nil)))) (.call "_law_in" (.cons (.ix (.slot 0) (.lit (.int 1))) (.cons (.ix (.slot 2) (.lit (.int 0))) (.cons (.ix (.slot 2) (.lit (.int 1))) Es.nil))))))
  .nil))⟩
def c_law_is_fact : Fn := ⟨2, 2, (.cons (.ite (.or_ (.not_ (.isi (.slot 1) .tuple)) (.or_ (.cmp .lt (.b1 .len 0 (.slot 1)) (.lit (.int 2))) (.not_ (.isi (.ix (.slot 1) (.lit (.int 0))) .str))))
  (.cons (.ret (.lit (.bool false)))
  .nil)
  .nil)
  (.cons (.ite (.not_ (.call "_law_is_pair" (.cons (.ix (.slot 1) (.lit (.int 1))) (.cons (.tup (.cons (.lit (.int 0)) (.cons (.bin .sub (.ix (.slot 0) (.lit (.int 0))) (.lit (.int 1))) Es.nil))) (.cons (.tup (.cons (.lit (.int 0)) (.cons (.lit (.int 11)) Es.nil))) Es.nil)))))
  (.cons (.ret (.lit (.bool false)))
  .nil)
  .nil)
  (.cons (.ite (.cmp .eq (.ix (.slot 1) (.lit (.int 0))) (.lit (.str "off")))
  (.cons (.ret (.cmp .eq (.b1 .len 0 (.slot 1)) (.lit (.int 2))))
  .nil)
  .nil)
  (.cons (.ite (.or_ (.cmp .nin (.ix (.slot 1) (.lit (.int 0))) (.tup (.cons (.lit (.str "wish")) (.cons (.lit (.str "pin")) Es.nil)))) (.or_ (.cmp .ne (.b1 .len 0 (.slot 1)) (.lit (.int 4))) (.not_ (.call "_law_is_pair" (.cons (.ix (.slot 1) (.lit (.int 2))) (.cons (.tup (.cons (.lit (.int 1)) (.cons (.lit (.int 9999)) Es.nil))) (.cons (.tup (.cons (.lit (.int 0)) (.cons (.bin .sub (.ix (.slot 0) (.lit (.int 0))) (.lit (.int 1))) Es.nil))) Es.nil)))))))
  (.cons (.ret (.lit (.bool false)))
  .nil)
  .nil)
  (.cons (.ite (.cmp .eq (.ix (.slot 1) (.lit (.int 0))) (.lit (.str "pin")))
  (.cons (.ret (.call "_law_is_pair" (.cons (.ix (.slot 1) (.lit (.int 3))) (.cons (.tup (.cons (.lit (.int 0)) (.cons (.bin .sub (.ix (.slot 0) (.lit (.int 1))) (.lit (.int 1))) Es.nil))) (.cons (.tup (.cons (.lit (.int 0)) (.cons (.lit (.int 23)) Es.nil))) Es.nil)))))
  .nil)
  .nil)
  (.cons (.ret (.and_ (.cmp .eq (.ix (.ix (.slot 1) (.lit (.int 2))) (.lit (.int 1))) (.ix (.ix (.slot 1) (.lit (.int 1))) (.lit (.int 0)))) (.call "_law_is_wish" (.cons (.slot 0) (.cons (.ix (.slot 1) (.lit (.int 3))) Es.nil)))))
  .nil))))))⟩
def c_law_refusal : Fn := ⟨4, 5, (.cons (.set 4 (.lit (.str "")))
  (.cons (.try_ (.cons (.ite (.cmp .eq (.slot 0) (.lit (.int 0)))
  (.cons (.ex (.make (.cons (.slot 1) (.cons (.slot 2) Es.nil))))
  .nil)
  (.cons (.ite (.cmp .eq (.slot 0) (.lit (.int 1)))
  (.cons (.ex (.meth (.slot 2) "wish" (.cons (.slot 3) Es.nil)))
  .nil)
  (.cons (.ite (.cmp .eq (.slot 0) (.lit (.int 2)))
  (.cons (.ex (.meth (.slot 2) "heard" (.cons (.slot 3) Es.nil)))
  .nil)
  (.cons (.ex (.meth (.slot 2) "off" (.cons (.slot 3) Es.nil)))
  .nil))
  .nil))
  .nil))
  .nil) (.cons "BadWorld" (.cons (.set 4 (.lit (.str "world")))
  .nil) (.cons "BadCopy" (.cons (.set 4 (.lit (.str "copy")))
  .nil) (.cons "BadWish" (.cons (.set 4 (.lit (.str "wish")))
  .nil) (.cons "BadFacts" (.cons (.set 4 (.lit (.str "facts")))
  .nil) (.cons "NoBooking" (.cons (.set 4 (.lit (.str "booking")))
  .nil) .nil))))))
  (.cons (.ret (.slot 4))
  .nil)))⟩
def c_Copy_day : Fn := ⟨2, 7, (.cons (.ite (.not_ (.call "is_within" (.cons (.slot 1) (.cons (.lit (.int 0)) (.cons (.bin .sub (.ix (.attr (.slot 0) "world") (.lit (.int 1))) (.lit (.int 1))) Es.nil)))))
  (.cons (.raise "BadWish")
  .nil)
  .nil)
  (.cons (.set 2 (.rep 1 (.cons (.lit .none) Es.nil) (.lit (.int 24))))
  (.cons (.set 3 (.call "wishes_in" (.cons (.attr (.slot 0) "facts") Es.nil)))
  (.cons (.set 4 (.call "placed" (.cons (.attr (.slot 0) "world") (.cons (.attr (.slot 0) "facts") Es.nil))))
  (.cons (.forK (.one 5) 4
  (.cons (.ite (.and_ (.cmp .isn (.ix (.slot 4) (.slot 5)) (.lit .none)) (.cmp .eq (.ix (.ix (.slot 4) (.slot 5)) (.lit (.int 0))) (.slot 1)))
  (.cons (.for_ (.one 6) (.rng1 (.ix (.ix (.ix (.slot 3) (.slot 5)) (.lit (.int 1))) (.lit (.int 3))))
  (.cons (.six (.slot 2) (.bin .add (.ix (.ix (.slot 4) (.slot 5)) (.lit (.int 1))) (.slot 6)) (.slot 5))
  .nil))
  .nil)
  .nil)
  .nil))
  (.cons (.ret (.slot 2))
  .nil))))))⟩
def c_run : Fn := ⟨2, 4, (.cons (.set 2 (.call "far" (.cons (.slot 0) Es.nil)))
  (.cons (.ite (.or_ (.not_ (.isi (.slot 1) .list)) (.lc 0 [3] (.slot 3) (.one 3) (.seq (.slot 1)) (.not_ (.call "is_deed" (.cons (.slot 3) Es.nil)))))
  (.cons (.raise "BadDeed")
  .nil)
  .nil)
  (.cons (.ret (.tup (.cons (.slot 2) (.cons (.lc 0 [3] (.call "do" (.cons (.slot 2) (.cons (.slot 3) Es.nil))) (.one 3) (.seq (.slot 1)) (.lit (.bool true))) Es.nil))))
  .nil)))⟩
def c_at_rest : Fn := ⟨1, 2, (.cons (.ret (.not_ (.lc 0 [1] (.slot 1) (.one 1) (.seq (.slot 0)) (.cmp .ne (.meth (.slot 1) "told" Es.nil) (.meth (.ix (.slot 0) (.lit (.int 0))) "told" Es.nil)))))
  .nil)⟩
def c_unlike : Fn := ⟨2, 6, (.cons (.set 2 (.b1 .dict 0 (.meth (.slot 0) "places" Es.nil)))
  (.cons (.set 3 (.b1 .dict 0 (.meth (.slot 1) "places" Es.nil)))
  (.cons (.set 4 (.b1 .sortSet 0 (.bin .add (.b1 .list 0 (.slot 2)) (.b1 .list 0 (.slot 3)))))
  (.cons (.ret (.lc 0 [5] (.slot 5) (.one 5) (.seq (.slot 4)) (.cmp .ne (.get (.slot 2) (.slot 5) (.lit (.int 0))) (.get (.slot 3) (.slot 5) (.lit (.int 0))))))
  .nil))))⟩
def c_spread : Fn := ⟨1, 3, (.cons (.for_ (.one 1) (.seq (.slot 0))
  (.cons (.for_ (.one 2) (.seq (.slot 0))
  (.cons (.ite (.cmp .ne (.attr (.slot 1) "mine") (.attr (.slot 2) "mine"))
  (.cons (.ex (.meth (.slot 2) "heard" (.cons (.meth (.slot 1) "told" Es.nil) Es.nil)))
  .nil)
  .nil)
  .nil))
  .nil))
  .nil)⟩
def c_law_made : Fn := ⟨3, 9, (.cons (.set 3 (.call "_law_first" (.cons (.slot 0) Es.nil)))
  (.cons (.set 4 (.list 1 Es.nil))
  (.cons (.for_ (.one 5) (.rng1 (.call "_law_mix" (.cons (.call "_law_cell" (.cons (.slot 1) (.cons (.lit (.int 1)) Es.nil))) (.cons (.lit (.int 9949)) (.cons (.slot 2) Es.nil)))))
  (.cons (.app (.slot 4) (.call "_law_deed" (.cons (.slot 3) (.cons (.call "_law_seed" (.cons (.bin .add (.call "_law_cell" (.cons (.slot 1) (.cons (.bin .add (.lit (.int 2)) (.bin .mod (.slot 5) (.lit (.int 8)))) Es.nil))) (.bin .mul (.lit (.int 61)) (.slot 5))) (.cons (.slot 5) Es.nil))) Es.nil))))
  (.cons (.ex (.call "_law_told" (.cons (.slot 3) (.cons (.ix (.slot 4) (.neg (.lit (.int 1)))) Es.nil))))
  .nil)))
  (.cons (.set 6 (.list 0 Es.nil))
  (.cons (.for_ (.one 7) (.seq (.ix (.slot 3) (.lit (.str "copies"))))
  (.cons (.set 6 (.bin .add (.slot 6) (.lc 0 [8] (.slot 8) (.one 8) (.seq (.ix (.slot 7) (.lit (.str "facts")))) (.cmp .nin (.slot 8) (.slot 6)))))
  .nil))
  (.cons (.ret (.tup (.cons (.ix (.call "run" (.cons (.slot 0) (.cons (.slot 4) Es.nil))) (.lit (.int 0))) (.cons (.b1 .sorted 0 (.slot 6)) Es.nil))))
  .nil))))))⟩
def c_law_is_plan : Fn := ⟨2, 8, (.cons (.set 2 (.call "_law_standing" (.cons (.b1 .list 0 (.meth (.slot 1) "told" Es.nil)) Es.nil)))
  (.cons (.set 3 (.lc 0 [4] (.rep 0 (.cons (.lit .none) Es.nil) (.lit (.int 24))) (.one 4) (.rng1 (.ix (.slot 0) (.lit (.int 1)))) (.lit (.bool true))))
  (.cons (.ite (.cmp .ne (.lc 0 [5, 6] (.slot 5) (.many [5, 6]) (.seq (.meth (.slot 1) "places" Es.nil)) (.lit (.bool true))) (.b1 .sorted 0 (.slot 2)))
  (.cons (.ret (.lit (.bool false)))
  .nil)
  .nil)
  (.cons (.for_ (.many [5, 6]) (.seq (.meth (.slot 1) "places" Es.nil))
  (.cons (.ite (.cmp .isn (.slot 6) (.lit .none))
  (.cons (.for_ (.one 7) (.rng2 (.ix (.slot 6) (.lit (.int 1))) (.bin .add (.ix (.slot 6) (.lit (.int 1))) (.ix (.ix (.ix (.slot 2) (.slot 5)) (.lit (.int 1))) (.lit (.int 3)))))
  (.cons (.ite (.or_ (.not_ (.chain .le .lt (.lit (.int 0)) (.slot 7) (.lit (.int 24)))) (.cmp .isn (.ix (.ix (.slot 3) (.ix (.slot 6) (.lit (.int 0)))) (.slot 7)) (.lit .none)))
  (.cons (.ret (.lit (.bool false)))
  .nil)
  .nil)
  (.cons (.six (.ix (.slot 3) (.ix (.slot 6) (.lit (.int 0)))) (.slot 7) (.slot 5))
  .nil)))
  .nil)
  .nil)
  .nil))
  (.cons (.ret (.cmp .eq (.lc 0 [4] (.meth (.slot 1) "day" (.cons (.slot 4) Es.nil)) (.one 4) (.rng1 (.ix (.slot 0) (.lit (.int 1)))) (.lit (.bool true))) (.slot 3)))
  .nil)))))⟩
def c_law_shifted : Fn := ⟨1, 2, (.cons (.set 1 (.tup (.cons (.bin .add (.ix (.ix (.slot 0) (.lit (.int 1))) (.lit (.int 0))) (.lit (.int 1))) (.cons (.ix (.ix (.slot 0) (.lit (.int 1))) (.lit (.int 1))) Es.nil))))
  (.cons (.ite (.cmp .eq (.ix (.slot 0) (.lit (.int 0))) (.lit (.str "off")))
  (.cons (.ret (.tup (.cons (.lit (.str "off")) (.cons (.slot 1) Es.nil))))
  .nil)
  .nil)
  (.cons (.ret (.tup (.cons (.ix (.slot 0) (.lit (.int 0))) (.cons (.slot 1) (.cons (.tup (.cons (.ix (.ix (.slot 0) (.lit (.int 2))) (.lit (.int 0))) (.cons (.bin .add (.ix (.ix (.slot 0) (.lit (.int 2))) (.lit (.int 1))) (.lit (.int 1))) Es.nil))) (.cons (.ix (.slot 0) (.lit (.int 3))) Es.nil))))))
  .nil)))⟩
def c_law_word : Fn := ⟨4, 5, (.cons (.set 4 (.lit (.str "")))
  (.cons (.try_ (.cons (.ex (.call "_law_asked" (.cons (.slot 0) (.cons (.slot 1) (.cons (.slot 2) (.cons (.slot 3) Es.nil))))))
  .nil) (.cons "NoBooking" (.cons (.set 4 (.lit (.str "booking")))
  .nil) (.cons "BadWish" (.cons (.set 4 (.lit (.str "wish")))
  .nil) (.cons "BadWord" (.cons (.set 4 (.lit (.str "word")))
  .nil) (.cons "Full" (.cons (.set 4 (.lit (.str "full")))
  .nil) .nil)))))
  (.cons (.ret (.slot 4))
  .nil)))⟩
def c_law_asked : Fn := ⟨4, 4, (.cons (.ite (.cmp .eq (.slot 0) (.lit (.int 0)))
  (.cons (.ret (.meth (.slot 1) "off" (.cons (.slot 2) Es.nil)))
  .nil)
  .nil)
  (.cons (.ite (.cmp .eq (.slot 0) (.lit (.int 1)))
  (.cons (.ret (.meth (.slot 1) "pin" (.cons (.slot 2) (.cons (.ix (.slot 3) (.lit (.int 0))) (.cons (.ix (.slot 3) (.lit (.int 1))) Es.nil)))))
  .nil)
  .nil)
  (.cons (.ite (.cmp .eq (.slot 0) (.lit (.int 2)))
  (.cons (.ret (.meth (.slot 1) "place" (.cons (.slot 2) Es.nil)))
  .nil)
  .nil)
  (.cons (.ite (.cmp .eq (.slot 0) (.lit (.int 3)))
  (.cons (.ret (.meth (.slot 1) "day" (.cons (.slot 2) Es.nil)))
  .nil)
  .nil)
  (.cons (.ret (.ife (.cmp .eq (.slot 0) (.lit (.int 4))) (.meth (.slot 1) "listed" (.cons (.slot 2) Es.nil)) (.meth (.slot 1) "wish" (.cons (.slot 2) Es.nil))))
  .nil)))))⟩
def c_law_deeds_of : Fn := ⟨1, 4, (.cons (.set 1 (.tup (.cons (.lit (.int 1)) (.cons (.lit (.int 1)) (.cons (.tup Es.nil) Es.nil)))))
  (.cons (.ite (.cmp .eq (.slot 0) (.lit (.int 0)))
  (.cons (.ret (.call "far" (.cons (.lit .none) Es.nil)))
  .nil)
  .nil)
  (.cons (.ite (.cmp .eq (.slot 0) (.lit (.int 1)))
  (.cons (.ret (.make (.cons (.slot 1) (.cons (.lit (.int 1)) Es.nil))))
  .nil)
  .nil)
  (.cons (.set 2 (.make (.cons (.slot 1) (.cons (.lit (.int 0)) Es.nil))))
  (.cons (.ite (.cmp .eq (.slot 0) (.lit (.int 2)))
  (.cons (.ret (.meth (.slot 2) "wish" (.cons (.lit .none) Es.nil)))
  .nil)
  .nil)
  (.cons (.ite (.cmp .eq (.slot 0) (.lit (.int 3)))
  (.cons (.ret (.meth (.slot 2) "listed" (.cons (.lit (.str "all")) Es.nil)))
  .nil)
  .nil)
  (.cons (.ite (.cmp .eq (.slot 0) (.lit (.int 4)))
  (.cons (.ret (.meth (.slot 2) "off" (.cons (.tup (.cons (.lit (.int 0)) (.cons (.lit (.int 0)) Es.nil))) Es.nil)))
  .nil)
  .nil)
  (.cons (.ite (.cmp .eq (.slot 0) (.lit (.int 5)))
  (.cons (.ret (.lc 0 [3] (.meth (.slot 2) "wish" (.cons (.tup (.cons (.lit (.str "a")) (.cons (.lit (.int 0)) (.cons (.lit (.int 0)) (.cons (.lit (.int 1)) (.cons (.lit (.int 0)) Es.nil)))))) Es.nil)) (.one 3) (.rng1 (.lit (.int 13))) (.lit (.bool true))))
  .nil)
  .nil)
  (.cons (.ret (.ife (.cmp .eq (.slot 0) (.lit (.int 6))) (.meth (.slot 2) "heard" (.cons (.lit .none) Es.nil)) (.call "do" (.cons (.list 0 (.cons (.slot 2) Es.nil)) (.cons (.lit .none) Es.nil)))))
  .nil)))))))))⟩
def c_planned : Fn := ⟨2, 4, (.cons (.ex (.call "look_world" (.cons (.slot 0) Es.nil)))
  (.cons (.ex (.call "look_facts" (.cons (.slot 0) (.cons (.slot 1) Es.nil))))
  (.cons (.set 2 (.call "placed" (.cons (.slot 0) (.cons (.slot 1) Es.nil))))
  (.cons (.ret (.lc 0 [3] (.tup (.cons (.slot 3) (.cons (.ix (.slot 2) (.slot 3)) Es.nil))) (.one 3) (.seq (.b1 .sorted 0 (.slot 2))) (.lit (.bool true))))
  .nil))))⟩
def c_free_places : Fn := ⟨2, 7, (.cons (.ite (.not_ (.call "is_within" (.cons (.slot 1) (.cons (.lit (.int 1)) (.cons (.glob "MOST_LONG") Es.nil)))))
  (.cons (.raise "BadWish")
  .nil)
  .nil)
  (.cons (.set 2 (.dnil 1))
  (.cons (.for_ (.one 3) (.rng1 (.ix (.attr (.slot 0) "world") (.lit (.int 1))))
  (.cons (.for_ (.many [4, 5]) (.enum (.meth (.slot 0) "day" (.cons (.slot 3) Es.nil)))
  (.cons (.ite (.cmp .isn (.slot 5) (.lit .none))
  (.cons (.six (.slot 2) (.tup (.cons (.slot 3) (.cons (.slot 4) Es.nil))) (.slot 5))
  .nil)
  .nil)
  .nil))
  .nil))
  (.cons (.set 6 (.list 1 Es.nil))
  (.cons (.for_ (.one 3) (.rng1 (.ix (.attr (.slot 0) "world") (.lit (.int 1))))
  (.cons (.ext (.slot 6) (.lc 0 [4] (.tup (.cons (.slot 3) (.cons (.slot 4) Es.nil))) (.one 4) (.rng1 (.bin .add (.bin .sub (.glob "HOURS") (.slot 1)) (.lit (.int 1)))) (.call "is_free" (.cons (.slot 2) (.cons (.slot 3) (.cons (.slot 4) (.cons (.slot 1) Es.nil)))))))
  .nil))
  (.cons (.ret (.slot 6))
  .nil))))))⟩
def c_twin : Fn := ⟨1, 2, (.cons (.set 1 (.make (.cons (.attr (.slot 0) "world") (.cons (.attr (.slot 0) "mine") Es.nil))))
  (.cons (.sat (.slot 1) "facts" (.b1 .list 2 (.attr (.slot 0) "facts")))
  (.cons (.sat (.slot 1) "clock" (.attr (.slot 0) "clock"))
  (.cons (.sat (.slot 1) "own" (.attr (.slot 0) "own"))
  (.cons (.sat (.slot 1) "seen" (.b1 .dict 0 (.attr (.slot 0) "seen")))
  (.cons (.ret (.slot 1))
  .nil))))))⟩
def c_changes : Fn := ⟨2, 3, (.cons (.ret (.lc 0 [2] (.tup (.cons (.slot 2) (.cons (.ix (.slot 0) (.slot 2)) (.cons (.ix (.slot 1) (.slot 2)) Es.nil)))) (.one 2) (.seq (.b1 .sorted 0 (.slot 0))) (.and_ (.cmp .in_ (.slot 2) (.slot 1)) (.cmp .ne (.ix (.slot 0) (.slot 2)) (.ix (.slot 1) (.slot 2))))))
  .nil)⟩
def c_foretold : Fn := ⟨2, 5, (.cons (.set 2 (.call "twin" (.cons (.slot 0) Es.nil)))
  (.cons (.set 3 (.meth (.slot 2) "wish" (.cons (.slot 1) Es.nil)))
  (.cons (.set 4 (.call "placed" (.cons (.attr (.slot 2) "world") (.cons (.attr (.slot 2) "facts") Es.nil))))
  (.cons (.ret (.tup (.cons (.slot 3) (.cons (.ix (.slot 4) (.slot 3)) (.cons (.call "changes" (.cons (.call "placed" (.cons (.attr (.slot 0) "world") (.cons (.attr (.slot 0) "facts") Es.nil))) (.cons (.slot 4) Es.nil))) Es.nil)))))
  .nil))))⟩
def c_if_off : Fn := ⟨2, 3, (.cons (.set 2 (.call "twin" (.cons (.slot 0) Es.nil)))
  (.cons (.ex (.meth (.slot 2) "off" (.cons (.slot 1) Es.nil)))
  (.cons (.ret (.call "changes" (.cons (.call "placed" (.cons (.attr (.slot 0) "world") (.cons (.attr (.slot 0) "facts") Es.nil))) (.cons (.call "placed" (.cons (.attr (.slot 2) "world") (.cons (.attr (.slot 2) "facts") Es.nil))) Es.nil))))
  .nil)))⟩
def c_pair_text : Fn := ⟨1, 1, (.cons (.ret (.bin .add (.bin .add (.b1 .str 0 (.ix (.slot 0) (.lit (.int 0)))) (.lit (.str "."))) (.b1 .str 0 (.ix (.slot 0) (.lit (.int 1))))))
  .nil)⟩
def c_line_of : Fn := ⟨1, 3, (.cons (.set 1 (.list 0 (.cons (.ix (.slot 0) (.lit (.int 0))) (.cons (.call "pair_text" (.cons (.ix (.slot 0) (.lit (.int 1))) Es.nil)) Es.nil))))
  (.cons (.ite (.cmp .ne (.ix (.slot 0) (.lit (.int 0))) (.lit (.str "off")))
  (.cons (.set 1 (.bin .add (.bin .add (.slot 1) (.list 0 (.cons (.call "pair_text" (.cons (.ix (.slot 0) (.lit (.int 2))) Es.nil)) Es.nil))) (.lc 0 [2] (.b1 .str 0 (.slot 2)) (.one 2) (.seq (.ix (.slot 0) (.lit (.int 3)))) (.lit (.bool true)))))
  .nil)
  .nil)
  (.cons (.ret (.b2 .join (.lit (.str " ")) (.slot 1)))
  .nil)))⟩
def c_facts_text : Fn := ⟨2, 3, (.cons (.ex (.call "look_world" (.cons (.slot 0) Es.nil)))
  (.cons (.ex (.call "look_facts" (.cons (.slot 0) (.cons (.slot 1) Es.nil))))
  (.cons (.ret (.b2 .join (.lit (.str "\n")) (.lc 0 [2] (.call "line_of" (.cons (.slot 2) Es.nil)) (.one 2) (.seq (.slot 1)) (.lit (.bool true)))))
  .nil)))⟩
def c_number_of : Fn := ⟨1, 2, (.cons (.ite (.or_ (.not_ (.chain .le .le (.lit (.int 1)) (.b1 .len 0 (.slot 0)) (.lit (.int 4)))) (.or_ (.lc 0 [1] (.slot 1) (.one 1) (.seq (.slot 0)) (.cmp .nin (.slot 1) (.glob "FIGURES"))) (.cmp .ne (.b1 .str 0 (.b1 .int 0 (.slot 0))) (.slot 0))))
  (.cons (.raise "BadText")
  .nil)
  .nil)
  (.cons (.ret (.b1 .int 0 (.slot 0)))
  .nil))⟩
def c_pair_of : Fn := ⟨1, 2, (.cons (.set 1 (.b2 .split (.slot 0) (.lit (.str "."))))
  (.cons (.ite (.cmp .ne (.b1 .len 0 (.slot 1)) (.lit (.int 2)))
  (.cons (.raise "BadText")
  .nil)
  .nil)
  (.cons (.ret (.tup (.cons (.call "number_of" (.cons (.ix (.slot 1) (.lit (.int 0))) Es.nil)) (.cons (.call "number_of" (.cons (.ix (.slot 1) (.lit (.int 1))) Es.nil)) Es.nil))))
  .nil)))⟩
def c_fact_of : Fn := ⟨1, 4, (.cons (.set 1 (.b2 .split (.slot 0) (.lit (.str " "))))
  (.cons (.ite (.and_ (.cmp .eq (.ix (.slot 1) (.lit (.int 0))) (.lit (.str "off"))) (.cmp .eq (.b1 .len 0 (.slot 1)) (.lit (.int 2))))
  (.cons (.ret (.tup (.cons (.lit (.str "off")) (.cons (.call "pair_of" (.cons (.ix (.slot 1) (.lit (.int 1))) Es.nil)) Es.nil))))
  .nil)
  .nil)
  (.cons (.ite (.and_ (.cmp .eq (.ix (.slot 1) (.lit (.int 0))) (.lit (.str "pin"))) (.cmp .eq (.b1 .len 0 (.slot 1)) (.lit (.int 5))))
  (.cons (.ret (.tup (.cons (.lit (.str "pin")) (.cons (.call "pair_of" (.cons (.ix (.slot 1) (.lit (.int 1))) Es.nil)) (.cons (.call "pair_of" (.cons (.ix (.slot 1) (.lit (.int 2))) Es.nil)) (.cons (.tup (.cons (.call "number_of" (.cons (.ix (.slot 1) (.lit (.int 3))) Es.nil)) (.cons (.call "number_of" (.cons (.ix (.slot 1) (.lit (.int 4))) Es.nil)) Es.nil))) Es.nil))))))
  .nil)
  .nil)
  (.cons (.ite (.or_ (.cmp .ne (.ix (.slot 1) (.lit (.int 0))) (.lit (.str "wish"))) (.cmp .ne (.b1 .len 0 (.slot 1)) (.lit (.int 8))))
  (.cons (.raise "BadText")
  .nil)
  .nil)
  (.cons (.set 2 (.b1 .tuple 0 (.lc 0 [3] (.call "number_of" (.cons (.slot 3) Es.nil)) (.one 3) (.seq (.slF (.slot 1) (.lit (.int 4)))) (.lit (.bool true)))))
  (.cons (.ret (.tup (.cons (.lit (.str "wish")) (.cons (.call "pair_of" (.cons (.ix (.slot 1) (.lit (.int 1))) Es.nil)) (.cons (.call "pair_of" (.cons (.ix (.slot 1) (.lit (.int 2))) Es.nil)) (.cons (.bin .add (.tup (.cons (.ix (.slot 1) (.lit (.int 3))) Es.nil)) (.slot 2)) Es.nil))))))
  .nil))))))⟩
def c_read_facts : Fn := ⟨2, 5, (.cons (.ex (.call "look_world" (.cons (.slot 0) Es.nil)))
  (.cons (.ite (.not_ (.isi (.slot 1) .str))
  (.cons (.raise "BadText")
  .nil)
  .nil)
  (.cons (.set 2 (.ife (.cmp .ne (.slot 1) (.lit (.str ""))) (.b1 .tuple 0 (.lc 0 [3] (.call "fact_of" (.cons (.slot 3) Es.nil)) (.one 3) (.seq (.b2 .split (.slot 1) (.lit (.str "\n")))) (.lit (.bool true)))) (.tup Es.nil)))
  (.cons (.ite (.lc 0 [4] (.slot 4) (.one 4) (.seq (.slot 2)) (.not_ (.call "is_fact" (.cons (.slot 0) (.cons (.slot 4) Es.nil)))))
  (.cons (.raise "BadText")
  .nil)
  .nil)
  (.cons (.ret (.slot 2))
  .nil)))))⟩
def c_law_world_deeds : Fn := ⟨2, 7, (.cons (.set 2 (.call "_law_world" (.cons (.call "_law_cell" (.cons (.slot 0) (.cons (.lit (.int 0)) Es.nil))) Es.nil)))
  (.cons (.par 3 4 (.call "far" (.cons (.slot 2) Es.nil)) (.call "_law_first" (.cons (.slot 2) Es.nil)))
  (.cons (.for_ (.one 5) (.rng1 (.call "_law_mix" (.cons (.call "_law_cell" (.cons (.slot 0) (.cons (.lit (.int 1)) Es.nil))) (.cons (.lit (.int 9949)) (.cons (.slot 1) Es.nil)))))
  (.cons (.set 6 (.call "_law_deed" (.cons (.slot 4) (.cons (.call "_law_seed" (.cons (.bin .add (.call "_law_cell" (.cons (.slot 0) (.cons (.bin .add (.lit (.int 2)) (.bin .mod (.slot 5) (.lit (.int 8)))) Es.nil))) (.bin .mul (.lit (.int 61)) (.slot 5))) (.cons (.slot 5) Es.nil))) Es.nil))))
  (.cons (.ex (.call "do" (.cons (.slot 3) (.cons (.slot 6) Es.nil))))
  (.cons (.ex (.call "_law_told" (.cons (.slot 4) (.cons (.slot 6) Es.nil))))
  .nil))))
  (.cons (.ret (.tup (.cons (.slot 2) (.cons (.slot 3) (.cons (.slot 4) Es.nil)))))
  .nil))))⟩
def c_law_changes : Fn := ⟨2, 3, (.cons (.ret (.lc 0 [2] (.tup (.cons (.slot 2) (.cons (.ix (.slot 0) (.slot 2)) (.cons (.ix (.slot 1) (.slot 2)) Es.nil)))) (.one 2) (.seq (.b1 .sorted 0 (.slot 0))) (.and_ (.cmp .in_ (.slot 2) (.slot 1)) (.cmp .ne (.ix (.slot 0) (.slot 2)) (.ix (.slot 1) (.slot 2))))))
  .nil)⟩
def c_law_copy_word : Fn := ⟨3, 4, (.cons (.set 3 (.lit (.str "")))
  (.cons (.try_ (.cons (.ex (.call "_law_copy_asked" (.cons (.slot 0) (.cons (.slot 1) (.cons (.slot 2) Es.nil)))))
  .nil) (.cons "BadWorld" (.cons (.set 3 (.lit (.str "world")))
  .nil) (.cons "BadWish" (.cons (.set 3 (.lit (.str "wish")))
  .nil) (.cons "NoBooking" (.cons (.set 3 (.lit (.str "booking")))
  .nil) (.cons "Full" (.cons (.set 3 (.lit (.str "full")))
  .nil) (.cons "BadFacts" (.cons (.set 3 (.lit (.str "facts")))
  .nil) (.cons "BadText" (.cons (.set 3 (.lit (.str "text")))
  .nil) .nil)))))))
  (.cons (.ret (.slot 3))
  .nil)))⟩
def c_law_copy_asked : Fn := ⟨3, 3, (.cons (.ite (.cmp .lt (.slot 0) (.lit (.int 3)))
  (.cons (.ret (.ife (.cmp .eq (.slot 0) (.lit (.int 0))) (.call "free_places" (.cons (.slot 1) (.cons (.slot 2) Es.nil))) (.ife (.cmp .eq (.slot 0) (.lit (.int 1))) (.call "foretold" (.cons (.slot 1) (.cons (.slot 2) Es.nil))) (.call "if_off" (.cons (.slot 1) (.cons (.slot 2) Es.nil))))))
  .nil)
  .nil)
  (.cons (.ite (.cmp .lt (.slot 0) (.lit (.int 5)))
  (.cons (.ret (.ife (.cmp .eq (.slot 0) (.lit (.int 3))) (.call "planned" (.cons (.slot 1) (.cons (.slot 2) Es.nil))) (.call "facts_text" (.cons (.slot 1) (.cons (.slot 2) Es.nil)))))
  .nil)
  .nil)
  (.cons (.ret (.call "read_facts" (.cons (.slot 1) (.cons (.slot 2) Es.nil))))
  .nil)))⟩
def c_lacks : Fn := ⟨2, 3, (.cons (.ret (.b1 .tuple 0 (.lc 0 [2] (.slot 2) (.one 2) (.seq (.meth (.slot 1) "told" Es.nil)) (.cmp .nin (.slot 2) (.attr (.slot 0) "facts")))))
  .nil)⟩
def c_all_facts : Fn := ⟨1, 4, (.cons (.set 1 (.dnil 1))
  (.cons (.for_ (.one 2) (.seq (.slot 0))
  (.cons (.for_ (.one 3) (.seq (.meth (.slot 2) "told" Es.nil))
  (.cons (.six (.slot 1) (.slot 3) (.lit (.bool true)))
  .nil))
  .nil))
  (.cons (.ret (.b1 .tuple 0 (.b1 .sorted 0 (.slot 1))))
  .nil)))⟩
def c_known_to_all : Fn := ⟨1, 3, (.cons (.ret (.b1 .tuple 0 (.lc 0 [1] (.slot 1) (.one 1) (.seq (.call "all_facts" (.cons (.slot 0) Es.nil))) (.not_ (.lc 0 [2] (.slot 2) (.one 2) (.seq (.slot 0)) (.cmp .nin (.slot 1) (.attr (.slot 2) "facts")))))))
  .nil)⟩
def c_lacking : Fn := ⟨1, 2, (.cons (.ret (.lc 0 [1] (.bin .sub (.b1 .len 0 (.call "all_facts" (.cons (.slot 0) Es.nil))) (.b1 .len 0 (.attr (.slot 1) "facts"))) (.one 1) (.seq (.slot 0)) (.lit (.bool true))))
  .nil)⟩
def c_agreed : Fn := ⟨1, 5, (.cons (.set 1 (.lc 0 [2] (.meth (.slot 2) "places" Es.nil) (.one 2) (.seq (.slot 0)) (.lit (.bool true))))
  (.cons (.ret (.lc 0 [3] (.slot 3) (.one 3) (.seq (.ife (.slot 1) (.ix (.slot 1) (.lit (.int 0))) (.list 0 Es.nil))) (.not_ (.lc 0 [4] (.slot 4) (.one 4) (.seq (.slot 1)) (.cmp .nin (.slot 3) (.slot 4))))))
  .nil))⟩
def c_hours_taken : Fn := ⟨1, 2, (.cons (.ret (.lc 0 [1] (.bin .sub (.glob "HOURS") (.b2 .count (.meth (.slot 0) "day" (.cons (.slot 1) Es.nil)) (.lit .none))) (.one 1) (.rng1 (.ix (.attr (.slot 0) "world") (.lit (.int 1)))) (.lit (.bool true))))
  .nil)⟩
def c_longest_free : Fn := ⟨1, 6, (.cons (.set 1 (.lit .none))
  (.cons (.for_ (.one 2) (.rng1 (.ix (.attr (.slot 0) "world") (.lit (.int 1))))
  (.cons (.set 3 (.meth (.slot 0) "day" (.cons (.slot 2) Es.nil)))
  (.cons (.for_ (.one 4) (.rng1 (.glob "HOURS"))
  (.cons (.set 5 (.lit (.int 0)))
  (.cons (.whl 200 (.and_ (.cmp .lt (.bin .add (.slot 4) (.slot 5)) (.glob "HOURS")) (.cmp .is_ (.ix (.slot 3) (.bin .add (.slot 4) (.slot 5))) (.lit .none)))
  (.cons (.aug 5 (.lit (.int 1)))
  .nil))
  (.cons (.ite (.and_ (.cmp .gt (.slot 5) (.lit (.int 0))) (.or_ (.cmp .is_ (.slot 1) (.lit .none)) (.cmp .gt (.slot 5) (.ix (.slot 1) (.lit (.int 0))))))
  (.cons (.set 1 (.tup (.cons (.slot 5) (.cons (.slot 2) (.cons (.slot 4) Es.nil)))))
  .nil)
  .nil)
  .nil))))
  .nil)))
  (.cons (.ret (.slot 1))
  .nil)))⟩
def c_ways_off : Fn := ⟨1, 10, (.cons (.set 1 (.call "wishes_in" (.cons (.attr (.slot 0) "facts") Es.nil)))
  (.cons (.set 2 (.call "placed" (.cons (.attr (.slot 0) "world") (.cons (.attr (.slot 0) "facts") Es.nil))))
  (.cons (.set 3 (.list 1 Es.nil))
  (.cons (.for_ (.one 4) (.seq (.b1 .sorted 0 (.slot 2)))
  (.cons (.ite (.cmp .isn (.ix (.slot 2) (.slot 4)) (.lit .none))
  (.cons (.unp (.many [5, 6, 7, 8, 9]) (.ix (.ix (.slot 1) (.slot 4)) (.lit (.int 1))))
  (.cons (.app (.slot 3) (.tup (.cons (.slot 4) (.cons (.b1 .abs 0 (.bin .sub (.ix (.ix (.slot 2) (.slot 4)) (.lit (.int 0))) (.slot 6))) (.cons (.b1 .abs 0 (.bin .sub (.ix (.ix (.slot 2) (.slot 4)) (.lit (.int 1))) (.slot 7))) Es.nil)))))
  .nil))
  .nil)
  .nil))
  (.cons (.ret (.slot 3))
  .nil)))))⟩
def c_by_name : Fn := ⟨2, 4, (.cons (.set 2 (.call "wishes_in" (.cons (.attr (.slot 0) "facts") Es.nil)))
  (.cons (.ret (.lc 0 [3] (.slot 3) (.one 3) (.seq (.b1 .sorted 0 (.slot 2))) (.cmp .eq (.ix (.ix (.ix (.slot 2) (.slot 3)) (.lit (.int 1))) (.lit (.int 0))) (.slot 1))))
  .nil))⟩
def c_law_facts_text : Fn := ⟨1, 5, (.cons (.set 1 (.list 1 Es.nil))
  (.cons (.for_ (.one 2) (.seq (.slot 0))
  (.cons (.set 3 (.list 0 (.cons (.ix (.slot 2) (.lit (.int 0))) (.cons (.b2 .join (.lit (.str ".")) (.lc 0 [4] (.b1 .str 0 (.slot 4)) (.one 4) (.seq (.ix (.slot 2) (.lit (.int 1)))) (.lit (.bool true)))) Es.nil))))
  (.cons (.ite (.cmp .gt (.b1 .len 0 (.slot 2)) (.lit (.int 2)))
  (.cons (.set 3 (.bin .add (.bin .add (.slot 3) (.list 0 (.cons (.b2 .join (.lit (.str ".")) (.lc 0 [4] (.b1 .str 0 (.slot 4)) (.one 4) (.seq (.ix (.slot 2) (.lit (.int 2)))) (.lit (.bool true)))) Es.nil))) (.lc 0 [4] (.b1 .str 0 (.slot 4)) (.one 4) (.seq (.ix (.slot 2) (.lit (.int 3)))) (.lit (.bool true)))))
  .nil)
  .nil)
  (.cons (.app (.slot 1) (.b2 .join (.lit (.str " ")) (.slot 3)))
  .nil))))
  (.cons (.ret (.b2 .join (.lit (.str "\n")) (.slot 1)))
  .nil)))⟩
end Fb

/-! Rn: the evaluator by simp. -/
namespace Fb
open PySem PySem.Spec PyProof.Rows L2 Evl
/-- so that simp keeps the proof, and the kernel has nothing to unfold -/
theorem nr {al : Sort _} {a b : al} (h : a = b) : a = b := h
/-- bears what simp is to leave alone: what the type of another argument hangs on stays as it is -/
inductive Un {α : Type} (k : α) : Type where
  | u
def Res.bnd {β γ : Type} (m : Res β) (k : β → Sto → Res γ) (_ : Un k := .u) : Res γ := m.bind k
def Res.oute {β : Type} (m : Res β) (r : Rh) (k : β → Sto → Out) (_ : Un (r, k) := .u) : Out := m.out r k
def Out.thn (o : Out) (k : Rh → Sto → Out) (_ : Un k := .u) : Out := o.then k
section
variable {β γ : Type} {T : Tab} {Z : Prg} {r : Rh} {s : Sto}
@[simp] theorem bind_ok (x : β) (s : Sto) (k : β → Sto → Res γ) : (Res.ok x s).bnd k = k x s := nr rfl
@[simp] theorem bind_er (c : Str) (s : Sto) (k : β → Sto → Res γ) : (Res.er c s).bnd k = .er c s := nr rfl
@[simp] theorem bind_no (k : β → Sto → Res γ) : (Res.no).bnd k = .no := nr rfl
@[simp] theorem of_some (x : β) (s : Sto) : Res.of (some x) s = .ok x s := nr rfl
@[simp] theorem of_none (s : Sto) : (Res.of none s : Res β) = .no := nr rfl
@[simp] theorem out_ok (x : β) (s : Sto) (r : Rh) (k : β → Sto → Out) : (Res.ok x s).oute r k = k x s := nr rfl
@[simp] theorem out_er (c : Str) (s : Sto) (r : Rh) (k : β → Sto → Out) : (Res.er c s).oute r k = .er c r s := nr rfl
@[simp] theorem out_no (r : Rh) (k : β → Sto → Out) : (Res.no).oute r k = .no := nr rfl
@[simp] theorem then_nx (r : Rh) (s : Sto) (k : Rh → Sto → Out) : (Out.nx r s).thn k = k r s := nr rfl
@[simp] theorem then_rt (a : A) (s : Sto) (k : Rh → Sto → Out) : (Out.rt a s).thn k = .rt a s := nr rfl
@[simp] theorem then_er (c : Str) (r : Rh) (s : Sto) (k : Rh → Sto → Out) : (Out.er c r s).thn k = .er c r s := nr rfl
@[simp] theorem then_no (k : Rh → Sto → Out) : (Out.no).thn k = .no := nr rfl
theorem bind_if {p : Prop} [Decidable p] (a b : Res β) (k : β → Sto → Res γ) : (if p then a else b).bnd k = if p then a.bnd k else b.bnd k := by split <;> rfl
theorem out_if {p : Prop} [Decidable p] (a b : Res β) (r : Rh) (k : β → Sto → Out) : (if p then a else b).oute r k = if p then a.oute r k else b.oute r k := by split <;> rfl
theorem then_if {p : Prop} [Decidable p] (a b : Out) (k : Rh → Sto → Out) : (if p then a else b).thn k = if p then a.thn k else b.thn k := by split <;> rfl
theorem bind_ext {m : Res β} {k k' : β → Sto → Res γ} (h : ∀ x s, k x s = k' x s) : m.bnd k = m.bnd k' := by
  cases m
  · exact h _ _
  · rfl
  · rfl
theorem out_ext {m : Res β} {r : Rh} {k k' : β → Sto → Out} (h : ∀ x s, k x s = k' x s) : m.oute r k = m.oute r k' := by
  cases m
  · exact h _ _
  · rfl
  · rfl
/-! only what comes first is worked on -/
def tri {δ : Type} (o : Option Bool) (a b c : δ) (_ : Un (a, b, c) := .u) : δ := match o with
  | none => a
  | some true => b
  | some false => c
@[simp] theorem tri_n {δ : Type} (a b c : δ) : tri none a b c = a := nr rfl
@[simp] theorem tri_t {δ : Type} (a b c : δ) : tri (some true) a b c = b := nr rfl
@[simp] theorem tri_f {δ : Type} (a b c : δ) : tri (some false) a b c = c := nr rfl
theorem tri_b {δ : Type} (q : Bool) (a b c : δ) : tri (some q) a b c = if q = true then b else c := by cases q <;> rfl
def onD {δ : Type} (x : A) (k : PyData → δ) (n : δ) (_ : Un (k, n) := .u) : δ := match x with
  | .d y => k y
  | _ => n
@[simp] theorem onD_d {δ : Type} (y : PyData) (k : PyData → δ) (n : δ) : onD (.d y) k n = k y := nr rfl
def onL {δ : Type} (x : A) (k n : δ) (_ : Un (k, n) := .u) : δ := match x with
  | .d (.list _) => k
  | _ => n
@[simp] theorem onL_l {δ : Type} (l : List PyData) (k n : δ) : onL (.d (.list l)) k n = k := nr rfl
def onT {δ : Type} (x : A) (k n : δ) (_ : Un (k, n) := .u) : δ := match x with
  | .dT _ => k
  | _ => n
@[simp] theorem onT_t {δ : Type} (l : List (List Key × PyData)) (k n : δ) : onT (.dT l) k n = k := nr rfl
def onS {δ : Type} (o : Option β) (k : β → δ) (n : δ) (_ : Un (k, n) := .u) : δ := match o with
  | some x => k x
  | none => n
@[simp] theorem onS_s {δ : Type} (x : β) (k : β → δ) (n : δ) : onS (some x) k n = k x := nr rfl
@[simp] theorem onS_n {δ : Type} (k : β → δ) (n : δ) : onS (none : Option β) k n = n := nr rfl
def hnd (o : Out) (f : Str → Rh → Sto → Out) (_ : Un f := .u) : Out := match o with
  | .er c r s => f c r s
  | o => o
@[simp] theorem hnd_nx (r : Rh) (s : Sto) (f : Str → Rh → Sto → Out) : hnd (.nx r s) f = .nx r s := nr rfl
@[simp] theorem hnd_rt (a : A) (s : Sto) (f : Str → Rh → Sto → Out) : hnd (.rt a s) f = .rt a s := nr rfl
@[simp] theorem hnd_er (c : Str) (r : Rh) (s : Sto) (f : Str → Rh → Sto → Out) : hnd (.er c r s) f = f c r s := nr rfl
def methR (o : Option Ob) (m : Str) (k : Res A) (_ : Un k := .u) : Res A := match o with
  | some (.ins fs) => match fs.lookup m with
    | none => k
    | some _ => .no
  | _ => .no
theorem methR_ins {fs : List (Str × A)} {m : Str} (k : Res A) (h : fs.lookup m = none) : methR (some (.ins fs)) m k = k := by
  show (match fs.lookup m with | none => k | some _ => .no) = k
  rw [h]
def aatR (o : Option A) (k : Int → Out) (_ : Un k := .u) : Out := match o with
  | some (.d (.int i)) => k i
  | _ => .no
@[simp] theorem aatR_i (i : Int) (k : Int → Out) : aatR (some (.d (.int i))) k = k i := nr rfl
def sltR (o : Option (Option A)) (s : Sto) : Res A := match o with
  | some (some a) => .ok a s
  | _ => .no
@[simp] theorem sltR_s (a : A) (s : Sto) : sltR (some (some a)) s = .ok a s := nr rfl
/-! expressions -/
@[simp] theorem ev_slot (i : Nat) : ev T (.slot i) r s = sltR r[i]? s := by rw [ev]; rfl
@[simp] theorem ev_lit (x : PyData) : ev T (.lit x) r s = .ok (.d x) s := by first | (rw [ev]; done) | (rw [ev]; rfl) | (rw [exS]; done) | (rw [exS]; rfl) | (rw [evI]; done) | (rw [evI]; rfl) | (simp only [ev, exS, evI, tri, onD, onL, onS, hnd, methR, aatR]; done)
@[simp] theorem ev_glob (x : Str) : ev T (.glob x) r s = Res.of (T.gl x) s := by first | (rw [ev]; done) | (rw [ev]; rfl) | (rw [exS]; done) | (rw [exS]; rfl) | (rw [evI]; done) | (rw [evI]; rfl) | (simp only [ev, exS, evI, tri, onD, onL, onS, hnd, methR, aatR]; done)
@[simp] theorem ev_tup (es : Es) : ev T (.tup es) r s = (evs T es r s).bnd fun xs s => Res.of (mkT xs) s := by first | (rw [ev]; done) | (rw [ev]; rfl) | (rw [exS]; done) | (rw [exS]; rfl) | (rw [evI]; done) | (rw [evI]; rfl) | (simp only [ev, exS, evI, tri, onD, onL, onS, hnd, methR, aatR]; done)
@[simp] theorem ev_list (m : Nat) (es : Es) : ev T (.list m es) r s = (evs T es r s).bnd fun xs s => newL m xs s := by first | (rw [ev]; done) | (rw [ev]; rfl) | (rw [exS]; done) | (rw [exS]; rfl) | (rw [evI]; done) | (rw [evI]; rfl) | (simp only [ev, exS, evI, tri, onD, onL, onS, hnd, methR, aatR]; done)
@[simp] theorem ev_dnil (m : Nat) : ev T (.dnil m) r s = newT m [] s := by first | (rw [ev]; done) | (rw [ev]; rfl) | (rw [exS]; done) | (rw [exS]; rfl) | (rw [evI]; done) | (rw [evI]; rfl) | (simp only [ev, exS, evI, tri, onD, onL, onS, hnd, methR, aatR]; done)
@[simp] theorem ev_dict (m : Nat) (ks : List Str) (es : Es) : ev T (.dict m ks es) r s = (evs T es r s).bnd fun xs s => if ks.length = xs.length ∧ ks.Nodup ∧ ks.length ≤ 15 then newK m (ks.zip xs) s else .no := by first | (rw [ev]; done) | (rw [ev]; rfl) | (rw [exS]; done) | (rw [exS]; rfl) | (rw [evI]; done) | (rw [evI]; rfl) | (simp only [ev, exS, evI, tri, onD, onL, onS, hnd, methR, aatR]; done)
@[simp] theorem ev_bin (o : Bop) (a b : E) : ev T (.bin o a b) r s = (ev T a r s).bnd fun x s => (ev T b r s).bnd fun y s => Res.of (binA s o x y) s := by first | (rw [ev]; done) | (rw [ev]; rfl) | (rw [exS]; done) | (rw [exS]; rfl) | (rw [evI]; done) | (rw [evI]; rfl) | (simp only [ev, exS, evI, tri, onD, onL, onS, hnd, methR, aatR]; done)
@[simp] theorem ev_cmp (o : Cop) (a b : E) : ev T (.cmp o a b) r s = (ev T a r s).bnd fun x s => (ev T b r s).bnd fun y s => Res.of ((cmpA s o x y).map fun q => .d (.bool q)) s := by first | (rw [ev]; done) | (rw [ev]; rfl) | (rw [exS]; done) | (rw [exS]; rfl) | (rw [evI]; done) | (rw [evI]; rfl) | (simp only [ev, exS, evI, tri, onD, onL, onS, hnd, methR, aatR]; done)
@[simp] theorem ev_chain (o p : Cop) (a b c : E) : ev T (.chain o p a b c) r s = (ev T a r s).bnd fun x s => (ev T b r s).bnd fun y s => tri (cmpA s o x y) .no ((ev T c r s).bnd fun z s => Res.of ((cmpA s p y z).map fun q => .d (.bool q)) s) (.ok (.d (.bool false)) s) := by
  rw [ev]; refine bind_ext fun x s => bind_ext fun y s => ?_; rcases cmpA s o x y with _ | _ | _ <;> rfl
@[simp] theorem ev_and (a b : E) : ev T (.and_ a b) r s = (ev T a r s).bnd fun x s => tri (truA s x) .no (ev T b r s) (.ok x s) := by first | (rw [ev]; done) | (rw [ev]; rfl) | (rw [exS]; done) | (rw [exS]; rfl) | (rw [evI]; done) | (rw [evI]; rfl) | (simp only [ev, exS, evI, tri, onD, onL, onS, hnd, methR, aatR]; done)
@[simp] theorem ev_or (a b : E) : ev T (.or_ a b) r s = (ev T a r s).bnd fun x s => tri (truA s x) .no (.ok x s) (ev T b r s) := by first | (rw [ev]; done) | (rw [ev]; rfl) | (rw [exS]; done) | (rw [exS]; rfl) | (rw [evI]; done) | (rw [evI]; rfl) | (simp only [ev, exS, evI, tri, onD, onL, onS, hnd, methR, aatR]; done)
@[simp] theorem ev_not (a : E) : ev T (.not_ a) r s = (ev T a r s).bnd fun x s => Res.of ((truA s x).map fun q => .d (.bool (!q))) s := by first | (rw [ev]; done) | (rw [ev]; rfl) | (rw [exS]; done) | (rw [exS]; rfl) | (rw [evI]; done) | (rw [evI]; rfl) | (simp only [ev, exS, evI, tri, onD, onL, onS, hnd, methR, aatR]; done)
@[simp] theorem ev_neg (a : E) : ev T (.neg a) r s = (ev T a r s).bnd fun x s => match x with
    | .d (.int i) => .ok (.d (.int (-i))) s
    | _ => .no := by first | (rw [ev]; done) | (rw [ev]; rfl) | (rw [exS]; done) | (rw [exS]; rfl) | (rw [evI]; done) | (rw [evI]; rfl) | (simp only [ev, exS, evI, tri, onD, onL, onS, hnd, methR, aatR]; done)
@[simp] theorem ev_ife (c a b : E) : ev T (.ife c a b) r s = (ev T c r s).bnd fun x s => tri (truA s x) .no (ev T a r s) (ev T b r s) := by first | (rw [ev]; done) | (rw [ev]; rfl) | (rw [exS]; done) | (rw [exS]; rfl) | (rw [evI]; done) | (rw [evI]; rfl) | (simp only [ev, exS, evI, tri, onD, onL, onS, hnd, methR, aatR]; done)
@[simp] theorem ev_ix (a b : E) : ev T (.ix a b) r s = (ev T a r s).bnd fun x s => (ev T b r s).bnd fun y s => Res.of (ixA s x y) s := by first | (rw [ev]; done) | (rw [ev]; rfl) | (rw [exS]; done) | (rw [exS]; rfl) | (rw [evI]; done) | (rw [evI]; rfl) | (simp only [ev, exS, evI, tri, onD, onL, onS, hnd, methR, aatR]; done)
@[simp] theorem ev_slF (a lo : E) : ev T (.slF a lo) r s = (ev T a r s).bnd fun x s => (ev T lo r s).bnd fun y s => onS (numO y) (fun i => Res.of (slA s x (some i) none) s) .no := by
  rw [ev]; refine bind_ext fun x s => bind_ext fun y s => ?_; cases numO y <;> rfl
@[simp] theorem ev_slT (a hi : E) : ev T (.slT a hi) r s = (ev T a r s).bnd fun x s => (ev T hi r s).bnd fun y s => onS (numO y) (fun i => Res.of (slA s x none (some i)) s) .no := by
  rw [ev]; refine bind_ext fun x s => bind_ext fun y s => ?_; cases numO y <;> rfl
@[simp] theorem ev_slB (a lo hi : E) : ev T (.slB a lo hi) r s = (ev T a r s).bnd fun x s => (ev T lo r s).bnd fun y s => onS (numO y) (fun i => (ev T hi r s).bnd fun z s => onS (numO z) (fun j => Res.of (slA s x (some i) (some j)) s) .no) .no := by
  rw [ev]; refine bind_ext fun x s => bind_ext fun y s => ?_
  cases numO y with
  | none => rfl
  | some i => refine bind_ext fun z s => ?_; cases numO z <;> rfl
@[simp] theorem ev_rev (a : E) : ev T (.rev a) r s = (ev T a r s).bnd fun x s => Res.of (revA s x) s := by first | (rw [ev]; done) | (rw [ev]; rfl) | (rw [exS]; done) | (rw [exS]; rfl) | (rw [evI]; done) | (rw [evI]; rfl) | (simp only [ev, exS, evI, tri, onD, onL, onS, hnd, methR, aatR]; done)
@[simp] theorem ev_attr (o : E) (f : Str) : ev T (.attr o f) r s = (ev T o r s).bnd fun x s => Res.of (attrA s x f) s := by first | (rw [ev]; done) | (rw [ev]; rfl) | (rw [exS]; done) | (rw [exS]; rfl) | (rw [evI]; done) | (rw [evI]; rfl) | (simp only [ev, exS, evI, tri, onD, onL, onS, hnd, methR, aatR]; done)
@[simp] theorem ev_call (f : Str) (es : Es) : ev T (.call f es) r s = (evs T es r s).bnd fun xs s => T.fn f xs s := by first | (rw [ev]; done) | (rw [ev]; rfl) | (rw [exS]; done) | (rw [exS]; rfl) | (rw [evI]; done) | (rw [evI]; rfl) | (simp only [ev, exS, evI, tri, onD, onL, onS, hnd, methR, aatR]; done)
@[simp] theorem ev_make (es : Es) : ev T (.make es) r s = (evs T es r s).bnd fun xs s => (T.mak (.ref s.P.length :: xs) ⟨s.P ++ [.ins []], s.S⟩).bnd fun x s' => match x with
    | .d .none => .ok (.ref s.P.length) s'
    | _ => .no := by first | (rw [ev]; done) | (rw [ev]; rfl) | (rw [exS]; done) | (rw [exS]; rfl) | (rw [evI]; done) | (rw [evI]; rfl) | (simp only [ev, exS, evI, tri, onD, onL, onS, hnd, methR, aatR]; done)
@[simp] theorem ev_b1 (f : B1) (m : Nat) (a : E) : ev T (.b1 f m a) r s = (ev T a r s).bnd fun x s => b1A f m s x := by first | (rw [ev]; done) | (rw [ev]; rfl) | (rw [exS]; done) | (rw [exS]; rfl) | (rw [evI]; done) | (rw [evI]; rfl) | (simp only [ev, exS, evI, tri, onD, onL, onS, hnd, methR, aatR]; done)
@[simp] theorem ev_b2 (f : B2) (a b : E) : ev T (.b2 f a b) r s = (ev T a r s).bnd fun x s => if b2Pre f s x = true then (ev T b r s).bnd fun y s => Res.of (b2A f s x y) s else .no := by first | (rw [ev]; done) | (rw [ev]; rfl) | (rw [exS]; done) | (rw [exS]; rfl) | (rw [evI]; done) | (rw [evI]; rfl) | (simp only [ev, exS, evI, tri, onD, onL, onS, hnd, methR, aatR]; done)
@[simp] theorem ev_isi (a : E) (t : Ty) : ev T (.isi a t) r s = (ev T a r s).bnd fun x s => onD (rd s x) (fun y => .ok (.d (.bool (tyIs t y))) s) .no := by first | (rw [ev]; done) | (rw [ev]; rfl) | (rw [exS]; done) | (rw [exS]; rfl) | (rw [evI]; done) | (rw [evI]; rfl) | (simp only [ev, exS, evI, tri, onD, onL, onS, hnd, methR, aatR]; done)
@[simp] theorem ev_kget (x : Str) (k d : E) : ev T (.kget x k d) r s = (ev T k r s).bnd fun y s => (ev T d r s).bnd fun z s => match y, z with
    | .d (.str k), .d (.int j) => .ok (.d (.int ((T.kd x k).getD j))) s
    | _, _ => .no := by first | (rw [ev]; done) | (rw [ev]; rfl) | (rw [exS]; done) | (rw [exS]; rfl) | (rw [evI]; done) | (rw [evI]; rfl) | (simp only [ev, exS, evI, tri, onD, onL, onS, hnd, methR, aatR]; done)
@[simp] theorem ev_meth {o : E} {m : Str} {es : Es} : ev T (.meth o m es) r s = (ev T o r s).bnd fun x s => match x with
    | .ref n => methR (s.P[n]?) m ((evs T es r s).bnd fun xs s => T.fn m (.ref n :: xs) s)
    | _ => .no := by first | (rw [ev]; done) | (rw [ev]; rfl) | (rw [exS]; done) | (rw [exS]; rfl) | (rw [evI]; done) | (rw [evI]; rfl) | (simp only [ev, exS, evI, tri, onD, onL, onS, hnd, methR, aatR]; done)
@[simp] theorem ev_cat (m : Nat) (a b : E) : ev T (.cat m a b) r s = (ev T a r s).bnd fun x s => (ev T b r s).bnd fun y s => onD (rd s x) (fun x => onD (rd s y) (fun y => match x, y with
    | .list xs, .list ys => if xs.length + ys.length ≤ 100000 then newL m ((xs ++ ys).map .d) s else .no
    | _, _ => .no) .no) .no := by
  rw [ev]; refine bind_ext fun x s => bind_ext fun y s => ?_
  cases rd s x <;> first | rfl | skip
  cases rd s y <;> first | rfl | skip
  · rename_i a b; cases a <;> cases b <;> rfl
  all_goals (rename_i a _; cases a <;> rfl)
@[simp] theorem ev_rep (m : Nat) (es : Es) (b : E) : ev T (.rep m es b) r s = (evs T es r s).bnd fun xs s => (ev T b r s).bnd fun y s => match y with
    | .d (.int k) => if -(2 ^ 63) ≤ k ∧ k < 2 ^ 63 ∧ xs.length * k.toNat ≤ 100000 then newL m (List.replicate k.toNat xs).flatten s else .no
    | _ => .no := by first | (rw [ev]; done) | (rw [ev]; rfl) | (rw [exS]; done) | (rw [exS]; rfl) | (rw [evI]; done) | (rw [evI]; rfl) | (simp only [ev, exS, evI, tri, onD, onL, onS, hnd, methR, aatR]; done)
@[simp] theorem ev_get (o k d : E) : ev T (.get o k d) r s = (ev T o r s).bnd fun x s => onT (rd s x) ((ev T k r s).bnd fun y s => (ev T d r s).bnd fun z s => Res.of (getDf s x y z) s) .no := by
  rw [ev]; refine bind_ext fun x s => ?_
  cases rd s x <;> rfl
@[simp] theorem ev_le3 (a b c e : E) : ev T (.le3 a b c e) r s = (ev T a r s).bnd fun x s => (ev T b r s).bnd fun y s => tri (cmpA s .le x y) .no ((ev T c r s).bnd fun z s => tri (cmpA s .le y z) .no ((ev T e r s).bnd fun u s => Res.of ((cmpA s .le z u).map fun q => .d (.bool q)) s) (.ok (.d (.bool false)) s)) (.ok (.d (.bool false)) s) := by
  rw [ev]; refine bind_ext fun x s => bind_ext fun y s => ?_; rcases cmpA s .le x y with _ | _ | _
  · rfl
  · rfl
  · refine bind_ext fun z s => ?_
    rcases cmpA s .le y z with _ | _ | _ <;> rfl
@[simp] theorem evs_nil : evs T .nil r s = .ok [] s := by rw [evs]
@[simp] theorem evs_cons (e : E) (es : Es) : evs T (.cons e es) r s = (ev T e r s).bnd fun x s => (evs T es r s).bnd fun xs s => .ok (x :: xs) s := by rw [evs]; rfl
/-! statements -/
@[simp] theorem exSs_nil : exSs T .nil r s = .nx r s := by rw [exSs]
@[simp] theorem exSs_cons (x : S) (ss : Ss) : exSs T (.cons x ss) r s = (exS T x r s).thn fun r s => exSs T ss r s := by rw [exSs]; rfl
@[simp] theorem exS_ex (e : E) : exS T (.ex e) r s = (ev T e r s).oute r fun _ s => .nx r s := by first | (rw [ev]; done) | (rw [ev]; rfl) | (rw [exS]; done) | (rw [exS]; rfl) | (rw [evI]; done) | (rw [evI]; rfl) | (simp only [ev, exS, evI, tri, onD, onL, onS, hnd, methR, aatR]; done)
@[simp] theorem exS_set (i : Nat) (e : E) : exS T (.set i e) r s = (ev T e r s).oute r fun x s => .nx (r.set i (some x)) s := by first | (rw [ev]; done) | (rw [ev]; rfl) | (rw [exS]; done) | (rw [exS]; rfl) | (rw [evI]; done) | (rw [evI]; rfl) | (simp only [ev, exS, evI, tri, onD, onL, onS, hnd, methR, aatR]; done)
@[simp] theorem exS_ret (e : E) : exS T (.ret e) r s = (ev T e r s).oute r fun x s => .rt x s := by first | (rw [ev]; done) | (rw [ev]; rfl) | (rw [exS]; done) | (rw [exS]; rfl) | (rw [evI]; done) | (rw [evI]; rfl) | (simp only [ev, exS, evI, tri, onD, onL, onS, hnd, methR, aatR]; done)
@[simp] theorem exS_ite (c : E) (a b : Ss) : exS T (.ite c a b) r s = (ev T c r s).oute r fun x s => tri (truA s x) .no (exSs T a r s) (exSs T b r s) := by first | (rw [ev]; done) | (rw [ev]; rfl) | (rw [exS]; done) | (rw [exS]; rfl) | (rw [evI]; done) | (rw [evI]; rfl) | (simp only [ev, exS, evI, tri, onD, onL, onS, hnd, methR, aatR]; done)
@[simp] theorem exS_raise (c : Str) : exS T (.raise c) r s = .er c r s := by first | (rw [ev]; done) | (rw [ev]; rfl) | (rw [exS]; done) | (rw [exS]; rfl) | (rw [evI]; done) | (rw [evI]; rfl) | (simp only [ev, exS, evI, tri, onD, onL, onS, hnd, methR, aatR]; done)
@[simp] theorem exS_pass : exS T .pass r s = .nx r s := by first | (rw [ev]; done) | (rw [ev]; rfl) | (rw [exS]; done) | (rw [exS]; rfl) | (rw [evI]; done) | (rw [evI]; rfl) | (simp only [ev, exS, evI, tri, onD, onL, onS, hnd, methR, aatR]; done)
@[simp] theorem exS_app (o e : E) : exS T (.app o e) r s = (ev T o r s).oute r fun x s => onL (rd s x) ((ev T e r s).oute r fun y s => onS (chg s x (appO y)) (fun s => .nx r s) .no) .no := by
  rw [exS]; refine out_ext fun x s => ?_
  cases rd s x with
  | d y => cases y with
    | list l => refine out_ext fun y s => ?_; cases chg s x (appO y) <;> rfl
    | _ => rfl
  | _ => rfl
@[simp] theorem exS_sat (o : E) (f : Str) (e : E) : exS T (.sat o f e) r s = (ev T e r s).oute r fun y s => (ev T o r s).oute r fun x s => onS (chg s x (satO f y)) (fun s => .nx r s) .no := by
  rw [exS]; refine out_ext fun y s => out_ext fun x s => ?_; cases chg s x (satO f y) <;> rfl
@[simp] theorem exS_aat (o : E) (f : Str) (e : E) : exS T (.aat o f e) r s = (ev T o r s).oute r fun x s => aatR (attrA s x f) (fun i => (ev T e r s).oute r fun y s => match y with
      | .d (.int j) => onS (chg s x (satO f (.d (.int (i + j))))) (fun s => .nx r s) .no
      | _ => .no) := by
  rw [exS]; refine out_ext fun x s => ?_
  cases attrA s x f with
  | none => rfl
  | some a => cases a with
    | d y => cases y with
      | int i =>
        refine out_ext fun y s => ?_
        cases y with
        | d z => cases z with
          | int j =>
            show (match chg s x (satO f (.d (.int (i + j)))) with | some s => Out.nx r s | none => .no) = onS (chg s x (satO f (.d (.int (i + j))))) (fun s => Out.nx r s) .no
            cases chg s x (satO f (.d (.int (i + j)))) <;> rfl
          | _ => rfl
        | _ => rfl
      | _ => rfl
    | _ => rfl
@[simp] theorem exS_for (tg : Tg) (it : I) (b : Ss) : exS T (.for_ tg it b) r s = (evI T it r s).oute r fun xw s => if xw.2.all (fun a => stays a s s) = true then forGo tg xw.2 (exSs T b) s xw.1 r s else .no := by first | (rw [ev]; done) | (rw [ev]; rfl) | (rw [exS]; done) | (rw [exS]; rfl) | (rw [evI]; done) | (rw [evI]; rfl) | (simp only [ev, exS, evI, tri, onD, onL, onS, hnd, methR, aatR]; done)
@[simp] theorem exS_try (b : Ss) (hs : Hs) : exS T (.try_ b hs) r s = hnd (exSs T b r s) (fun c r s => if c ∈ errN then exHs T hs c r s else .no) := by first | (rw [ev]; done) | (rw [ev]; rfl) | (rw [exS]; done) | (rw [exS]; rfl) | (rw [evI]; done) | (rw [evI]; rfl) | (simp only [ev, exS, evI, tri, onD, onL, onS, hnd, methR, aatR]; done)
@[simp] theorem exS_unp (tg : Tg) (e : E) : exS T (.unp tg e) r s = (ev T e r s).oute r fun x s => onS (setTg tg x r) (fun r => .nx r s) .no := by
  rw [exS]; refine out_ext fun x s => ?_; cases setTg tg x r <;> rfl
@[simp] theorem exS_par (i j : Nat) (a b : E) : exS T (.par i j a b) r s = (ev T a r s).oute r fun x s => (ev T b r s).oute r fun y s => .nx ((r.set i (some x)).set j (some y)) s := by first | (rw [ev]; done) | (rw [ev]; rfl) | (rw [exS]; done) | (rw [exS]; rfl) | (rw [evI]; done) | (rw [evI]; rfl) | (simp only [ev, exS, evI, tri, onD, onL, onS, hnd, methR, aatR]; done)
@[simp] theorem exS_ext (o e : E) : exS T (.ext o e) r s = (ev T o r s).oute r fun x s => (ev T e r s).oute r fun y s => match rd s y with
    | .d (.list ys) => onS (chg s x (extO ys)) (fun s => .nx r s) .no
    | _ => .no := by
  rw [exS]; refine out_ext fun x s => out_ext fun y s => ?_
  cases rd s y with
  | d y => cases y with
    | list l =>
      show (match chg s x (extO l) with | some s => Out.nx r s | none => .no) = onS (chg s x (extO l)) (fun s => Out.nx r s) .no
      cases chg s x (extO l) <;> rfl
    | _ => rfl
  | _ => rfl
@[simp] theorem exS_six (o k e : E) : exS T (.six o k e) r s = (ev T e r s).oute r fun y s => (ev T o r s).oute r fun x s => (ev T k r s).oute r fun z s => onS (chg s x (sixO z y)) (fun s => .nx r s) .no := by
  rw [exS]; refine out_ext fun y s => out_ext fun x s => out_ext fun z s => ?_; cases chg s x (sixO z y) <;> rfl
@[simp] theorem exS_whl (n : Nat) (c : E) (b : Ss) : exS T (.whl n c b) r s = whlGo (ev T c) (exSs T b) n r s := by first | (rw [ev]; done) | (rw [ev]; rfl) | (rw [exS]; done) | (rw [exS]; rfl) | (rw [evI]; done) | (rw [evI]; rfl) | (simp only [ev, exS, evI, tri, onD, onL, onS, hnd, methR, aatR]; done)
@[simp] theorem exHs_nil (c : Str) : exHs T .nil c r s = .er c r s := by rw [exHs]
@[simp] theorem exHs_cons (h : Str) (b : Ss) (hs : Hs) (c : Str) : exHs T (.cons h b hs) c r s = if isSub c h = true then hnd (exSs T b r s) (fun _ _ _ => .no) else exHs T hs c r s := by
  rw [exHs]; split
  · cases exSs T b r s <;> rfl
  · rfl
/-- x += e, by the value there -/
theorem exS_aug (i : Nat) (e : E) {j : Int} (h : r[i]? = some (some (.d (.int j)))) : exS T (.aug i e) r s = (ev T e r s).oute r fun y s => match y with
      | .d (.int k) => .nx (r.set i (some (.d (.int (j + k))))) s
      | _ => .no := by rw [exS, h]; rfl
/-! reading -/
@[simp] theorem rd_of_d (x : PyData) : rd s (.d x) = .d x := nr rfl
@[simp] theorem rd_of_sc (x : List Int) : rd s (.sc x) = .sc x := nr rfl
@[simp] theorem rd_of_dT (x : List (List Key × PyData)) : rd s (.dT x) = .dT x := nr rfl
@[simp] theorem rd_of_dK (x : List (Str × A)) : rd s (.dK x) = .dK x := nr rfl
@[simp] theorem rd_of_lst (x : List A) : rd s (.lst x) = .lst x := nr rfl
@[simp] theorem rd_of_tup (x : List A) : rd s (.tup x) = .tup x := nr rfl
@[simp] theorem tru_bool (b : Bool) : truA s (.d (.bool b)) = some b := nr rfl
@[simp] theorem tru_list (xs : List PyData) : truA s (.d (.list xs)) = some (!xs.isEmpty) := nr rfl
@[simp] theorem tru_tup (xs : List PyData) : truA s (.d (.tuple xs)) = some (!xs.isEmpty) := nr rfl
@[simp] theorem tru_none : truA s (.d .none) = some false := nr rfl
@[simp] theorem tru_int (i : Int) : truA s (.d (.int i)) = some (i != 0) := nr rfl
@[simp] theorem cmp_eqI (i j : Int) : cmpA s .eq (.d (.int i)) (.d (.int j)) = some (decide (i = j)) := nr rfl
@[simp] theorem cmp_neI (i j : Int) : cmpA s .ne (.d (.int i)) (.d (.int j)) = some (!decide (i = j)) := nr rfl
@[simp] theorem cmp_eqS (i j : Str) : cmpA s .eq (.d (.str i)) (.d (.str j)) = some (decide (i = j)) := nr rfl
@[simp] theorem cmp_neS (i j : Str) : cmpA s .ne (.d (.str i)) (.d (.str j)) = some (!decide (i = j)) := nr rfl
@[simp] theorem cmp_ltI (i j : Int) : cmpA s .lt (.d (.int i)) (.d (.int j)) = some (decide (i < j)) := nr rfl
@[simp] theorem cmp_leI (i j : Int) : cmpA s .le (.d (.int i)) (.d (.int j)) = some (decide (i ≤ j)) := nr rfl
@[simp] theorem cmp_gtI (i j : Int) : cmpA s .gt (.d (.int i)) (.d (.int j)) = some (decide (j < i)) := nr rfl
@[simp] theorem cmp_geI (i j : Int) : cmpA s .ge (.d (.int i)) (.d (.int j)) = some (decide (j ≤ i)) := nr rfl
@[simp] theorem bin_add (i j : Int) : binA s .add (.d (.int i)) (.d (.int j)) = some (.d (.int (i + j))) := nr rfl
@[simp] theorem bin_sub (i j : Int) : binA s .sub (.d (.int i)) (.d (.int j)) = some (.d (.int (i - j))) := nr rfl
@[simp] theorem ix_tup (ds : List PyData) (i : Int) : ixA s (.d (.tuple ds)) (.d (.int i)) = (atI ds i).map .d := nr rfl
@[simp] theorem ix_list (ds : List PyData) (i : Int) : ixA s (.d (.list ds)) (.d (.int i)) = (atI ds i).map .d := nr rfl
@[simp] theorem ix_lst (ds : List A) (i : Int) : ixA s (.lst ds) (.d (.int i)) = atI ds i := nr rfl
@[simp] theorem ix_sc (ds : List Int) (i : Int) : ixA s (.sc ds) (.d (.int i)) = (atI ds i).map fun j => .d (.int j) := nr rfl
theorem atI_nat {al : Type} (l : List al) (i : Nat) : atI l (i : Int) = l[i]? := by
  unfold atI ixN
  rw [if_pos (Int.natCast_nonneg i)]
  by_cases h : i < l.length
  · rw [if_pos (by omega)]; simp
  · rw [if_neg (by omega), List.getElem?_eq_none (by omega)]; rfl
@[simp] theorem atI_0 {al : Type} (a : al) (l : List al) : atI (a :: l) 0 = some a := atI_nat (a :: l) 0
@[simp] theorem atI_1 {al : Type} (a b : al) (l : List al) : atI (a :: b :: l) 1 = some b := atI_nat (a :: b :: l) 1
@[simp] theorem atI_2 {al : Type} (a b c : al) (l : List al) : atI (a :: b :: c :: l) 2 = some c := atI_nat (a :: b :: c :: l) 2
@[simp] theorem atI_3 {al : Type} (a b c d : al) (l : List al) : atI (a :: b :: c :: d :: l) 3 = some d := atI_nat (a :: b :: c :: d :: l) 3
@[simp] theorem atI_4 {al : Type} (a b c d e : al) (l : List al) : atI (a :: b :: c :: d :: e :: l) 4 = some e := atI_nat (a :: b :: c :: d :: e :: l) 4
@[simp] theorem len_tup (m : Nat) (ds : List PyData) : b1A .len m s (.d (.tuple ds)) = .ok (.d (.int ds.length)) s := nr rfl
@[simp] theorem len_list (m : Nat) (ds : List PyData) : b1A .len m s (.d (.list ds)) = .ok (.d (.int ds.length)) s := nr rfl
@[simp] theorem len_sc (m : Nat) (ds : List Int) : b1A .len m s (.sc ds) = .ok (.d (.int ds.length)) s := nr rfl
@[simp] theorem ty_tup (ds : List PyData) : tyIs .tuple (.tuple ds) = true := nr rfl
@[simp] theorem numO_i (i : Int) : numO (.d (.int i)) = some i := nr rfl
@[simp] theorem mkT1 (a : PyData) : mkT [.d a] = some (.d (.tuple [a])) := nr rfl
@[simp] theorem mkT2 (a b : PyData) : mkT [.d a, .d b] = some (.d (.tuple [a, b])) := nr rfl
@[simp] theorem mkT3 (a b c : PyData) : mkT [.d a, .d b, .d c] = some (.d (.tuple [a, b, c])) := nr rfl
@[simp] theorem mkT4 (a b c d : PyData) : mkT [.d a, .d b, .d c, .d d] = some (.d (.tuple [a, b, c, d])) := nr rfl
@[simp] theorem mkT5 (a b c d e : PyData) : mkT [.d a, .d b, .d c, .d d, .d e] = some (.d (.tuple [a, b, c, d, e])) := nr rfl
@[simp] theorem newL0_0 : newL 0 [] s = .ok (.d (.list [])) s := nr rfl
@[simp] theorem newL0_1 (a : PyData) : newL 0 [.d a] s = .ok (.d (.list [a])) s := nr rfl
@[simp] theorem newL0_2 (a b : PyData) : newL 0 [.d a, .d b] s = .ok (.d (.list [a, b])) s := nr rfl
@[simp] theorem newL0_3 (a b c : PyData) : newL 0 [.d a, .d b, .d c] s = .ok (.d (.list [a, b, c])) s := nr rfl
@[simp] theorem newL0_4 (a b c d : PyData) : newL 0 [.d a, .d b, .d c, .d d] s = .ok (.d (.list [a, b, c, d])) s := nr rfl
/-! defs -/
@[simp] theorem tab_fn (n : Nat) : (tabZ Z (n + 1)).fn = callF Z (n + 1) := nr rfl
@[simp] theorem tab_mak (n : Nat) : (tabZ Z (n + 1)).mak = callF Z n "__init__" := nr rfl
@[simp] theorem tab_gl (n : Nat) : (tabZ Z n).gl = Z.gl := by cases n <;> rfl
@[simp] theorem tab_kd (n : Nat) : (tabZ Z n).kd = Z.kd := by cases n <;> rfl
@[simp] theorem fin_rt_d (s s' : Sto) (x : PyData) (h : s'.S.take s.S.length = s.S) : fin s.S.length (.rt (.d x) s') = .ok (.d x) ⟨s'.P, s.S⟩ := by
  show Res.ok _ (Sto.cut s' _) = _
  rw [Sto.cut, h]
@[simp] theorem fin_nx (s s' : Sto) (r : Rh) (h : s'.S.take s.S.length = s.S) : fin s.S.length (.nx r s') = .ok (.d .none) ⟨s'.P, s.S⟩ := by
  show Res.ok _ (Sto.cut s' _) = _
  rw [Sto.cut, h]
@[simp] theorem fin_er (s s' : Sto) (c : Str) (r : Rh) (h : s'.S.take s.S.length = s.S) : fin s.S.length (.er c r s') = .er c ⟨s'.P, s.S⟩ := by
  show Res.er _ (Sto.cut s' _) = _
  rw [Sto.cut, h]
@[simp] theorem sto_eta (s : Sto) : (⟨s.P, s.S⟩ : Sto) = s := nr rfl
@[simp] theorem take_self (s : Sto) : s.S.take s.S.length = s.S := List.take_length
theorem callF_of {x : Str} {F : Fn} (h : Z.fn x = some F) (n : Nat) (as : List A) (s : Sto) : callF Z (n + 1) x as s = runF (tabZ Z n) F as s := by
  cases n with
  | zero => show (match Z.fn x with | some F => _ | none => _) = _; rw [h]; rfl
  | succ n => show (match Z.fn x with | some F => _ | none => _) = _; rw [h]; rfl
theorem callF_run {x : Str} {F : Fn} (h : Z.fn x = some F) (n : Nat) {as : List A} (s : Sto) (ha : as.length = F.np) : callF Z (n + 1) x as s = fin s.S.length (exSs (tabZ Z n) F.body (as.map some ++ List.replicate (F.nl - F.np) none) s) := by
  rw [callF_of h, runF, if_pos ha]
/-! comprehensions that change nothing -/
theorem lcGo_pure {al : Type} {own : List Nat} {tg : Tg} {w : List A} {fc fe : Rh → Sto → Res A} {r : Rh} {s0 s : Sto} {enc : al → A} {p : al → Bool} {f : al → PyData} (hw : w.all (fun a => stays a s0 s) = true) :
    ∀ (l : List al) (acc : List A), (∀ x ∈ l, ∃ r1, setTg tg (enc x) (wipeA r own) = some r1 ∧ fc r1 s = .ok (.d (.bool (p x))) s ∧ (p x = true → fe r1 s = .ok (.d (f x)) s)) → lcGo own tg w fc fe r s0 (l.map enc) acc s = .ok (acc ++ ((l.filter p).map f).map .d) s
  | [], acc, _ => by simp [lcGo]
  | x :: l, acc, h => by
    obtain ⟨r1, h1, h2, h3⟩ := h x List.mem_cons_self
    have ih := fun acc => lcGo_pure (own := own) (tg := tg) (fc := fc) (fe := fe) (r := r) (enc := enc) (p := p) (f := f) hw l acc fun y hy => h y (List.mem_cons_of_mem _ hy)
    rw [List.map_cons, lcGo, h1]
    simp only [h2, tru_bool]
    cases hp : p x with
    | false => simp only [hw, if_true, ih, List.filter_cons, hp]; simp
    | true => simp only [h3 hp, hw, noLoc, Bool.and_self, if_true, ih, List.filter_cons, hp, List.map_cons, List.append_assoc, List.singleton_append]
theorem allD_map (ds : List PyData) : allD (ds.map .d) = some ds := by
  induction ds with
  | nil => rfl
  | cons d ds ih => rw [List.map_cons, allD, ih]; rfl
theorem newL0 {ds : List PyData} (h : ds.length ≤ 100000) (s : Sto) : newL 0 (ds.map .d) s = .ok (.d (.list ds)) s := by
  unfold newL
  rw [if_pos (by simpa using h)]
  simp [mkL, allD_map]
theorem ev_lc {m : Nat} {own : List Nat} {elt : E} {tg : Tg} {it : I} {c : E} : ev T (.lc m own elt tg it c) r s = (evI T it r s).bnd fun xw s => if xw.2.all (fun a => stays a s s) = true then (lcGo own tg xw.2 (ev T c) (ev T elt) r s xw.1 [] s).bnd fun ys s => newL m ys s else .no := by rw [ev]; rfl
theorem ev_lc0 {al : Type} {own : List Nat} {elt c : E} {tg : Tg} {it : I} {w : List A} {l : List al} {enc : al → A} (p : al → Bool) (f : al → PyData) (hi : evI T it r s = .ok (l.map enc, w) s) (hw : w.all (fun a => stays a s s) = true)
    (hx : ∀ x ∈ l, ∃ r1, setTg tg (enc x) (wipeA r own) = some r1 ∧ ev T c r1 s = .ok (.d (.bool (p x))) s ∧ (p x = true → ev T elt r1 s = .ok (.d (f x)) s)) (hl : l.length ≤ 100000) : ev T (.lc 0 own elt tg it c) r s = .ok (.d (.list ((l.filter p).map f))) s := by
  rw [ev_lc, hi]
  simp only [bind_ok, hw, if_true]
  rw [lcGo_pure hw l [] hx]
  simp only [bind_ok, List.nil_append]
  exact newL0 (by rw [List.length_map]; have := List.length_filter_le p l; omega) s
@[simp] theorem evI_seq (e : E) : evI T (.seq e) r s = (ev T e r s).bnd fun x s => onS (itemsA s x) (fun xs => .ok (xs, [x]) s) .no := by
  rw [evI]; refine bind_ext fun x s => ?_; cases itemsA s x <;> rfl
@[simp] theorem evI_rng1 (e : E) : evI T (.rng1 e) r s = (ev T e r s).bnd fun x s => match x with
    | .d (.int j) => if rngOk 0 j then .ok ((upto 0 j.toNat).map fun i => .d (.int i), []) s else .no
    | _ => .no := by first | (rw [ev]; done) | (rw [ev]; rfl) | (rw [exS]; done) | (rw [exS]; rfl) | (rw [evI]; done) | (rw [evI]; rfl) | (simp only [ev, exS, evI, tri, onD, onL, onS, hnd, methR, aatR]; done)
@[simp] theorem evI_rng2 (a b : E) : evI T (.rng2 a b) r s = (ev T a r s).bnd fun x s => (ev T b r s).bnd fun y s => match x, y with
    | .d (.int i), .d (.int j) => if rngOk i j then .ok ((upto i (j - i).toNat).map fun i => .d (.int i), []) s else .no
    | _, _ => .no := by first | (rw [ev]; done) | (rw [ev]; rfl) | (rw [exS]; done) | (rw [exS]; rfl) | (rw [evI]; done) | (rw [evI]; rfl) | (simp only [ev, exS, evI, tri, onD, onL, onS, hnd, methR, aatR]; done)
/-! loops -/
theorem forGo_nil {tg : Tg} {w : List A} {b : Rh → Sto → Out} {s0 : Sto} : forGo tg w b s0 [] r s = .nx r s := rfl
/-- a loop that goes on: the slots and the store behind i turns -/
theorem forGo_inv {al : Type} {tg : Tg} {w : List A} {b : Rh → Sto → Out} {s0 : Sto} {enc : al → A} (R : Nat → Rh) (Q : Nat → Sto) : ∀ (l : List al) (k : Nat), (∀ i x, l[i]? = some x → ∃ r1, setTg tg (enc x) (R (k + i)) = some r1 ∧ b r1 (Q (k + i)) = .nx (R (k + i + 1)) (Q (k + i + 1)) ∧ w.all (fun a => stays a s0 (Q (k + i + 1))) = true) →
    forGo tg w b s0 (l.map enc) (R k) (Q k) = .nx (R (k + l.length)) (Q (k + l.length))
  | [], k, _ => rfl
  | x :: l, k, h => by
    obtain ⟨r1, h1, h2, h3⟩ := h 0 x rfl
    rw [Nat.add_zero] at h1 h2 h3
    rw [List.map_cons, forGo, h1]
    simp only [h2, h3, if_true]
    rw [forGo_inv R Q l (k + 1) fun i y hy => by
      have := h (i + 1) y (by simpa using hy)
      rw [show k + 1 + i = k + (i + 1) from by omega]
      exact this]
    rw [List.length_cons, show k + 1 + l.length = k + (l.length + 1) from by omega]
end
end Fb

/-! Ya: worlds.py by the evaluator. -/
namespace Fb
open PySem PySem.Spec PyProof.Rows L2 Evl
/-- worlds.py stands in Z -/
structure Zw (Z : Prg) : Prop where
  is_within : Z.fn "is_within" = some c_is_within
  is_world : Z.fn "is_world" = some c_is_world
  look_world : Z.fn "look_world" = some c_look_world
  is_name : Z.fn "is_name" = some c_is_name
  is_place : Z.fn "is_place" = some c_is_place
  is_wish : Z.fn "is_wish" = some c_is_wish
  look_wish : Z.fn "look_wish" = some c_look_wish
  is_booking : Z.fn "is_booking" = some c_is_booking
  HOURS : Z.gl "HOURS" = some (.d (.int 24))
  MOST_COPIES : Z.gl "MOST_COPIES" = some (.d (.int 5))
  MOST_ROOMS : Z.gl "MOST_ROOMS" = some (.d (.int 3))
  MOST_LONG : Z.gl "MOST_LONG" = some (.d (.int 6))
  MOST_WISHES : Z.gl "MOST_WISHES" = some (.d (.int 12))
  KEYS : Z.gl "KEYS" = some (.d (.tuple [.str "rank", .str "first", .str "short", .str "early"]))
  SMALL : Z.gl "SMALL" = some (.d (.str "abcdefghijklmnopqrstuvwxyz"))
theorem none_all {al be : Type} (l : List al) (p : al → Bool) (f : al → be) : ((l.filter fun c => !p c).map f).isEmpty = l.all p := by
  induction l with
  | nil => rfl
  | cons x l ih =>
    rw [List.filter_cons, List.all_cons, ← ih]
    cases p x <;> simp
section
variable {Z : Prg} (h : Zw Z) {s : Sto}
include h
theorem e_is_within (n : Nat) (x : PyData) (lo hi : Int) : callF Z (n + 1) "is_within" [.d x, .d (.int lo), .d (.int hi)] s = .ok (.d (.bool (within x lo hi))) s := by
  rw [callF_run h.is_within n s rfl]
  cases x <;> simp [c_is_within, tyIs, isInt, isBool, within]
  rename_i i
  cases decide (lo ≤ i) <;> simp
theorem e_is_place (n : Nat) (c r : Int) (ks : List Str) (long : Int) (x y : PyData) : callF Z (n + 2) "is_place" [.d (wD c r ks), .d (.int long), .d x, .d y] s = .ok (.d (.bool (isPlace r long x y))) s := by
  rw [callF_run h.is_place _ s rfl]
  simp [c_is_place, e_is_within h, h.HOURS, wD, ixA, atI, ixN, isPlace]
  cases within x 0 (r - 1) <;> simp [e_is_within h, h.HOURS, wD, ixA, atI, ixN]
theorem e_is_booking (n : Nat) (c r : Int) (ks : List Str) (x : PyData) : callF Z (n + 2) "is_booking" [.d (wD c r ks), .d x] s = .ok (.d (.bool (isBooking c x))) s := by
  rw [callF_run h.is_booking _ s rfl]
  cases x with
  | tuple xs =>
    match xs with
    | [a, b] =>
      simp [c_is_booking, e_is_within h, h.MOST_WISHES, wD, ixA, atI, ixN, isBooking, tyIs, isTup, b1A, lenA, lenD]
      cases within a 0 (c - 1) <;> simp [e_is_within h, h.MOST_WISHES, ixA, atI, ixN]
    | [] => simp [c_is_booking, wD, isBooking, tyIs, isTup, b1A, lenA, lenD]
    | [a] => simp [c_is_booking, wD, isBooking, tyIs, isTup, b1A, lenA, lenD]
    | a :: b :: c' :: xs =>
      have : ¬ ((xs.length : Int) + 1 + 1 + 1 = 2) := by omega
      simp [c_is_booking, wD, isBooking, tyIs, isTup, b1A, lenA, lenD, this]
  | _ => simp [c_is_booking, wD, isBooking, tyIs, isTup]
theorem e_is_name (n : Nat) (x : PyData) (hx : szOk x = true) : callF Z (n + 1) "is_name" [.d x] s = .ok (.d (.bool (isName x))) s := by
  rw [callF_run h.is_name _ s rfl]
  cases x with
  | str z =>
    have hz : z.length ≤ 1000 := by simpa [szOk] using hx
    have hz2 : z.length ≤ 100000 := by omega
    by_cases h1 : 1 ≤ (z.length : Int)
    · by_cases h2 : (z.length : Int) ≤ 4
      · have e := ev_lc0 (T := tabZ Z n) (own := [1]) (tg := .one 1) (elt := .slot 1) (c := .cmp .nin (.slot 1) (.glob "SMALL")) (it := .seq (.slot 0)) (r := [some (A.d (.str z)), none]) (s := s) (l := z.cps.toList) (enc := fun c => .d (.str ⟨#[c]⟩)) (w := [.d (.str z)]) (fun c => !decide (c ∈ smallTxt.cps.toList)) (fun c => .str ⟨#[c]⟩) (by simp [itemsA]) (by simp [stays]) (fun c hc => ⟨[some (A.d (.str z)), some (.d (.str ⟨#[c]⟩))], rfl, by simp [h.SMALL, cmpA, inA, smallTxt], fun _ => by simp⟩) (by
          have : z.cps.toList.length = z.length := by simp [Str.length]
          omega)
        rw [show isName (.str z) = z.cps.toList.all (fun c => decide (c ∈ smallTxt.cps.toList)) by simp [isName, h1, h2], ← none_all _ (fun c => decide (c ∈ smallTxt.cps.toList)) (fun c => PyData.str ⟨#[c]⟩)]
        simp only [c_is_name, List.map_cons, List.map_nil]
        simp [tyIs, isStr, b1A, lenA, hz2, h1, h2, e, -List.isEmpty_map]
      · simp [c_is_name, tyIs, isStr, b1A, lenA, hz2, isName, h1, h2]
    · simp [c_is_name, tyIs, isStr, b1A, lenA, hz2, isName, h1]
  | _ => simp [c_is_name, tyIs, isStr, isName]
theorem e_is_wish (n : Nat) (c r : Int) (ks : List Str) (x : PyData) (hx : szOk x = true) : callF Z (n + 3) "is_wish" [.d (wD c r ks), .d x] s = .ok (.d (.bool (isWish r x))) s := by
  rw [callF_run h.is_wish _ s rfl]
  cases x with
  | tuple xs =>
    match xs, hx with
    | [], _ => simp [c_is_wish, tyIs, isTup, b1A, lenA, lenD, isWish]
    | [_], _ => simp [c_is_wish, tyIs, isTup, b1A, lenA, lenD, isWish]
    | [_, _], _ => simp [c_is_wish, tyIs, isTup, b1A, lenA, lenD, isWish]
    | [_, _, _], _ => simp [c_is_wish, tyIs, isTup, b1A, lenA, lenD, isWish]
    | [_, _, _, _], _ => simp [c_is_wish, tyIs, isTup, b1A, lenA, lenD, isWish]
    | [nm, room, hour, long, rank], hx =>
      have e1 := fun m => e_is_name h (s := s) m nm ((szOk_tup hx).2 nm (by simp))
      cases hnm : isName nm with
      | false => cases long <;> simp [c_is_wish, tyIs, isTup, b1A, lenA, lenD, ixA, atI, ixN, e1, hnm, isWish]
      | true =>
        cases long with
        | int l =>
          simp [c_is_wish, tyIs, isTup, b1A, lenA, lenD, ixA, atI, ixN, e1, hnm, isWish, e_is_within h, e_is_place h, h.MOST_LONG]
          cases hl : within (.int l) 1 6 with
          | false =>
            have : (decide (1 ≤ l) && decide (l ≤ 6)) = false := hl
            simp [this]
          | true =>
            have : (decide (1 ≤ l) && decide (l ≤ 6)) = true := hl
            cases hp : isPlace r l room hour <;> simp [this, e_is_place h, hp, e_is_within h]
        | _ => simp [c_is_wish, tyIs, isTup, b1A, lenA, lenD, ixA, atI, ixN, e1, hnm, isWish, e_is_within h, h.MOST_LONG, within]
    | _ :: _ :: _ :: _ :: _ :: _ :: xs, _ =>
      have : ¬ ((xs.length : Int) + 1 + 1 + 1 + 1 + 1 + 1 = 5) := by omega
      simp [c_is_wish, tyIs, isTup, b1A, lenA, lenD, isWish, this]
  | _ => simp [c_is_wish, tyIs, isTup, isWish]
theorem e_look_wish (n : Nat) (c r : Int) (ks : List Str) (x : PyData) (hx : szOk x = true) : callF Z (n + 4) "look_wish" [.d (wD c r ks), .d x] s = if isWish r x = true then .ok (.d .none) s else .er "BadWish" s := by
  rw [callF_run h.look_wish _ s rfl]
  simp [c_look_wish, e_is_wish h _ c r ks x hx]
  cases isWish r x <;> simp
end
end Fb

/-! Yb: worlds, facts. -/
namespace Fb
open PySem PySem.Spec PyProof.Rows L2 Evl
@[simp] theorem ix_w0 (s : Sto) (c r : Int) (ks : List Str) : ixA s (.d (wD c r ks)) (.d (.int 0)) = some (.d (.int c)) := nr rfl
@[simp] theorem ix_w1 (s : Sto) (c r : Int) (ks : List Str) : ixA s (.d (wD c r ks)) (.d (.int 1)) = some (.d (.int r)) := nr rfl
@[simp] theorem ix_w2 (s : Sto) (c r : Int) (ks : List Str) : ixA s (.d (wD c r ks)) (.d (.int 2)) = some (.d (.tuple (ks.map .str))) := nr rfl
@[simp] theorem ix_p0 (s : Sto) (b : Pr) : ixA s (.d (prD b)) (.d (.int 0)) = some (.d (.int b.1)) := nr rfl
@[simp] theorem ix_p1 (s : Sto) (b : Pr) : ixA s (.d (prD b)) (.d (.int 1)) = some (.d (.int b.2)) := nr rfl
@[simp high] theorem mkT_pr (a b : Int) : mkT [.d (.int a), .d (.int b)] = some (.d (prD (a, b))) := nr rfl
structure WOk (c r : Int) (ks : List Str) : Prop where
  c1 : 1 ≤ c
  c5 : c ≤ 5
  r1 : 1 ≤ r
  r3 : r ≤ 3
  k : ∀ x ∈ ks, x ∈ keyNames
  n : ks.Nodup
theorem nodup_len {al : Type} [DecidableEq al] : ∀ (l m : List al), l.Nodup → (∀ x ∈ l, x ∈ m) → l.length ≤ m.length
  | [], m, _, _ => Nat.zero_le _
  | x :: l, m, h, hm => by
    obtain ⟨h1, h2⟩ := List.nodup_cons.mp h
    have := nodup_len l (m.erase x) h2 fun y hy => (List.mem_erase_of_ne (by rintro rfl; exact h1 hy)).mpr (hm y (List.mem_cons_of_mem _ hy))
    have hx := hm x List.mem_cons_self
    rw [List.length_erase_of_mem hx] at this
    have : 0 < m.length := List.length_pos_of_mem hx
    rw [List.length_cons]
    omega
theorem WOk.len {c r : Int} {ks : List Str} (w : WOk c r ks)   : ks.length ≤ 4 :=
  nodup_len ks keyNames w.n w.k
section
variable {Z : Prg} (h : Zw Z) {s : Sto}
include h
theorem e_is_world (n : Nat) {c r : Int} {ks : List Str} (w : WOk c r ks) : callF Z (n + 2) "is_world" [.d (wD c r ks)] s = .ok (.d (.bool true)) s := by
  rw [callF_run h.is_world _ s rfl]
  have e := ev_lc0 (T := tabZ Z (n + 1)) (own := [1]) (tg := .one 1) (elt := .slot 1) (c := .or_ (.not_ (.isi (.slot 1) .str)) (.cmp .nin (.slot 1) (.glob "KEYS"))) (it := .seq (.ix (.slot 0) (.lit (.int 2)))) (r := [some (A.d (wD c r ks)), none]) (s := s) (l := ks) (enc := fun k => .d (.str k)) (w := [.d (.tuple (ks.map .str))]) (fun k => !decide (k ∈ keyNames)) (fun k => .str k) (by simp [wD, ixA, atI, ixN, itemsA, Function.comp_def]) (by simp [stays]) (fun k hk => ⟨[some (A.d (wD c r ks)), some (.d (.str k))], rfl, by
    have hs : strsOf [.str "rank", .str "first", .str "short", .str "early"] = some keyNames := rfl
    simp [h.KEYS, cmpA, inA, tyIs, isStr, hs], fun _ => by simp⟩) (by have := w.len; omega)
  have hw : ks.filter (fun k => !decide (k ∈ keyNames)) = [] := by
    rw [List.filter_eq_nil_iff]; intro k hk; simp [w.k k hk]
  rw [hw] at e
  simp [wD] at e
  have h1 := w.c1
  have h2 := w.c5
  have h3 := w.r1
  have h4 := w.r3
  have hl := w.len
  simp [c_is_world, wD, tyIs, isTup, b1A, lenA, lenD, ixA, atI, ixN, e_is_within h, h.MOST_COPIES, h.MOST_ROOMS, within, h1, h2, h3, h4, e, strsOf_map, (dcn_nodup ks).mpr w.n, show ks.length ≤ 1000 by omega]
theorem e_look_world (n : Nat) {c r : Int} {ks : List Str} (w : WOk c r ks) : callF Z (n + 3) "look_world" [.d (wD c r ks)] s = .ok (.d .none) s := by
  rw [callF_run h.look_world _ s rfl]
  simp [c_look_world, e_is_world h _ w]
end
def sizK (k : Str) : Option Int := ([("wish", (4 : Int)), ("off", (2 : Int)), ("pin", (4 : Int))] : List (Str × Int)).lookup k
/-- the facts' defs stand in Z, too; sz: the name of the table of sizes -/
structure Zf (Z : Prg) (sz : Str) : Prop extends Zw Z where
  is_fact : Z.fn "is_fact" = some (c_is_factZ sz)
  look_facts : Z.fn "look_facts" = some c_look_facts
  MOST_CLOCK : Z.gl "MOST_CLOCK" = some (.d (.int 9999))
  kd : ∀ k, Z.kd sz k = sizK k
theorem sizK_wish : sizK "wish" = some 4 := by decide +kernel
theorem sizK_off : sizK "off" = some 2 := by decide +kernel
theorem sizK_pin : sizK "pin" = some 4 := by decide +kernel
theorem sizK_no {z : Str} (h1 : z ≠ "wish") (h2 : z ≠ "off") (h3 : z ≠ "pin") : sizK z = none := by
  have q1 : (z == ("wish" : Str)) = false := by simpa using h1
  have q2 : (z == ("off" : Str)) = false := by simpa using h2
  have q3 : (z == ("pin" : Str)) = false := by simpa using h3
  simp only [sizK, List.lookup, q1, q2, q3]
theorem off_ne_wish : (("off" : Str) = "wish") = False := by decide +kernel
theorem off_ne_pin : (("off" : Str) = "pin") = False := by decide +kernel
theorem wish_ne_off : (("wish" : Str) = "off") = False := by decide +kernel
theorem wish_ne_pin : (("wish" : Str) = "pin") = False := by decide +kernel
theorem pin_ne_off : (("pin" : Str) = "off") = False := by decide +kernel
theorem pin_ne_wish : (("pin" : Str) = "wish") = False := by decide +kernel
section
variable {Z : Prg} {sz : Str} (h : Zf Z sz) {s : Sto}
include h
theorem e_fact_len (n : Nat) (c r : Int) (ks : List Str) (z : Str) (xs : List PyData) (hl : ((xs.length : Int) + 1 = (sizK z).getD 0) = False) : callF Z (n + 4) "is_fact" [.d (wD c r ks), .d (.tuple (.str z :: xs))] s = .ok (.d (.bool false)) s := by
  rw [callF_run h.is_fact _ s rfl]
  simp [c_is_factZ, tyIs, isTup, isStr, h.kd, hl]
theorem e_fact_off (n : Nat) (c r : Int) (ks : List Str) (b : PyData) : callF Z (n + 4) "is_fact" [.d (wD c r ks), .d (.tuple [.str "off", b])] s = .ok (.d (.bool (isBooking c b))) s := by
  rw [callF_run h.is_fact _ s rfl]
  simp [c_is_factZ, tyIs, isTup, isStr, h.kd, sizK_off, e_is_booking h.toZw]
  cases isBooking c b <;> simp
theorem e_fact_mom (n : Nat) (c r : Int) (ks : List Str) (z : Str) (hz : z = "wish" ∨ z = "pin") (b m p : PyData) (hb : (isBooking c b && isMoment c m) = false) : callF Z (n + 4) "is_fact" [.d (wD c r ks), .d (.tuple [.str z, b, m, p])] s = .ok (.d (.bool false)) s := by
  have hs : (sizK z).getD 0 = 4 := by rcases hz with rfl | rfl <;> simp [sizK_wish, sizK_pin]
  have ho : (z = "off") = False := by rcases hz with rfl | rfl <;> simp only [wish_ne_off, pin_ne_off]
  rw [callF_run h.is_fact _ s rfl]
  cases hbb : isBooking c b with
  | false => simp [c_is_factZ, tyIs, isTup, isStr, h.kd, hs, ho, e_is_booking h.toZw, hbb]
  | true =>
    rw [hbb, Bool.true_and] at hb
    cases m with
    | tuple xs =>
      match xs, hb with
      | [], _ => simp [c_is_factZ, tyIs, isTup, isStr, h.kd, hs, ho, e_is_booking h.toZw, hbb]
      | [_], _ => simp [c_is_factZ, tyIs, isTup, isStr, h.kd, hs, ho, e_is_booking h.toZw, hbb]
      | _ :: _ :: _ :: xs, _ =>
        have : ¬ ((xs.length : Int) + 1 + 1 + 1 = 2) := by omega
        simp [c_is_factZ, tyIs, isTup, isStr, h.kd, hs, ho, e_is_booking h.toZw, hbb, this]
      | [t, k], hb =>
        cases ht : within t 1 9999 with
        | false => simp [c_is_factZ, tyIs, isTup, isStr, h.kd, hs, ho, e_is_booking h.toZw, hbb, e_is_within h.toZw, h.MOST_CLOCK, ht]
        | true =>
          have hk : within k 0 (c - 1) = false := by simpa [isMoment, ht] using hb
          simp [c_is_factZ, tyIs, isTup, isStr, h.kd, hs, ho, e_is_booking h.toZw, hbb, e_is_within h.toZw, h.MOST_CLOCK, ht, hk]
    | _ => simp [c_is_factZ, tyIs, isTup, isStr, h.kd, hs, ho, e_is_booking h.toZw, hbb]
theorem e_fact_wish (n : Nat) (c r : Int) (ks : List Str) (b m p : PyData) (hp : szOk p = true) (hb : isBooking c b = true) (hm : isMoment c m = true) : callF Z (n + 4) "is_fact" [.d (wD c r ks), .d (.tuple [.str "wish", b, m, p])] s = .ok (.d (.bool (isWish r p && sameCopy m b))) s := by
  obtain ⟨bb, rfl, _⟩ := booking_of hb
  match m, hm with
  | .tuple [t, k], hm =>
    have hm' : within t 1 9999 = true ∧ within k 0 (c - 1) = true := by simpa [isMoment] using hm
    obtain ⟨k, rfl, _, _⟩ := within_int hm'.2
    rw [callF_run h.is_fact _ s rfl]
    cases hw : isWish r p <;> simp [c_is_factZ, tyIs, isTup, isStr, h.kd, sizK_wish, wish_ne_off, e_is_booking h.toZw, hb, e_is_within h.toZw, h.MOST_CLOCK, hm', e_is_wish h.toZw _ c r ks p hp, hw, show sameCopy (.tuple [t, .int k]) (prD bb) = decide (k = bb.1) from rfl]
theorem e_fact_pin (n : Nat) (c r : Int) (ks : List Str) (b m p : PyData) (hb : isBooking c b = true) (hm : isMoment c m = true) : callF Z (n + 4) "is_fact" [.d (wD c r ks), .d (.tuple [.str "pin", b, m, p])] s = .ok (.d (.bool (isSpot r p))) s := by
  match m, hm with
  | .tuple [t, k], hm =>
    have hm' : within t 1 9999 = true ∧ within k 0 (c - 1) = true := by simpa [isMoment] using hm
    rw [callF_run h.is_fact _ s rfl]
    cases p with
    | tuple xs =>
      match xs with
      | [] => simp [c_is_factZ, tyIs, isTup, isStr, h.kd, sizK_pin, pin_ne_off, pin_ne_wish, e_is_booking h.toZw, hb, e_is_within h.toZw, h.MOST_CLOCK, hm', isSpot]
      | [_] => simp [c_is_factZ, tyIs, isTup, isStr, h.kd, sizK_pin, pin_ne_off, pin_ne_wish, e_is_booking h.toZw, hb, e_is_within h.toZw, h.MOST_CLOCK, hm', isSpot]
      | _ :: _ :: _ :: xs =>
        have : ¬ ((xs.length : Int) + 1 + 1 + 1 = 2) := by omega
        simp [c_is_factZ, tyIs, isTup, isStr, h.kd, sizK_pin, pin_ne_off, pin_ne_wish, e_is_booking h.toZw, hb, e_is_within h.toZw, h.MOST_CLOCK, hm', isSpot, this]
      | [x, y] => simp [c_is_factZ, tyIs, isTup, isStr, h.kd, sizK_pin, pin_ne_off, pin_ne_wish, e_is_booking h.toZw, hb, e_is_within h.toZw, h.MOST_CLOCK, hm', isSpot, e_is_place h.toZw]
    | _ => simp [c_is_factZ, tyIs, isTup, isStr, h.kd, sizK_pin, pin_ne_off, pin_ne_wish, e_is_booking h.toZw, hb, e_is_within h.toZw, h.MOST_CLOCK, hm', isSpot]
theorem e_is_fact (n : Nat) (c r : Int) (ks : List Str) (y : PyData) (hy : szOk y = true) : callF Z (n + 4) "is_fact" [.d (wD c r ks), .d y] s = .ok (.d (.bool (isFact c r y))) s := by
  cases y with
  | tuple ys =>
    match ys with
    | [] => rw [callF_run h.is_fact _ s rfl]; simp [c_is_factZ, tyIs, isTup, isFact]
    | a :: xs =>
      cases a with
      | str z =>
        by_cases hz : z = "off"
        · subst hz
          match xs with
          | [b] => rw [e_fact_off h]; simp [isFact]
          | [] => rw [e_fact_len h _ _ _ _ _ _ (by simp [sizK_off])]; rfl
          | [_, _] => rw [e_fact_len h _ _ _ _ _ _ (by simp [sizK_off])]; rfl
          | [b, m, p] => rw [e_fact_len h _ _ _ _ _ _ (by simp [sizK_off])]; simp [isFact, off_ne_wish, off_ne_pin]
          | _ :: _ :: _ :: _ :: xs => rw [e_fact_len h _ _ _ _ _ _ (by simp [sizK_off]; omega)]; rfl
        · by_cases hz2 : z = "wish" ∨ z = "pin"
          · have hs : (sizK z).getD 0 = 4 := by rcases hz2 with rfl | rfl <;> simp [sizK_wish, sizK_pin]
            match xs with
            | [] => rw [e_fact_len h _ _ _ _ _ _ (by simp [hs])]; rfl
            | [_] => rw [e_fact_len h _ _ _ _ _ _ (by simp [hs])]; simp [isFact, hz]
            | [_, _] => rw [e_fact_len h _ _ _ _ _ _ (by simp [hs])]; rfl
            | _ :: _ :: _ :: _ :: xs => rw [e_fact_len h _ _ _ _ _ _ (by simp [hs]; omega)]; rfl
            | [b, m, p] =>
              cases hbm : (isBooking c b && isMoment c m) with
              | false => rw [e_fact_mom h _ _ _ _ _ hz2 _ _ _ hbm]; simp [isFact, hbm]
              | true =>
                have hh := hbm
                rw [Bool.and_eq_true] at hh
                rcases hz2 with rfl | rfl
                · rw [e_fact_wish h _ _ _ _ _ _ _ ((szOk_tup hy).2 p (by simp)) hh.1 hh.2]; simp [isFact, hbm, wish_ne_pin]
                · rw [e_fact_pin h _ _ _ _ _ _ _ hh.1 hh.2]; simp [isFact, hbm, pin_ne_wish]
          · have h1 : z ≠ "wish" := fun q => hz2 (.inl q)
            have h2 : z ≠ "pin" := fun q => hz2 (.inr q)
            rw [e_fact_len h _ _ _ _ _ _ (by simp [sizK_no h1 hz h2]; omega)]
            match xs with
            | [] => rfl
            | [_] => simp [isFact, hz]
            | [_, _] => rfl
            | [_, _, _] => simp [isFact, h1, h2]
            | _ :: _ :: _ :: _ :: xs => rfl
      | _ => rw [callF_run h.is_fact _ s rfl]; simp [c_is_factZ, tyIs, isTup, isStr, ixA, atI, ixN, isFact]
  | _ => rw [callF_run h.is_fact _ s rfl]; simp [c_is_factZ, tyIs, isTup, isFact]
theorem e_look_facts (n : Nat) (c r : Int) (ks : List Str) (ys : List PyData) (hy : szOk (.tuple ys) = true) : callF Z (n + 5) "look_facts" [.d (wD c r ks), .d (.tuple ys)] s = if ys.all (isFact c r) = true then .ok (.d .none) s else .er "BadFacts" s := by
  have hl := szOk_tup hy
  have e := ev_lc0 (T := tabZ Z (n + 4)) (own := [2]) (tg := .one 2) (elt := .slot 2) (c := .not_ (.call "is_fact" (.cons (.slot 0) (.cons (.slot 2) Es.nil)))) (it := .seq (.slot 1)) (r := [some (A.d (wD c r ks)), some (.d (.tuple ys)), none]) (s := s) (l := ys) (enc := fun y => .d y) (w := [.d (.tuple ys)]) (fun y => !isFact c r y) (fun y => y) (by simp [itemsA]) (by simp [stays]) (fun y hy => ⟨[some (A.d (wD c r ks)), some (.d (.tuple ys)), some (.d y)], rfl, by simp [e_is_fact h _ c r ks y (hl.2 y hy)], fun _ => by simp⟩) (by omega)
  have hn := none_all ys (isFact c r) (fun y => y)
  rw [callF_run h.look_facts _ s rfl]
  cases ha : ys.all (isFact c r) with
  | false =>
    rw [ha] at hn
    simp only [List.map_id'] at hn e
    simp [c_look_facts, tyIs, isTup, e, hn]
  | true =>
    rw [ha] at hn
    simp only [List.map_id'] at hn e
    simp [c_look_facts, tyIs, isTup, e, hn]
end
end Fb

/-! Yc: copies.py by the evaluator. -/
namespace Fb
open PySem PySem.Spec PyProof.Rows L2 Evl
/-- what a copy holds, plain -/
structure Cp where
  mine : Int
  fs : List Fct
  clock : Int
  own : Int
  seen : List (Pr × Option Pr)
def obC (w : PyData) (q : Nat) (b : Cp) : Ob := .ins [("world", .d w), ("mine", .d (.int b.mine)), ("facts", .ref q), ("clock", .d (.int b.clock)), ("own", .d (.int b.own)), ("seen", .dT (mapA kB plD b.seen))]
structure CAt (s : Sto) (w : PyData) (p q : Nat) (b : Cp) : Prop where
  o : s.P[p]? = some (obC w q b)
  l : s.P[q]? = some (.lst (b.fs.map Fct.d))
theorem sto_mk {s s' : Sto} (h : s'.S = s.S) : (⟨s'.P, s.S⟩ : Sto) = s' := by rw [← h]
/-- nothing but p and q changes -/
structure Fz (s s' : Sto) (p q : Nat) : Prop where
  len : s'.P.length = s.P.length
  S : s'.S = s.S
  o : ∀ i, i ≠ p → i ≠ q → s'.P[i]? = s.P[i]?
theorem Fz.rfl' (s : Sto) (p q : Nat) : Fz s s p q := ⟨rfl, rfl, fun _ _ _ => rfl⟩
theorem Fz.tr {s s' s'' : Sto} {p q : Nat} (a : Fz s s' p q) (b : Fz s' s'' p q) : Fz s s'' p q := ⟨b.len.trans a.len, b.S.trans a.S, fun i h1 h2 => (b.o i h1 h2).trans (a.o i h1 h2)⟩
theorem fz_p (s : Sto) (p q : Nat) (x : Ob) : Fz s ⟨s.P.set p x, s.S⟩ p q := ⟨List.length_set, rfl, fun i h1 _ => List.getElem?_set_ne (Ne.symm h1)⟩
theorem fz_q (s : Sto) (p q : Nat) (x : Ob) : Fz s ⟨s.P.set q x, s.S⟩ p q := ⟨List.length_set, rfl, fun i _ h1 => List.getElem?_set_ne (Ne.symm h1)⟩
section
variable {s : Sto} {w : PyData} {p q : Nat} {b : Cp}
theorem CAt.ne (h : CAt s w p q b) : p ≠ q := by
  rintro rfl
  have := h.o.symm.trans h.l
  cases this
theorem CAt.frame {s' : Sto} {p' q' : Nat} (h : CAt s w p q b) (f : Fz s s' p' q') (h1 : p ≠ p') (h2 : p ≠ q') (h3 : q ≠ p') (h4 : q ≠ q') : CAt s' w p q b := ⟨(f.o p h1 h2).trans h.o, (f.o q h3 h4).trans h.l⟩
theorem CAt.lt_p (h : CAt s w p q b) : p < s.P.length := (List.getElem?_eq_some_iff.mp h.o).1
theorem CAt.lt_q (h : CAt s w p q b) : q < s.P.length := (List.getElem?_eq_some_iff.mp h.l).1
theorem CAt.attr (h : CAt s w p q b) (f : Str) : attrA s (.ref p) f = ([("world", .d w), ("mine", .d (.int b.mine)), ("facts", .ref q), ("clock", .d (.int b.clock)), ("own", .d (.int b.own)), ("seen", .dT (mapA kB plD b.seen))] : List (Str × A)).lookup f := by
  show (match s.P[p]? with | some (.ins fs) => fs.lookup f | _ => none) = _
  rw [h.o]
  rfl
theorem CAt.world (h : CAt s w p q b) : attrA s (.ref p) "world" = some (.d w) := (h.attr _).trans rfl
theorem CAt.mine (h : CAt s w p q b) : attrA s (.ref p) "mine" = some (.d (.int b.mine)) := (h.attr _).trans rfl
theorem CAt.facts (h : CAt s w p q b) : attrA s (.ref p) "facts" = some (.ref q) := (h.attr _).trans rfl
theorem CAt.clock (h : CAt s w p q b) : attrA s (.ref p) "clock" = some (.d (.int b.clock)) := (h.attr _).trans rfl
theorem CAt.own (h : CAt s w p q b) : attrA s (.ref p) "own" = some (.d (.int b.own)) := (h.attr _).trans rfl
theorem CAt.seen (h : CAt s w p q b) : attrA s (.ref p) "seen" = some (.dT (mapA kB plD b.seen)) := (h.attr _).trans rfl
theorem CAt.rdq (h : CAt s w p q b) : rd s (.ref q) = .d (.list (b.fs.map Fct.d)) := by
  show (match s.P[q]? with | some o => rdO (.ref q) o | none => .ref q) = _
  rw [h.l]
  rfl
theorem CAt.app (h : CAt s w p q b) (y : PyData) (hl : b.fs.length ≤ 100000) : chg s (.ref q) (appO (.d y)) = some ⟨s.P.set q (.lst (b.fs.map Fct.d ++ [y])), s.S⟩ := by
  show (match s.P[q]? with | some o => (appO (.d y) o).map fun o => (⟨s.P.set q o, s.S⟩ : Sto) | none => none) = _
  rw [h.l]
  show (if (b.fs.map Fct.d).length ≤ 100000 then some (Ob.lst (b.fs.map Fct.d ++ [y])) else none).map _ = _
  rw [if_pos (by simpa using hl)]
  rfl
theorem CAt.sat (h : CAt s w p q b) (f : Str) (v : A) (hv : noLoc v = true) : chg s (.ref p) (satO f v) = some ⟨s.P.set p (.ins (putL [("world", .d w), ("mine", .d (.int b.mine)), ("facts", .ref q), ("clock", .d (.int b.clock)), ("own", .d (.int b.own)), ("seen", .dT (mapA kB plD b.seen))] f v)), s.S⟩ := by
  show (match s.P[p]? with | some o => (satO f v o).map fun o => (⟨s.P.set p o, s.S⟩ : Sto) | none => none) = _
  rw [h.o]
  show (if 6 < 1000 ∧ noLoc v = true then some _ else none).map _ = _
  rw [if_pos ⟨by decide, hv⟩]
  rfl
theorem CAt.sat_clock (h : CAt s w p q b) (k : Int) : chg s (.ref p) (satO "clock" (.d (.int k))) = some ⟨s.P.set p (obC w q { b with clock := k }), s.S⟩ := (h.sat _ _ rfl).trans rfl
theorem CAt.sat_own (h : CAt s w p q b) (k : Int) : chg s (.ref p) (satO "own" (.d (.int k))) = some ⟨s.P.set p (obC w q { b with own := k }), s.S⟩ := (h.sat _ _ rfl).trans rfl
theorem CAt.sat_seen (h : CAt s w p q b) (k : List (Pr × Option Pr)) : chg s (.ref p) (satO "seen" (.dT (mapA kB plD k))) = some ⟨s.P.set p (obC w q { b with seen := k }), s.S⟩ := (h.sat _ _ rfl).trans rfl
theorem CAt.set_p (h : CAt s w p q b) {b' : Cp} (hf : b'.fs = b.fs) : CAt ⟨s.P.set p (obC w q b'), s.S⟩ w p q b' := ⟨by simp [h.lt_p], by
  show (s.P.set p _)[q]? = _
  rw [List.getElem?_set_ne h.ne, h.l, hf]⟩
theorem CAt.set_q (h : CAt s w p q b) (fs : List Fct) : CAt ⟨s.P.set q (.lst (fs.map Fct.d)), s.S⟩ w p q { b with fs := fs } := ⟨by
  show (s.P.set q _)[p]? = _
  rw [List.getElem?_set_ne (Ne.symm h.ne), h.o]; rfl, by simp [h.lt_q]⟩
def isFld (m : Str) : Bool := ([ "world", "mine", "facts", "clock", "own", "seen"] : List Str).contains m
theorem CAt.meth (h : CAt s w p q b) {m : Str} (k : Res A) (hm : isFld m = false) : methR (s.P[p]?) m k = k := by
  rw [h.o]
  refine methR_ins k ?_
  simp only [isFld, List.contains_cons, List.contains_nil, Bool.or_eq_false_iff] at hm
  obtain ⟨h1, h2, h3, h4, h5, h6, _⟩ := hm
  simp only [List.lookup, h1, h2, h3, h4, h5, h6]
@[simp] theorem fld_put : isFld "put" = false := by decide +kernel
@[simp] theorem fld_tick : isFld "tick" = false := by decide +kernel
@[simp] theorem fld_look_known : isFld "look_known" = false := by decide +kernel
@[simp] theorem fld_wish : isFld "wish" = false := by decide +kernel
@[simp] theorem fld_off : isFld "off" = false := by decide +kernel
@[simp] theorem fld_pin : isFld "pin" = false := by decide +kernel
@[simp] theorem fld_told : isFld "told" = false := by decide +kernel
@[simp] theorem fld_heard : isFld "heard" = false := by decide +kernel
@[simp] theorem fld_places : isFld "places" = false := by decide +kernel
@[simp] theorem fld_place : isFld "place" = false := by decide +kernel
@[simp] theorem fld_listed : isFld "listed" = false := by decide +kernel
@[simp] theorem fld_news : isFld "news" = false := by decide +kernel
@[simp] theorem fld_day : isFld "day" = false := by decide +kernel
@[simp] theorem fld_is_at_pin : isFld "is_at_pin" = false := by decide +kernel
end
def putS (fs : List Fct) (f : Fct) : List Fct := if f ∈ fs then fs else fs ++ [f]
theorem putS_mem {fs : List Fct} {f g : Fct} : g ∈ putS fs f ↔ g ∈ fs ∨ g = f := by
  unfold putS
  split
  · rename_i h
    exact ⟨.inl, fun z => z.elim id fun e => e ▸ h⟩
  · simp
theorem putS_len (fs : List Fct) (f : Fct) : (putS fs f).length ≤ fs.length + 1 := by
  unfold putS
  split
  · omega
  · simp
theorem shaped_fcts {c r : Int} {fs : List Fct} (h : ∀ f ∈ fs, FctOk c r f) : SeqAt.shaped (.list (fs.map Fct.d)) = true := good_list fun x hx => by
  obtain ⟨f, hf, rfl⟩ := List.mem_map.mp hx
  exact good_fct (h f hf)
theorem in_fcts {s : Sto} {c r : Int} {fs : List Fct} {f : Fct} {a : A} (ha : rd s a = .d (.list (fs.map Fct.d))) (h : ∀ f ∈ fs, FctOk c r f) (hf : FctOk c r f) : inA s (.d f.d) a = some (decide (f ∈ fs)) := by
  unfold inA
  rw [ha]
  show (if SeqAt.shaped f.d = true ∧ SeqAt.shaped (.list (fs.map Fct.d)) = true then some ((fs.map Fct.d).any fun z => PyData.eqv z f.d) else none) = _
  rw [if_pos ⟨(good_fct hf).shaped, shaped_fcts h⟩, any_eqv_fct]
theorem chg_mid (P0 tl S : List Ob) (fs : List (Str × A)) (f : Str) (v : A) (hf : fs.length < 1000) (hv : noLoc v = true) : chg ⟨P0 ++ .ins fs :: tl, S⟩ (.ref P0.length) (satO f v) = some ⟨P0 ++ .ins (putL fs f v) :: tl, S⟩ := by
  show (match (P0 ++ Ob.ins fs :: tl)[P0.length]? with | some o => (satO f v o).map fun o => (⟨(P0 ++ Ob.ins fs :: tl).set P0.length o, S⟩ : Sto) | none => none) = _
  rw [show (P0 ++ Ob.ins fs :: tl)[P0.length]? = some (.ins fs) by simp]
  show (if fs.length < 1000 ∧ noLoc v = true then some _ else none).map _ = _
  rw [if_pos ⟨hf, hv⟩]
  simp
/-- copies.py stands in Z -/
structure Zc (Z : Prg) (sz : Str) : Prop extends Zf Z sz where
  init : Z.fn "__init__" = some c_Copy_init
  put : Z.fn "put" = some c_Copy_put
  tick : Z.fn "tick" = some c_Copy_tick
section
variable {Z : Prg} {sz : Str} (h : Zc Z sz) {s : Sto} {c r : Int} {ks : List Str} {p q : Nat} {b : Cp}
include h
theorem e_put (n : Nat) (A : CAt s (wD c r ks) p q b) (hb : ∀ f ∈ b.fs, FctOk c r f) (hl : b.fs.length ≤ 100000) {f : Fct} (hf : FctOk c r f) : ∃ s', callF Z (n + 1) "put" [.ref p, .d f.d] s = .ok (.d .none) s' ∧ CAt s' (wD c r ks) p q { b with fs := putS b.fs f } ∧ Fz s s' p q := by
  rw [callF_run h.put _ s rfl]
  by_cases hm : f ∈ b.fs
  · refine ⟨s, ?_, ?_, Fz.rfl' s p q⟩
    · simp [c_Copy_put, A.facts, cmpA, in_fcts A.rdq hb hf, hm]
    · rw [putS, if_pos hm]; exact A
  · refine ⟨⟨s.P.set q (.lst ((b.fs ++ [f]).map Fct.d)), s.S⟩, ?_, ?_, fz_q s p q _⟩
    · simp [c_Copy_put, A.facts, cmpA, in_fcts A.rdq hb hf, hm, A.rdq, A.app f.d hl]
    · rw [putS, if_neg hm]; exact A.set_q _
theorem e_tick (n : Nat) (A : CAt s (wD c r ks) p q b) : ∃ s', callF Z (n + 1) "tick" [.ref p] s = .ok (.d (prD (b.clock + 1, b.mine))) s' ∧ CAt s' (wD c r ks) p q { b with clock := b.clock + 1 } ∧ Fz s s' p q := by
  rw [callF_run h.tick _ s rfl]
  have A2 : CAt _ (wD c r ks) p q { b with clock := b.clock + 1 } := A.set_p rfl
  refine ⟨⟨s.P.set p (obC (wD c r ks) q { b with clock := b.clock + 1 }), s.S⟩, ?_, A2, fz_p s p q _⟩
  simp [c_Copy_tick, A.clock, A.sat_clock, A2.clock, A2.mine]
theorem e_init (n : Nat) (w : WOk c r ks) {m : Int} (hm : 0 ≤ m ∧ m ≤ c - 1) {P0 : List Ob} : ∃ s', callF Z (n + 4) "__init__" [.ref P0.length, .d (wD c r ks), .d (.int m)] ⟨P0 ++ [.ins []], s.S⟩ = .ok (.d .none) s' ∧ CAt s' (wD c r ks) P0.length (P0.length + 1) ⟨m, [], 0, 0, []⟩ ∧ s'.S = s.S ∧ s'.P.length = P0.length + 2 ∧ ∀ i < P0.length, s'.P[i]? = P0[i]? := by
  rw [callF_run h.init _ _ rfl]
  refine ⟨⟨P0 ++ [obC (wD c r ks) (P0.length + 1) ⟨m, [], 0, 0, []⟩, .lst []], s.S⟩, ?_, ⟨by simp, by simp⟩, rfl, by simp, fun i hi => by simp [List.getElem?_append_left hi]⟩
  have hw : within (.int m) 0 (c - 1) = true := by simp [within, hm]
  have e1 : chg ⟨P0 ++ [.ins []], s.S⟩ (.ref P0.length) (satO "world" (.d (wD c r ks))) = some ⟨P0 ++ [.ins [("world", .d (wD c r ks))]], s.S⟩ := (chg_mid P0 [] _ _ _ _ (by simp) rfl).trans rfl
  have e2 : chg ⟨P0 ++ [.ins [("world", .d (wD c r ks))]], s.S⟩ (.ref P0.length) (satO "mine" (.d (.int m))) = some ⟨P0 ++ [.ins [("world", .d (wD c r ks)), ("mine", .d (.int m))]], s.S⟩ := (chg_mid P0 [] _ _ _ _ (by simp) rfl).trans rfl
  have e3 : chg ⟨P0 ++ [.ins [("world", .d (wD c r ks)), ("mine", .d (.int m))], .lst []], s.S⟩ (.ref P0.length) (satO "facts" (.ref (P0.length + 1))) = some ⟨P0 ++ [.ins [("world", .d (wD c r ks)), ("mine", .d (.int m)), ("facts", .ref (P0.length + 1))], .lst []], s.S⟩ := (chg_mid P0 [.lst []] _ _ _ _ (by simp) rfl).trans rfl
  have e4 : chg ⟨P0 ++ [.ins [("world", .d (wD c r ks)), ("mine", .d (.int m)), ("facts", .ref (P0.length + 1))], .lst []], s.S⟩ (.ref P0.length) (satO "clock" (.d (.int 0))) = some ⟨P0 ++ [.ins [("world", .d (wD c r ks)), ("mine", .d (.int m)), ("facts", .ref (P0.length + 1)), ("clock", .d (.int 0))], .lst []], s.S⟩ := (chg_mid P0 [.lst []] _ _ _ _ (by simp) rfl).trans rfl
  have e5 : chg ⟨P0 ++ [.ins [("world", .d (wD c r ks)), ("mine", .d (.int m)), ("facts", .ref (P0.length + 1)), ("clock", .d (.int 0))], .lst []], s.S⟩ (.ref P0.length) (satO "own" (.d (.int 0))) = some ⟨P0 ++ [.ins [("world", .d (wD c r ks)), ("mine", .d (.int m)), ("facts", .ref (P0.length + 1)), ("clock", .d (.int 0)), ("own", .d (.int 0))], .lst []], s.S⟩ := (chg_mid P0 [.lst []] _ _ _ _ (by simp) rfl).trans rfl
  have e6 : chg ⟨P0 ++ [.ins [("world", .d (wD c r ks)), ("mine", .d (.int m)), ("facts", .ref (P0.length + 1)), ("clock", .d (.int 0)), ("own", .d (.int 0))], .lst []], s.S⟩ (.ref P0.length) (satO "seen" (.dT [])) = some ⟨P0 ++ [obC (wD c r ks) (P0.length + 1) ⟨m, [], 0, 0, []⟩, .lst []], s.S⟩ := (chg_mid P0 [.lst []] _ _ _ _ (by simp) rfl).trans rfl
  have e7 : newL 2 [] ⟨P0 ++ [.ins [("world", .d (wD c r ks)), ("mine", .d (.int m))]], s.S⟩ = .ok (.ref (P0.length + 1)) ⟨P0 ++ [.ins [("world", .d (wD c r ks)), ("mine", .d (.int m))], .lst []], s.S⟩ := by simp [newL, allD]
  simp [c_Copy_init, e_look_world h.toZw _ w, e_is_within h.toZw, hw, e1, e2, e3, e4, e5, e6, e7, newT]
end
end Fb

/-! Yd: wishes_in, and what leans on it. -/
namespace Fb
open PySem PySem.Spec PyProof.Rows L2 Evl
def Fct.word : Fct → Str
  | .off _ => "off"
  | .pin _ _ _ => "pin"
  | .wish _ _ _ => "wish"
@[simp] theorem ix_f0 (s : Sto) (f : Fct) : ixA s (.d f.d) (.d (.int 0)) = some (.d (.str f.word)) := by cases f <;> rfl
@[simp] theorem ix_f1 (s : Sto) (f : Fct) : ixA s (.d f.d) (.d (.int 1)) = some (.d (prD f.bk)) := by cases f <;> rfl
def Fct.two : Fct → PyData
  | .off _ => .none
  | .pin _ m _ => prD m
  | .wish _ m _ => prD m
def Fct.thr : Fct → PyData
  | .off _ => .none
  | .pin _ _ p => prD p
  | .wish _ _ w => wshD w
def Fct.isOff : Fct → Bool
  | .off _ => true
  | _ => false
def Fct.isPin : Fct → Bool
  | .pin _ _ _ => true
  | _ => false
def Fct.isWsh : Fct → Bool
  | .wish _ _ _ => true
  | _ => false
theorem ix_f2 (s : Sto) {f : Fct} (h : f.isOff = false) : ixA s (.d f.d) (.d (.int 2)) = some (.d f.two) := by cases f <;> first | rfl | cases h
theorem ix_f3 (s : Sto) {f : Fct} (h : f.isOff = false) : ixA s (.d f.d) (.d (.int 3)) = some (.d f.thr) := by cases f <;> first | rfl | cases h
theorem word_off (f : Fct) : decide (f.word = "off") = f.isOff := by cases f <;> simp [Fct.word, Fct.isOff, Fct.isPin, Fct.isWsh, off_ne_pin, off_ne_wish, pin_ne_off, pin_ne_wish, wish_ne_off, wish_ne_pin]
theorem word_pin (f : Fct) : decide (f.word = "pin") = f.isPin := by cases f <;> simp [Fct.word, Fct.isOff, Fct.isPin, Fct.isWsh, off_ne_pin, off_ne_wish, pin_ne_off, pin_ne_wish, wish_ne_off, wish_ne_pin]
theorem word_wish (f : Fct) : decide (f.word = "wish") = f.isWsh := by cases f <;> simp [Fct.word, Fct.isOff, Fct.isPin, Fct.isWsh, off_ne_pin, off_ne_wish, pin_ne_off, pin_ne_wish, wish_ne_off, wish_ne_pin]
theorem isWsh_off {f : Fct} (h : f.isWsh = true) : f.isOff = false := by cases f <;> first | rfl | cases h
theorem isPin_off {f : Fct} (h : f.isPin = true) : f.isOff = false := by cases f <;> first | rfl | cases h
theorem in_prs {s : Sto} {l : List Pr} {a : A} (ha : rd s a = .d (.list (l.map prD))) (b : Pr) : inA s (.d (prD b)) a = some (decide (b ∈ l)) := by
  unfold inA
  rw [ha]
  show (if SeqAt.shaped (prD b) = true ∧ SeqAt.shaped (.list (l.map prD)) = true then some ((l.map prD).any fun z => PyData.eqv z (prD b)) else none) = _
  rw [if_pos ⟨(good_pr b).shaped, good_list fun x hx => by
    obtain ⟨f, hf, rfl⟩ := List.mem_map.mp hx
    exact good_pr f⟩, any_eqv_pr]
@[simp] theorem cmp_in_prs {s : Sto} (l : List Pr) (b : Pr) : cmpA s .in_ (.d (prD b)) (.d (.list (l.map prD))) = some (decide (b ∈ l)) := by
  show inA s (.d (prD b)) (.d (.list (l.map prD))) = _
  exact in_prs (by rfl) b
@[simp] theorem cmp_nin_prs {s : Sto} (l : List Pr) (b : Pr) : cmpA s .nin (.d (prD b)) (.d (.list (l.map prD))) = some (!decide (b ∈ l)) := by
  show (inA s (.d (prD b)) (.d (.list (l.map prD)))).map (! ·) = _
  rw [in_prs (l := l) (by rfl) b]; rfl
theorem same_int (i : Int) : PyData.same (.int i) (.int i) = true := by simp [PyData.same]
theorem same_str (i : Str) : PyData.same (.str i) (.str i) = true := by simp [PyData.same]
theorem same_pr (b : Pr) : PyData.same (prD b) (prD b) = true := by simp [prD, PyData.same, PyData.sameL]
theorem same_wsh (b : Wsh) : PyData.same (wshD b) (wshD b) = true := by simp [wshD, PyData.same, PyData.sameL]
theorem same_fct (f : Fct) : PyData.same f.d f.d = true := by cases f <;> simp [Fct.d, PyData.same, PyData.sameL, same_pr, same_wsh]
theorem same_fcts (fs : List Fct) : PyData.sameL (fs.map Fct.d) (fs.map Fct.d) = true := by
  induction fs with
  | nil => rfl
  | cons f fs ih => rw [List.map_cons, PyData.sameL, same_fct, ih]; rfl
/-- a list of facts, at hand: a datum, or an object -/
structure FsAt (s : Sto) (a : A) (fs : List Fct) : Prop where
  rd : rd s a = .d (.list (fs.map Fct.d))
  st : stays a s s = true
theorem FsAt.items {s : Sto} {a : A} {fs : List Fct} (h : FsAt s a fs) : itemsA s a = some (fs.map fun f => .d f.d) := by
  unfold itemsA
  rw [h.rd]
  simp
theorem CAt.fsAt {s : Sto} {w : PyData} {p q : Nat} {b : Cp} (h : CAt s w p q b) : FsAt s (.ref q) b.fs := ⟨h.rdq, by
  show sameOb s.P[q]? s.P[q]? = true
  rw [h.l]
  exact same_fcts _⟩
theorem fsAt_d (s : Sto) (fs : List Fct) : FsAt s (.d (.list (fs.map Fct.d))) fs := ⟨rfl, rfl⟩
theorem offS_eq (fs : List Fct) : (fs.filter Fct.isOff).map (fun f => prD f.bk) = (offS fs).map prD := by
  unfold offS
  induction fs with
  | nil => rfl
  | cons f fs ih => cases f <;> simp_all [List.filter_cons, Fct.isOff, List.filterMap_cons, Fct.bk]
def wEn (e : Pr × (Pr × Wsh)) : PyData := .tuple [prD e.1, mwD e.2]
theorem wishL_eq (fs gs : List Fct) : (fs.filter fun f => f.isWsh && !decide (f.bk ∈ offS gs)).map (fun f => .tuple [prD f.bk, .tuple [f.two, f.thr]]) = (fs.filterMap (wishE (offS gs))).map wEn := by
  induction fs with
  | nil => rfl
  | cons f fs ih =>
    cases f with
    | off b => simpa [List.filter_cons, Fct.isWsh, List.filterMap_cons, wishE] using ih
    | pin b m p => simpa [List.filter_cons, Fct.isWsh, List.filterMap_cons, wishE] using ih
    | wish b m w =>
      by_cases hb : b ∈ offS gs
      · simp [List.filter_cons, Fct.isWsh, List.filterMap_cons, wishE, Fct.bk, hb] at ih ⊢; exact ih
      · simp [List.filter_cons, Fct.isWsh, List.filterMap_cons, wishE, Fct.bk, hb] at ih ⊢; exact ⟨by rfl, ih⟩
theorem pairs_wEn (l : List (Pr × (Pr × Wsh))) : pairsD (l.map wEn) = some (mapA kB mwD l) := by
  induction l with
  | nil => rfl
  | cons e l ih =>
    rw [List.map_cons, wEn, pairsD, ih]
    rfl
theorem wishL_len (fs : List Fct) : (wishL fs).length ≤ fs.length := List.length_filterMap_le _ _
structure Zd (Z : Prg) (sz : Str) : Prop extends Zc Z sz where
  wishes_in : Z.fn "wishes_in" = some c_wishes_in
section
variable {Z : Prg} (h : Z.fn "wishes_in" = some c_wishes_in) {s : Sto}
include h
theorem e_wishes_in (n : Nat) {a : A} {fs : List Fct} (F : FsAt s a fs) (hl : fs.length ≤ 100000) : callF Z (n + 1) "wishes_in" [a] s = .ok (.dT (mapA kB mwD (wishesS fs))) s := by
  have e1 := ev_lc0 (T := tabZ Z n) (own := [2]) (tg := .one 2) (elt := .ix (.slot 2) (.lit (.int 1))) (c := .cmp .eq (.ix (.slot 2) (.lit (.int 0))) (.lit (.str "off"))) (it := .seq (.slot 0)) (r := [some a, none, none]) (s := s) (l := fs) (enc := fun f => .d f.d) (w := [a]) Fct.isOff (fun f => prD f.bk) (by simp [F.items]) (by simp [F.st]) (fun f hf => ⟨[some a, none, some (.d f.d)], rfl, by simp [word_off], fun _ => by simp⟩) hl
  rw [offS_eq] at e1
  have e2 := ev_lc0 (T := tabZ Z n) (own := [2]) (tg := .one 2) (elt := .tup (.cons (.ix (.slot 2) (.lit (.int 1))) (.cons (.tup (.cons (.ix (.slot 2) (.lit (.int 2))) (.cons (.ix (.slot 2) (.lit (.int 3))) Es.nil))) Es.nil))) (c := .and_ (.cmp .eq (.ix (.slot 2) (.lit (.int 0))) (.lit (.str "wish"))) (.cmp .nin (.ix (.slot 2) (.lit (.int 1))) (.slot 1))) (it := .seq (.slot 0)) (r := [some a, some (.d (.list ((offS fs).map prD))), none]) (s := s) (l := fs) (enc := fun f => .d f.d) (w := [a]) (fun f => f.isWsh && !decide (f.bk ∈ offS fs)) (fun f => .tuple [prD f.bk, .tuple [f.two, f.thr]]) (by simp [F.items]) (by simp [F.st]) (fun f hf => ⟨[some a, some (.d (.list ((offS fs).map prD))), some (.d f.d)], rfl, by
    cases hw : f.isWsh <;> simp [word_wish, hw], fun hp => by
    have hw : f.isOff = false := isWsh_off (by rw [Bool.and_eq_true] at hp; exact hp.1)
    simp [ix_f2 s hw, ix_f3 s hw]⟩) hl
  rw [wishL_eq fs fs] at e2
  rw [callF_run h _ s rfl]
  have hlw := wishL_len fs
  have e3 : b1A .dict 0 s (.d (.list ((fs.filterMap (wishE (offS fs))).map wEn))) = .ok (.dT (mapA kB mwD (wishesS fs))) s := by
    show (match pairsD ((fs.filterMap (wishE (offS fs))).map wEn) with | some kvs => if kvs.length ≤ 100000 then newT 0 (mergeA [] kvs) s else .no | none => .no) = _
    rw [pairs_wEn]
    show (if (mapA kB mwD (wishL fs)).length ≤ 100000 then newT 0 (mergeA [] (mapA kB mwD (wishL fs))) s else .no) = _
    rw [if_pos (by simp [mapA]; omega)]
    have := mergeA_map (f := kB) (fun a b hab => kB_inj hab) mwD (wishL fs) []
    show Res.ok (A.dT (mergeA [] (mapA kB mwD (wishL fs)))) s = _
    rw [show mergeA [] (mapA kB mwD (wishL fs)) = mapA kB mwD (mergeA [] (wishL fs)) from this]
    rfl
  simp [c_wishes_in, e1, e2, e3, fin, back, Sto.cut]
end
end Fb

/-! Ye: copies: look_known, wish, off, told, heard. -/
namespace Fb
open PySem PySem.Spec PyProof.Rows L2 Evl
theorem sz_wsh {r : Int} {w : Wsh} (h : WshOk r w) : szOk (wshD w) = true := by
  have h1 : (decide (1 ≤ (w.name.length : Int)) && decide ((w.name.length : Int) ≤ 4) && w.name.cps.toList.all fun c => decide (c ∈ smallTxt.cps.toList)) = true := h.name
  simp only [Bool.and_eq_true, decide_eq_true_iff] at h1
  show (decide (5 ≤ 1000) && (szOk (.str w.name) && (true && (true && (true && (true && true)))))) = true
  rw [show szOk (.str w.name) = true from decide_eq_true (by omega)]
  rfl
theorem szOk_tup_iff {xs : List PyData} : szOk (.tuple xs) = true ↔ xs.length ≤ 1000 ∧ ∀ x ∈ xs, szOk x = true := by
  rw [szOk, Bool.and_eq_true, decide_eq_true_iff, szAll_iff]
theorem sz_fct {c r : Int} {f : Fct} (h : FctOk c r f) : szOk f.d = true := by
  cases f with
  | off b => rfl
  | pin b m p => rfl
  | wish b m w =>
    have := sz_wsh h.2.2.1
    show (decide (4 ≤ 1000) && (true && (true && (true && (szOk (wshD w) && true))))) = true
    rw [this]
    rfl
theorem sz_fcts {c r : Int} {fs : List Fct} (h : ∀ f ∈ fs, FctOk c r f) (hl : fs.length ≤ 1000) : szOk (.tuple (fs.map Fct.d)) = true := szOk_tup_iff.mpr ⟨by rw [List.length_map]; exact hl, fun x hx => by
  obtain ⟨f, hf, rfl⟩ := List.mem_map.mp hx
  exact sz_fct (h f hf)⟩
@[simp] theorem b1_tupL (s : Sto) (m : Nat) (ds : List PyData) : b1A .tuple m s (.d (.list ds)) = .ok (.d (.tuple ds)) s := nr rfl
@[simp] theorem b1_tupT (s : Sto) (m : Nat) (ds : List PyData) : b1A .tuple m s (.d (.tuple ds)) = .ok (.d (.tuple ds)) s := nr rfl
theorem sortOk_B {ds : List PyData} (h : SortOk ds) : sortOkB ds = true := by
  unfold sortOkB
  simp only [Bool.and_eq_true, List.all_eq_true, decide_eq_true_eq]
  refine ⟨⟨⟨⟨fun d hd => ?_, h.lay⟩, h.dp⟩, fun d hd e he => ?_⟩, fun d hd e he => ?_⟩
  · obtain ⟨x, r, rfl⟩ := h.tup d hd
    rfl
  · obtain ⟨x, r, rfl⟩ := h.tup d hd
    obtain ⟨y, q, rfl⟩ := h.tup e he
    simpa using h.fst x r y q hd he
  · obtain ⟨x, r, rfl⟩ := h.tup d hd
    obtain ⟨y, q, rfl⟩ := h.tup e he
    exact h.cmp _ _ hd he
theorem b1_sorted0 {s : Sto} {a : A} {ds : List PyData} (ha : rd s a = .d (.list ds)) (h : SortOk ds) (hl : ds.length ≤ 100000) : b1A .sorted 0 s a = .ok (.d (.list (sortD ds))) s := by
  show (match rd s a with | .d (.list ds) => _ | .dT kvs => _ | _ => _) = _
  rw [ha]
  show (if sortOkB ds = true then newL 0 ((sortD ds).map .d) s else .no) = _
  rw [if_pos (sortOk_B h), newL0]
  rw [show (sortD ds).length = ds.length from (isort_perm ds).length_eq]
  exact hl
def knownB (c : Int) (fs : List Fct) (bb : Pr) : Bool := isBooking c (prD bb) && (getA (wishesS fs) bb).isSome
/-- a copy holds what may be held -/
structure CpOk (c r : Int) (b : Cp) (N : Nat) : Prop where
  ok : ∀ f ∈ b.fs, FctOk c r f
  len : b.fs.length ≤ N
  mine : 0 ≤ b.mine ∧ b.mine ≤ c - 1
  own : 0 ≤ b.own
  clock : 0 ≤ b.clock
theorem in_dT {s : Sto} {a : A} {al : Type} {g : al → PyData} {kvs : List (Pr × al)} (ha : rd s a = .dT (mapA kB g kvs)) (b : Pr) : inA s (.d (prD b)) a = some (getA kvs b).isSome := by
  unfold inA
  rw [ha]
  show some (getA (mapA kB g kvs) (kB b)).isSome = _
  rw [getA_map (fun a b hab => kB_inj hab)]
  simp
@[simp] theorem cmp_in_dT {s : Sto} {al : Type} (g : al → PyData) (kvs : List (Pr × al)) (b : Pr) : cmpA s .in_ (.d (prD b)) (.dT (mapA kB g kvs)) = some (getA kvs b).isSome := by
  show inA s (.d (prD b)) (.dT (mapA kB g kvs)) = _
  exact in_dT (by rfl) b
@[simp] theorem cmp_nin_dT {s : Sto} {al : Type} (g : al → PyData) (kvs : List (Pr × al)) (b : Pr) : cmpA s .nin (.d (prD b)) (.dT (mapA kB g kvs)) = some (!(getA kvs b).isSome) := by
  show (inA s (.d (prD b)) (.dT (mapA kB g kvs))).map (! ·) = _
  rw [in_dT (kvs := kvs) (g := g) (by rfl) b]; rfl
structure Ze (Z : Prg) (sz : Str) : Prop extends Zd Z sz where
  look_known : Z.fn "look_known" = some c_Copy_look_known
  wish : Z.fn "wish" = some c_Copy_wish
  off : Z.fn "off" = some c_Copy_off
  told : Z.fn "told" = some c_Copy_told
  heard : Z.fn "heard" = some c_Copy_heard
def Cp.put (b : Cp) (f : Fct) : Cp := { b with fs := putS b.fs f }
def Cp.newF (b : Cp) (w : Wsh) : Fct := .wish (b.mine, b.own) (b.clock + 1, b.mine) w
def Cp.wish (b : Cp) (w : Wsh) : Cp := { b with own := b.own + 1, clock := b.clock + 1, fs := putS b.fs (b.newF w) }
def Fct.mom : Fct → Int
  | .off _ => 0
  | .pin _ m _ => m.1
  | .wish _ m _ => m.1
def Cp.hear (b : Cp) (f : Fct) : Cp := { b with fs := putS b.fs f, clock := if f.isOff = true then b.clock else if f.mom > b.clock then f.mom else b.clock }
theorem putS_ok {c r : Int} {fs : List Fct} {f : Fct} (h : ∀ g ∈ fs, FctOk c r g) (hf : FctOk c r f) : ∀ g ∈ putS fs f, FctOk c r g := fun g hg => by
  rcases putS_mem.mp hg with hg | rfl
  · exact h g hg
  · exact hf
theorem CpOk.put {c r : Int} {b : Cp} {N : Nat} (h : CpOk c r b N) {f : Fct} (hf : FctOk c r f) : CpOk c r (b.put f) (N + 1) := ⟨putS_ok h.ok hf, by have := putS_len b.fs f; have := h.len; show (putS b.fs f).length ≤ _; omega, h.mine, h.own, h.clock⟩
theorem CpOk.hear {c r : Int} {b : Cp} {N : Nat} (h : CpOk c r b N) {f : Fct} (hf : FctOk c r f) : CpOk c r (b.hear f) (N + 1) := ⟨putS_ok h.ok hf, by have := putS_len b.fs f; have := h.len; show (putS b.fs f).length ≤ _; omega, h.mine, h.own, by
  have := h.clock
  show 0 ≤ if f.isOff = true then b.clock else if f.mom > b.clock then f.mom else b.clock
  split
  · exact this
  · split <;> omega⟩
theorem CpOk.newF {c r : Int} {b : Cp} {N : Nat} (h : CpOk c r b N) {w : Wsh} (hw : WshOk r w) (ho : b.own ≤ 11) (hc : b.clock ≤ 9998) : FctOk c r (b.newF w) := by
  have h1 := h.mine
  have h2 := h.own
  have h3 := h.clock
  exact ⟨⟨h1.1, h1.2, h2, ho⟩, ⟨by show 1 ≤ b.clock + 1; omega, by show b.clock + 1 ≤ 9999; omega, h1.1, h1.2⟩, hw, rfl⟩
section
variable {Z : Prg} {sz : Str} (h : Ze Z sz) {s : Sto} {c r : Int} {ks : List Str} {p q : Nat} {b : Cp} {N : Nat}
include h
theorem e_look_known (n : Nat) (A : CAt s (wD c r ks) p q b) (B : CpOk c r b N) (hN : N ≤ 90000) (bb : Pr) : callF Z (n + 3) "look_known" [.ref p, .d (prD bb)] s = if knownB c b.fs bb = true then .ok (.d .none) s else .er "NoBooking" s := by
  rw [callF_run h.look_known _ s rfl]
  have hl := B.len
  cases h1 : isBooking c (prD bb) with
  | false => simp [c_Copy_look_known, A.world, e_is_booking h.toZw, h1, knownB]
  | true =>
    cases h2 : (getA (wishesS b.fs) bb).isSome <;> simp [c_Copy_look_known, A.world, A.facts, e_is_booking h.toZw, h1, h2, knownB, e_wishes_in h.wishes_in _ A.fsAt (show b.fs.length ≤ 100000 by omega)]
theorem e_wish (n : Nat) (A : CAt s (wD c r ks) p q b) (B : CpOk c r b N) (hN : N ≤ 90000) {w : Wsh} (hw : WshOk r w) (ho : b.own ≤ 11) (hc : b.clock ≤ 9998) : ∃ s', callF Z (n + 5) "wish" [.ref p, .d (wshD w)] s = .ok (.d (prD (b.mine, b.own))) s' ∧ CAt s' (wD c r ks) p q (b.wish w) ∧ Fz s s' p q := by
  have A1 : CAt _ (wD c r ks) p q { b with own := b.own + 1 } := A.set_p rfl
  obtain ⟨s2, e2, A2, F2⟩ := e_tick h.toZc (n + 3) A1
  have hl := B.len
  obtain ⟨s3, e3, A3, F3⟩ := e_put h.toZc (n + 3) A2 (b := { b with own := b.own + 1, clock := b.clock + 1 }) B.ok (show b.fs.length ≤ 100000 by omega) (B.newF hw ho hc)
  refine ⟨s3, ?_, A3, (fz_p s p q _).tr (F2.tr F3)⟩
  have h12 : ¬ (b.own = 12) := by omega
  have hi : isWish r (wshD w) = true := isWish_iff.mpr hw
  have hS : s3.S = s.S := F3.S.trans F2.S
  have e2' : callF Z (n + 3 + 1) "tick" [.ref p] ⟨s.P.set p (obC (wD c r ks) q { b with own := b.own + 1 }), s.S⟩ = .ok (.d (prD (b.clock + 1, b.mine))) s2 := e2
  have e3' : callF Z (n + 3 + 1) "put" [.ref p, .d (.tuple [.str "wish", prD (b.mine, b.own), prD (b.clock + 1, b.mine), wshD w])] s2 = .ok (.d .none) s3 := e3
  rw [callF_run h.wish _ s rfl]
  simp [c_Copy_wish, A.world, A.own, A.mine, h.MOST_WISHES, e_look_wish h.toZw _ c r ks (wshD w) (sz_wsh hw), hi, h12, A.sat_own, A1.meth, e2', A2.meth, e3', hS, sto_mk hS]
theorem e_off (n : Nat) (A : CAt s (wD c r ks) p q b) (B : CpOk c r b N) (hN : N ≤ 90000) {bb : Pr} (hk : knownB c b.fs bb = true) : ∃ s', callF Z (n + 4) "off" [.ref p, .d (prD bb)] s = .ok (.d .none) s' ∧ CAt s' (wD c r ks) p q (b.put (.off bb)) ∧ Fz s s' p q := by
  have hl := B.len
  have hf : FctOk c r (.off bb) := by
    have : isBooking c (prD bb) = true := by rw [knownB, Bool.and_eq_true] at hk; exact hk.1
    exact isBooking_iff.mp this
  obtain ⟨s3, e3, A3, F3⟩ := e_put h.toZc (n + 2) A B.ok (show b.fs.length ≤ 100000 by omega) hf
  refine ⟨s3, ?_, A3, F3⟩
  have e3' : callF Z (n + 2 + 1) "put" [.ref p, .d (.tuple [.str "off", prD bb])] s = .ok (.d .none) s3 := e3
  rw [callF_run h.off _ s rfl]
  simp [c_Copy_off, A.meth, e_look_known h _ A B hN, hk, e3', F3.S, sto_mk F3.S]
theorem e_off_no (n : Nat) (A : CAt s (wD c r ks) p q b) (B : CpOk c r b N) (hN : N ≤ 90000) {bb : Pr} (hk : knownB c b.fs bb = false) : callF Z (n + 4) "off" [.ref p, .d (prD bb)] s = .er "NoBooking" s := by
  rw [callF_run h.off _ s rfl]
  simp [c_Copy_off, A.meth, e_look_known h _ A B hN, hk]
theorem e_told (n : Nat) (A : CAt s (wD c r ks) p q b) (B : CpOk c r b N) (hN : N ≤ 90000) : callF Z (n + 1) "told" [.ref p] s = .ok (.d (.tuple ((isort ltFc b.fs).map Fct.d))) s := by
  have hl := B.len
  rw [callF_run h.told _ s rfl]
  have e := b1_sorted0 A.rdq (sortOk_fct B.ok) (show (b.fs.map Fct.d).length ≤ 100000 by rw [List.length_map]; omega)
  rw [sort_fct] at e
  simp [c_Copy_told, A.facts, e]
theorem hear_loop (n : Nat) {w : List A} (hw : ∀ s s' : Sto, w.all (fun a => stays a s s') = true) {a1 a2 : A} {s0 : Sto} : ∀ (gs : List Fct) (b : Cp) (s : Sto) (N : Nat) (x : Option A), CAt s (wD c r ks) p q b → CpOk c r b N → N + gs.length ≤ 90000 → (∀ g ∈ gs, FctOk c r g) → ∃ s' x', forGo (.one 3) w (exSs (tabZ Z (n + 1)) (.cons (.ex (.meth (.slot 0) "put" (.cons (.slot 3) Es.nil)))
  (.cons (.ite (.cmp .ne (.ix (.slot 3) (.lit (.int 0))) (.lit (.str "off")))
  (.cons (.sat (.slot 0) "clock" (.b2 .max (.attr (.slot 0) "clock") (.ix (.ix (.slot 3) (.lit (.int 2))) (.lit (.int 0)))))
  .nil)
  .nil)
  .nil))) s0 (gs.map fun f => .d f.d) [some (.ref p), some a1, some a2, x] s = .nx [some (.ref p), some a1, some a2, x'] s' ∧ CAt s' (wD c r ks) p q (gs.foldl Cp.hear b) ∧ CpOk c r (gs.foldl Cp.hear b) (N + gs.length) ∧ Fz s s' p q
  | [], b, s, N, x, A, B, _, _ => ⟨s, x, rfl, A, B, Fz.rfl' s p q⟩
  | g :: gs, b, s, N, x, A, B, hN, hg => by
    rw [List.length_cons] at hN
    have hl := B.len
    have hgo := hg g List.mem_cons_self
    obtain ⟨s1, e1, A1, F1⟩ := e_put h.toZc n A B.ok (by omega) hgo
    have B1 := B.hear hgo
    have key : ∃ s2, exSs (tabZ Z (n + 1)) (.cons (.ex (.meth (.slot 0) "put" (.cons (.slot 3) Es.nil)))
  (.cons (.ite (.cmp .ne (.ix (.slot 3) (.lit (.int 0))) (.lit (.str "off")))
  (.cons (.sat (.slot 0) "clock" (.b2 .max (.attr (.slot 0) "clock") (.ix (.ix (.slot 3) (.lit (.int 2))) (.lit (.int 0)))))
  .nil)
  .nil)
  .nil)) [some (.ref p), some a1, some a2, some (.d g.d)] s = .nx [some (.ref p), some a1, some a2, some (.d g.d)] s2 ∧ CAt s2 (wD c r ks) p q (b.hear g) ∧ Fz s s2 p q := by
      cases ho : g.isOff with
      | true =>
        refine ⟨s1, ?_, ?_, F1⟩
        · simp [A.meth, e1, word_off, ho]
        · rw [Cp.hear, if_pos ho]; exact A1
      | false =>
        have A2 : CAt _ (wD c r ks) p q { b with fs := putS b.fs g, clock := if g.mom > b.clock then g.mom else b.clock } := A1.set_p rfl
        refine ⟨_, ?_, by rw [Cp.hear, if_neg (by rw [ho]; exact Bool.noConfusion)]; exact A2, F1.tr (fz_p _ _ _ _)⟩
        have h2 : ixA s1 (.d g.two) (.d (.int 0)) = some (.d (.int g.mom)) := by cases g <;> first | rfl | cases ho
        simp [A.meth, e1, word_off, ho, ix_f2 _ ho, A1.clock, h2, b2Pre, b2A, A1.sat_clock]
    obtain ⟨s2, e2, A2, F2⟩ := key
    obtain ⟨s3, x3, e3, A3, B3, F3⟩ := hear_loop n hw (a1 := a1) (a2 := a2) (s0 := s0) gs (b.hear g) s2 (N + 1) (some (.d g.d)) A2 B1 (by omega) fun f hf => hg f (List.mem_cons_of_mem _ hf)
    refine ⟨s3, x3, ?_, A3, by rw [List.length_cons, show N + (gs.length + 1) = N + 1 + gs.length by omega]; exact B3, F2.tr F3⟩
    rw [List.map_cons, forGo]
    simp only [setTg, List.set]
    rw [e2]
    simp only [hw, if_true]
    exact e3
theorem e_heard (n : Nat) (A : CAt s (wD c r ks) p q b) (B : CpOk c r b N) {gs : List Fct} (hN : N + gs.length ≤ 90000) (hg : ∀ g ∈ gs, FctOk c r g) (hl : gs.length ≤ 1000) : ∃ s', callF Z (n + 6) "heard" [.ref p, .d (.tuple (gs.map Fct.d))] s = .ok (.d (.int ((gs.foldl Cp.hear b).fs.length - b.fs.length))) s' ∧ CAt s' (wD c r ks) p q (gs.foldl Cp.hear b) ∧ CpOk c r (gs.foldl Cp.hear b) (N + gs.length) ∧ Fz s s' p q := by
  obtain ⟨s1, x1, e1, A1, B1, F1⟩ := hear_loop h (n + 4) (w := [.d (.tuple (gs.map Fct.d))]) (fun _ _ => rfl) (a1 := .d (.tuple (gs.map Fct.d))) (a2 := .d (.int b.fs.length)) (s0 := s) gs b s N none A B hN hg
  refine ⟨s1, ?_, A1, B1, F1⟩
  have hf : (gs.map Fct.d).all (isFact c r) = true := by
    rw [List.all_eq_true]; intro x hx
    obtain ⟨f, hf, rfl⟩ := List.mem_map.mp hx
    exact isFact_iff.mpr (hg f hf)
  have hz : szOk (.tuple (gs.map Fct.d)) = true := sz_fcts hg hl
  have hi : itemsA s (.d (.tuple (gs.map Fct.d))) = some (gs.map fun f => .d f.d) := by simp [itemsA]
  have l1 : ∀ m, b1A .len m s (.ref q) = .ok (.d (.int b.fs.length)) s := fun m => by simp [b1A, lenA, A.rdq, lenD]
  have l2 : ∀ m, b1A .len m s1 (.ref q) = .ok (.d (.int (gs.foldl Cp.hear b).fs.length)) s1 := fun m => by simp [b1A, lenA, A1.rdq, lenD]
  have e4 := e_look_facts h.toZf (s := s) n c r ks _ hz
  rw [if_pos hf] at e4
  rw [callF_run h.heard _ s rfl]
  simp [c_Copy_heard, A.world, e4, A.facts, l1, hi, stays, e1, A1.facts, l2, F1.S, sto_mk F1.S]
end
end Fb

/-! Yf: how the laws draw. -/
namespace Fb
open PySem PySem.Spec PyProof.Rows L2 Evl
/-- a loop that goes on, by what holds behind i turns -/
theorem forGo_P {al : Type} {tg : Tg} {w : List A} {b : Rh → Sto → Out} {s0 : Sto} {enc : al → A} (P : Nat → Rh → Sto → Prop) : ∀ (l : List al) (k : Nat) (r : Rh) (s : Sto), (∀ i x r s, l[i]? = some x → P (k + i) r s → ∃ r1 r2 s2, setTg tg (enc x) r = some r1 ∧ b r1 s = .nx r2 s2 ∧ w.all (fun a => stays a s0 s2) = true ∧ P (k + i + 1) r2 s2) → P k r s → ∃ r' s', forGo tg w b s0 (l.map enc) r s = .nx r' s' ∧ P (k + l.length) r' s'
  | [], k, r, s, _, h0 => ⟨r, s, rfl, h0⟩
  | x :: l, k, r, s, h, h0 => by
    obtain ⟨r1, r2, s2, h1, h2, h3, h4⟩ := h 0 x r s rfl h0
    obtain ⟨r', s', h5, h6⟩ := forGo_P (tg := tg) (w := w) (b := b) (s0 := s0) (enc := enc) P l (k + 1) r2 s2 (fun i y r s hy hp => by
      have := h (i + 1) y r s (by simpa using hy) (by rw [show k + (i + 1) = k + 1 + i by omega]; exact hp)
      rw [show k + (i + 1) + 1 = k + 1 + i + 1 by omega] at this
      exact this) h4
    refine ⟨r', s', ?_, by rw [List.length_cons, show k + (l.length + 1) = k + 1 + l.length by omega]; exact h6⟩
    rw [List.map_cons, forGo, h1]
    simp only [h2, h3, if_true]
    exact h5
section
variable {s : Sto}
theorem bin_mul_r (i j : Int) (h : -(2 ^ 64) < j ∧ j < 2 ^ 64) : binA s .mul (.d (.int i)) (.d (.int j)) = some (.d (.int (i * j))) := by
  show (if -(2 ^ 64) < j ∧ j < 2 ^ 64 then some (PyData.int (i * j)) else if -(2 ^ 64) < i ∧ i < 2 ^ 64 then some (.int (i * j)) else none).map A.d = _
  rw [if_pos h]; rfl
theorem bin_mul_l (i j : Int) (h : -(2 ^ 64) < i ∧ i < 2 ^ 64) : binA s .mul (.d (.int i)) (.d (.int j)) = some (.d (.int (i * j))) := by
  show (if -(2 ^ 64) < j ∧ j < 2 ^ 64 then some (PyData.int (i * j)) else if -(2 ^ 64) < i ∧ i < 2 ^ 64 then some (.int (i * j)) else none).map A.d = _
  rw [if_pos h]; split <;> rfl
theorem bin_mod (i j : Int) (h : 0 < j) : binA s .mod (.d (.int i)) (.d (.int j)) = some (.d (.int (i % j))) := by
  show (if 0 < j then some (PyData.int (i % j)) else none).map A.d = _
  rw [if_pos h]; rfl
theorem bin_div (i j : Int) (h : 0 < j ∧ j < 1073741824) : binA s .fdiv (.d (.int i)) (.d (.int j)) = some (.d (.int (i / j))) := by
  show (if 0 < j ∧ j < 1073741824 then some (PyData.int (i / j)) else none).map A.d = _
  rw [if_pos h]; rfl
theorem bin_pow (i j : Int) (h : 0 ≤ j ∧ j ≤ 1000000 ∧ i.natAbs < 2 ^ 64) : binA s .pow (.d (.int i)) (.d (.int j)) = some (.d (.int (i ^ j.toNat))) := by
  show (if 0 ≤ j ∧ j ≤ 1000000 ∧ i.natAbs < 2 ^ 64 then some (PyData.int (i ^ j.toNat)) else none).map A.d = _
  rw [if_pos h]; rfl
@[simp] theorem b2_min (i j : Int) : b2A .min s (.d (.int i)) (.d (.int j)) = some (.d (.int (minZ i j))) := nr rfl
@[simp] theorem b2_max (i j : Int) : b2A .max s (.d (.int i)) (.d (.int j)) = some (.d (.int (if j > i then j else i))) := nr rfl
end
/-- a comprehension with no test -/
theorem ev_lc1 {T : Tab} {r : Rh} {s : Sto} {al : Type} {own : List Nat} {elt : E} {tg : Tg} {it : I} {w : List A} {l : List al} {enc : al → A} (f : al → PyData) (hi : evI T it r s = .ok (l.map enc, w) s) (hw : w.all (fun a => stays a s s) = true)
    (hx : ∀ x ∈ l, ∃ r1, setTg tg (enc x) (wipeA r own) = some r1 ∧ ev T elt r1 s = .ok (.d (f x)) s) (hl : l.length ≤ 100000) : ev T (.lc 0 own elt tg it (.lit (.bool true))) r s = .ok (.d (.list (l.map f))) s := by
  have := ev_lc0 (own := own) (elt := elt) (tg := tg) (c := .lit (.bool true)) (fun _ => true) f hi hw (fun x hx' => by
    obtain ⟨r1, h1, h2⟩ := hx x hx'
    exact ⟨r1, h1, by simp, fun _ => h2⟩) hl
  rw [this, List.filter_eq_self.mpr (fun _ _ => rfl)]
def mixZ (c m k : Int) : Int := (c * 48271 % m) ^ 3 % m % k
theorem gd_key {k : Str} (h : k ∈ keyNames) : Good (.str k) := by
  simp only [keyNames, List.mem_cons, List.not_mem_nil, or_false] at h
  rcases h with rfl | rfl | rfl | rfl <;> exact ⟨rfl, by decide +kernel, by simp [PyData.depth]⟩
theorem keysOf_len (z : Int) (n : Nat) : (keysOf z n).length ≤ 4 := nodup_len _ keyNames (keysOf_ok z n).2 (keysOf_ok z n).1
structure Zg (Z : Prg) : Prop where
  cell : Z.fn "_law_cell" = some c_law_cell
  seed : Z.fn "_law_seed" = some c_law_seed
  pick : Z.fn "_law_pick" = some c_law_pick
  world : Z.fn "_law_world" = some c_law_world
  lwish : Z.fn "_law_wish" = some c_law_wish
theorem e_mix {Z : Prg} (h : Z.fn "_law_mix" = some c_law_mix) {s : Sto} (n : Nat) (c m k : Int) (hm : 0 < m ∧ m < 2 ^ 64) (hk : 0 < k) : callF Z (n + 1) "_law_mix" [.d (.int c), .d (.int m), .d (.int k)] s = .ok (.d (.int (mixZ c m k))) s := by
  rw [callF_run h _ s rfl]
  have h1 : (c * 48271 % m).natAbs < 2 ^ 64 := by
    have a := Int.emod_nonneg (c * 48271) (show m ≠ 0 by omega)
    have b := Int.emod_lt_of_pos (c * 48271) hm.1
    omega
  simp [c_law_mix, bin_mul_r _ 48271 (by decide), bin_mod _ m hm.1, bin_pow _ 3 ⟨by decide, by decide, h1⟩, bin_mod _ k hk, mixZ]
section
variable {Z : Prg} (h : Zg Z) {s : Sto}
include h
theorem e_cell (n : Nat) (ns : List Int) (k : Nat) : callF Z (n + 1) "_law_cell" [.sc ns, .d (.int k)] s = .ok (.d (.int (cellZ ns k))) s := by
  rw [callF_run h.cell _ s rfl]
  by_cases hk : k < ns.length
  · have : (k : Int) < ns.length := by omega
    have e : (atI ns (k : Int)) = some (cellZ ns k) := by rw [Fb.atI_nat, cellZ, List.getD_eq_getElem?_getD]; simp [hk]
    simp [c_law_cell, this, e]
  · have : ¬ ((k : Int) < ns.length) := by omega
    simp [c_law_cell, this, cellZ, List.getD_eq_getElem?_getD, List.getElem?_eq_none (show ns.length ≤ k by omega)]
theorem e_cellI (n : Nat) (ns : List Int) (k : Int) (hk : 0 ≤ k) : callF Z (n + 1) "_law_cell" [.sc ns, .d (.int k)] s = .ok (.d (.int (cellZ ns k.toNat))) s := by
  have := e_cell h (s := s) n ns k.toNat
  rwa [Int.toNat_of_nonneg hk] at this
theorem e_seed (n : Nat) (x k : Int) : callF Z (n + 1) "_law_seed" [.d (.int x), .d (.int k)] s = .ok (.d (.int (seedZ x k))) s := by
  rw [callF_run h.seed _ s rfl]
  have h1 : ((x * 1103515245 + 7919 * k + 12345) % 2147483647).natAbs < 2 ^ 64 := by omega
  simp [c_law_seed, bin_mul_r _ 1103515245 (by decide), bin_mul_l 7919 _ (by decide), bin_mod _ 2147483647 (by decide), bin_pow _ 5 ⟨by decide, by decide, h1⟩, seedZ]
theorem e_pick (n : Nat) (x m : Int) (hm : 0 < m) : callF Z (n + 1) "_law_pick" [.d (.int x), .d (.int m)] s = .ok (.d (.int (pickZ x m))) s := by
  rw [callF_run h.pick _ s rfl]
  simp [c_law_pick, bin_div _ 97 (by decide), bin_mod _ m hm, pickZ]
theorem e_world (n : Nat) (x : Int) : callF Z (n + 2) "_law_world" [.d (.int x)] s = .ok (.d (worldOf x)) s := by
  rw [callF_run h.world _ s rfl]
  have hz := seedZ_lo x 9
  have hz2 := seedZ_hi x 9
  obtain ⟨z, hzz⟩ : ∃ z, seedZ x 9 = z := ⟨_, rfl⟩
  have hm : rngOk 0 (z / 3 % 5) = true := by
    have : 0 ≤ z / 3 % 5 ∧ z / 3 % 5 < 5 := by omega
    simp only [rngOk, Bool.and_eq_true, decide_eq_true_iff]; omega
  obtain ⟨r', s', e1, p⟩ := forGo_P (al := Int) (tg := .one 3) (w := []) (s0 := s) (enc := fun i => .d (.int i)) (b := exSs (tabZ Z (n + 1)) (.cons (.set 4 (.ix (.slot 1) (.call "_law_pick" (.cons (.call "_law_seed" (.cons (.slot 0) (.cons (.slot 3) Es.nil))) (.cons (.lit (.int 4)) Es.nil)))))
  (.cons (.set 2 (.bin .add (.slot 2) (.rep 0 (.cons (.slot 4) Es.nil) (.b1 .int 0 (.cmp .nin (.slot 4) (.slot 2))))))
  .nil))) (fun i r s' => s' = s ∧ ∃ a b, r = [some (.d (.int z)), some (.d (.list [.str "rank", .str "first", .str "short", .str "early"])), some (.d (.list ((keysOf z i).map .str))), a, b]) (upto 0 (z / 3 % 5).toNat) 0 [some (.d (.int z)), some (.d (.list [.str "rank", .str "first", .str "short", .str "early"])), some (.d (.list [])), none, none] s (fun i y r s' hy hp => by
    obtain ⟨rfl, a, b, rfl⟩ := hp
    obtain ⟨hy1, hy2⟩ := upto_at hy
    rw [Nat.zero_add] at *
    have hp4 : 0 ≤ pickZ (seedZ z i) 4 ∧ pickZ (seedZ z i) 4 < 4 := by unfold pickZ; omega
    have hk : atI [PyData.str "rank", .str "first", .str "short", .str "early"] (pickZ (seedZ z i) 4) = some (.str (keyAt (pickZ (seedZ z i) 4))) := ix_key hp4.1 hp4.2
    have hyi : y = (i : Int) := by omega
    subst hyi
    obtain ⟨kk, hkk⟩ : ∃ kk, keyAt (pickZ (seedZ z i) 4) = kk := ⟨_, rfl⟩
    have hc : cmpA s' .nin (.d (.str kk)) (.d (.list ((keysOf z i).map .str))) = some (!decide (kk ∈ keysOf z i)) := by
      show (if SeqAt.shaped (.str kk) = true ∧ SeqAt.shaped (.list ((keysOf z i).map .str)) = true then some (((keysOf z i).map PyData.str).any fun z => PyData.eqv z (.str kk)) else none).map (! ·) = _
      rw [if_pos (by
        refine ⟨(gd_key (hkk ▸ keyAt_mem _)).shaped, good_list fun x hx => ?_⟩
        obtain ⟨k, hk, rfl⟩ := List.mem_map.mp hx
        exact gd_key ((keysOf_ok z i).1 k hk)), any_str]; simp
    refine ⟨[some (.d (.int z)), some (.d (.list [.str "rank", .str "first", .str "short", .str "early"])), some (.d (.list ((keysOf z i).map .str))), some (.d (.int i)), b], [some (.d (.int z)), some (.d (.list [.str "rank", .str "first", .str "short", .str "early"])), some (.d (.list ((keysOf z (i + 1)).map .str))), some (.d (.int i)), some (.d (.str kk))], s', rfl, ?_, rfl, rfl, _, _, rfl⟩
    have hl := keysOf_len z i
    rw [keysOf_succ, addKey, hkk]
    have c1 : ∀ ys : List PyData, ys.length ≤ 4 → binA s' .add (.d (.list ((keysOf z i).map .str))) (.d (.list ys)) = some (.d (.list ((keysOf z i).map .str ++ ys))) := fun ys hy => by
      show (if ((keysOf z i).map PyData.str).length + ys.length ≤ 100000 then some (PyData.list ((keysOf z i).map .str ++ ys)) else none).map A.d = _
      rw [if_pos (by rw [List.length_map]; omega)]; rfl
    by_cases hq : kk ∈ keysOf z i
    · simp [e_seed h, e_pick h _ _ 4 (by decide), hk, hkk, hc, hq, b1A, c1]
    · simp [e_seed h, e_pick h _ _ 4 (by decide), hk, hkk, hc, hq, b1A, c1]) ⟨rfl, none, none, rfl⟩
  obtain ⟨rfl, a, b, rfl⟩ := p
  rw [upto_len, Nat.zero_add] at e1
  simp [c_law_world, e_seed h, hzz, bin_div _ 3 (by decide), bin_mod _ 5 (by decide), hm, e1, bin_div _ 5 (by decide), bin_div _ 7 (by decide), bin_mod _ 3 (by decide)]
  simp [worldOf, hzz, wD, worldC, worldR, worldK]
theorem e_draw (n : Nat) (c r : Int) (ks : List Str) (hr : 0 < r) (x : Int) : callF Z (n + 2) "_law_wish" [.d (wD c r ks), .d (.int x)] s = .ok (.d (wishOf r x)) s := by
  have hm : 0 ≤ 1 + x / 3 % 4 ∧ 1 + x / 3 % 4 ≤ 4 := by omega
  have hrk : rngOk 0 (1 + x / 3 % 4) = true := by
    simp only [rngOk, Bool.and_eq_true, decide_eq_true_iff]; omega
  have e1 := ev_lc1 (T := tabZ Z (n + 1)) (own := [4]) (tg := .one 4) (elt := .ix (.slot 2) (.call "_law_pick" (.cons (.call "_law_seed" (.cons (.slot 1) (.cons (.slot 4) Es.nil))) (.cons (.lit (.int 26)) Es.nil)))) (it := .rng1 (.bin .add (.lit (.int 1)) (.bin .mod (.bin .fdiv (.slot 1) (.lit (.int 3))) (.lit (.int 4))))) (r := [some (A.d (wD c r ks)), some (.d (.int x)), some (.d (.str "abcdefghijklmnopqrstuvwxyz")), none, none, none, none]) (s := s) (l := upto 0 (1 + x / 3 % 4).toNat) (enc := fun i => .d (.int i)) (w := []) (fun k => .str ⟨#[smallAt (pickZ (seedZ x k) 26)]⟩) (by simp [bin_div _ 3 (by decide), bin_mod _ 4 (by decide), hrk]) rfl (fun k hk => ⟨[some (A.d (wD c r ks)), some (.d (.int x)), some (.d (.str "abcdefghijklmnopqrstuvwxyz")), none, some (.d (.int k)), none, none], rfl, by
    have hp : 0 ≤ pickZ (seedZ x k) 26 ∧ pickZ (seedZ x k) 26 < 26 := by unfold pickZ; omega
    have hix : ixA s (.d (.str "abcdefghijklmnopqrstuvwxyz")) (.d (.int (pickZ (seedZ x k) 26))) = some (.d (.str ⟨#[smallAt (pickZ (seedZ x k) 26)]⟩)) := by
      show (if ("abcdefghijklmnopqrstuvwxyz" : Str).length ≤ 100000 then (atI smallTxt.cps.toList (pickZ (seedZ x k) 26)).map fun c => A.d (.str ⟨#[c]⟩) else none) = _
      rw [if_pos (by decide +kernel), show atI smallTxt.cps.toList (pickZ (seedZ x k) 26) = some (smallAt (pickZ (seedZ x k) 26)) from ?_]
      · rfl
      · have := Fb.atI_nat smallTxt.cps.toList (pickZ (seedZ x k) 26).toNat
        rw [Int.toNat_of_nonneg hp.1] at this
        have h26 : smallTxt.cps.toList.length = 26 := by decide +kernel
        rw [this, smallAt, List.getD_eq_getElem?_getD, List.getElem?_eq_getElem (by omega)]
        rfl
    simp [e_seed h, e_pick h _ _ 26 (by decide), hix]⟩) (by rw [upto_len]; omega)
  have e2 : b2A .join s (.d (.str "")) (.d (.list ((upto 0 (1 + x / 3 % 4).toNat).map fun k => .str ⟨#[smallAt (pickZ (seedZ x k) 26)]⟩))) = some (.d (.str (SX.S (nameOf x)))) := by
    show (match strsOf ((upto 0 (1 + x / 3 % 4).toNat).map fun k => .str ⟨#[smallAt (pickZ (seedZ x k) 26)]⟩) with | some ss => if (ss.map Str.length).sum + ss.length * ("" : Str).length ≤ 16777216 then some (A.d (.str (Txt.join "" ss))) else none | none => none) = _
    have q : ((upto 0 (1 + x / 3 % 4).toNat).map fun k => PyData.str ⟨#[smallAt (pickZ (seedZ x k) 26)]⟩) = ((nameOf x).map fun c => (⟨#[c]⟩ : Str)).map PyData.str := by simp [nameOf]
    rw [q, strsOf_map]
    show (if _ then _ else none) = _
    rw [if_pos ?_, join_small]
    have hn : (nameOf x).length ≤ 4 := by unfold nameOf; rw [List.length_map, upto_len]; omega
    have hs : ∀ l : List Nat, ((l.map fun c => (⟨#[c]⟩ : Str)).map Str.length).sum = l.length := fun l => by
      induction l with
      | nil => rfl
      | cons a l ih => rw [List.map_cons, List.map_cons, List.sum_cons, ih]; show 1 + _ = _; rw [List.length_cons]; omega
    rw [hs]
    show (nameOf x).length + _ * 0 ≤ _
    omega
  have h2 : ∀ i, 0 ≤ x / i % 2 ∧ x / i % 2 < 2 := fun i => by omega
  have l1 := fun a b i => ix2 (a := a) (b := b) (h2 i).1 (h2 i).2
  have hp5 : 0 ≤ pickZ x 5 / 2 ∧ pickZ x 5 / 2 < 3 := by unfold pickZ; omega
  have l3 := fun a b c => ix3 (a := a) (b := b) (c := c) hp5.1 hp5.2
  have l1' : ∀ a b i : Int, atI [PyData.int a, .int b] (x / i % 2) = some (.int (sel2 a b (x / i % 2))) := l1
  have l3' : ∀ a b c : Int, atI [PyData.int a, .int b, .int c] (pickZ x 5 / 2) = some (.int (sel3 a b c (pickZ x 5 / 2))) := l3
  have s1 : ∀ i, 0 < sel2 6 3 i := fun i => by rcases sel2_cases 6 3 i with h | h <;> omega
  have s2 : ∀ i, 0 < sel2 r 1 i := fun i => by rcases sel2_cases r 1 i with h | h <;> omega
  have s3 : ∀ i, 0 < sel2 10 3 i := fun i => by rcases sel2_cases 10 3 i with h | h <;> omega
  rw [callF_run h.lwish _ s rfl]
  simp [c_law_wish, e1, e2, b2Pre, bin_div _ 5 (by decide), bin_div _ 7 (by decide), bin_mod _ 2 (by decide), l1', bin_mod _ _ (s1 _), bin_div _ 11 (by decide), bin_mod _ 5 (by decide), bin_mod _ 24 (by decide), e_pick h _ _ 5 (by decide), bin_div _ 2 (by decide), l3', bin_div _ 13 (by decide), bin_div _ 17 (by decide), bin_mod _ _ (s2 _), bin_div _ 19 (by decide), bin_div _ 23 (by decide), bin_mod _ _ (s3 _), wishOf, longOf, hourOf, roomOf, rankOf]
end
end Fb

/-! Yg: what is refused. -/
namespace Fb
open PySem PySem.Spec PyProof.Rows L2 Evl
@[simp] theorem errN_NoBooking : (("NoBooking" : Str) ∈ errN) = True := by decide +kernel
@[simp] theorem errN_BadFacts : (("BadFacts" : Str) ∈ errN) = True := by decide +kernel
@[simp] theorem errN_BadWish : (("BadWish" : Str) ∈ errN) = True := by decide +kernel
@[simp] theorem errN_BadCopy : (("BadCopy" : Str) ∈ errN) = True := by decide +kernel
@[simp] theorem errN_BadDeed : (("BadDeed" : Str) ∈ errN) = True := by decide +kernel
@[simp] theorem errN_Full : (("Full" : Str) ∈ errN) = True := by decide +kernel
@[simp] theorem isSub_self (c : Str) : isSub c c = true := by simp [isSub]
@[simp] theorem isSub_book (c : Str) : isSub c "BookError" = true := by simp [isSub]
@[simp] theorem sub1 : isSub "NoBooking" "BadWorld" = false := by decide +kernel
@[simp] theorem sub2 : isSub "NoBooking" "BadCopy" = false := by decide +kernel
@[simp] theorem sub3 : isSub "NoBooking" "BadWish" = false := by decide +kernel
@[simp] theorem sub4 : isSub "NoBooking" "BadFacts" = false := by decide +kernel
@[simp] theorem sub5 : isSub "BadFacts" "BadWorld" = false := by decide +kernel
@[simp] theorem sub6 : isSub "BadFacts" "BadCopy" = false := by decide +kernel
@[simp] theorem sub7 : isSub "BadFacts" "BadWish" = false := by decide +kernel
section
variable {Z : Prg} {sz : Str} (h : Ze Z sz) {s : Sto} {c r : Int} {ks : List Str} {p q : Nat} {b : Cp} {N : Nat}
include h
theorem e_heard_no (n : Nat) (A : CAt s (wD c r ks) p q b) {ys : List PyData} (hz : szOk (.tuple ys) = true) (hf : ys.all (isFact c r) = false) : callF Z (n + 6) "heard" [.ref p, .d (.tuple ys)] s = .er "BadFacts" s := by
  have e4 := e_look_facts h.toZf (s := s) n c r ks _ hz
  rw [if_neg (by rw [hf]; exact Bool.noConfusion)] at e4
  rw [callF_run h.heard _ s rfl]
  simp [c_Copy_heard, A.world, e4]
theorem e_refusal_heard (hr : Z.fn "_law_refusal" = some c_law_refusal) (n : Nat) (A : CAt s (wD c r ks) p q b) {ys : List PyData} (hz : szOk (.tuple ys) = true) (hf : ys.all (isFact c r) = false) (a : Fb.A) : callF Z (n + 7) "_law_refusal" [.d (.int 2), a, .ref p, .d (.tuple ys)] s = .ok (.d (.str "facts")) s := by
  rw [callF_run hr _ s rfl]
  simp [c_law_refusal, A.meth, e_heard_no h _ A hz hf]
theorem e_refusal_off (hr : Z.fn "_law_refusal" = some c_law_refusal) (n : Nat) (A : CAt s (wD c r ks) p q b) (B : CpOk c r b N) (hN : N ≤ 90000) (bb : Pr) (a : Fb.A) : ∃ s', callF Z (n + 5) "_law_refusal" [.d (.int 3), a, .ref p, .d (prD bb)] s = .ok (.d (.str (if knownB c b.fs bb = true then "" else "booking"))) s' ∧ CAt s' (wD c r ks) p q (if knownB c b.fs bb = true then b.put (.off bb) else b) ∧ Fz s s' p q := by
  rw [callF_run hr _ s rfl]
  cases hk : knownB c b.fs bb with
  | true =>
    obtain ⟨s1, e1, A1, F1⟩ := e_off h n A B hN hk
    refine ⟨s1, ?_, A1, F1⟩
    simp [c_law_refusal, A.meth, e1, F1.S, sto_mk F1.S]
  | false =>
    refine ⟨s, ?_, A, Fz.rfl' s p q⟩
    simp [c_law_refusal, A.meth, e_off_no h _ A B hN hk]
end
end Fb

/-! Yh: comparing, at_rest, small things. -/
namespace Fb
open PySem PySem.Spec PyProof.Rows L2 Evl
theorem eqvAll_map {al : Type} [DecidableEq al] {enc : al → PyData} (he : ∀ x y, PyData.eqv (enc x) (enc y) = decide (x = y)) : ∀ (a b : List al), PyData.eqvAll (a.map enc) (b.map enc) = decide (a = b)
  | [], [] => by simp [PyData.eqvAll]
  | [], _ :: _ => by simp [PyData.eqvAll]
  | _ :: _, [] => by simp [PyData.eqvAll]
  | x :: xs, y :: ys => by
    rw [List.map_cons, List.map_cons, PyData.eqvAll, he, eqvAll_map he xs ys, Bool.eq_iff_iff]
    simp
theorem shaped_tup_fcts {c r : Int} {fs : List Fct} (h : ∀ f ∈ fs, FctOk c r f) : SeqAt.shaped (.tuple (fs.map Fct.d)) = true := shaped_tup fun x hx => by
  obtain ⟨f, hf, rfl⟩ := List.mem_map.mp hx
  exact good_fct (h f hf)
theorem eqv_fcts (a b : List Fct) : PyData.eqv (.tuple (a.map Fct.d)) (.tuple (b.map Fct.d)) = decide (a = b) := by
  rw [PyData.eqv, eqvAll_map eqv_fct]
theorem eq_fcts {s : Sto} {c r : Int} {a b : List Fct} (ha : ∀ f ∈ a, FctOk c r f) (hb : ∀ f ∈ b, FctOk c r f) : cmpA s .eq (.d (.tuple (a.map Fct.d))) (.d (.tuple (b.map Fct.d))) = some (decide (a = b)) := by
  show (if SeqAt.shaped (.tuple (a.map Fct.d)) = true ∧ SeqAt.shaped (.tuple (b.map Fct.d)) = true then some (PyData.eqv (.tuple (a.map Fct.d)) (.tuple (b.map Fct.d))) else none) = _
  rw [if_pos ⟨shaped_tup_fcts ha, shaped_tup_fcts hb⟩, eqv_fcts]
theorem ne_fcts {s : Sto} {c r : Int} {a b : List Fct} (ha : ∀ f ∈ a, FctOk c r f) (hb : ∀ f ∈ b, FctOk c r f) : cmpA s .ne (.d (.tuple (a.map Fct.d))) (.d (.tuple (b.map Fct.d))) = some (!decide (a = b)) := by
  show (cmpA s .eq (.d (.tuple (a.map Fct.d))) (.d (.tuple (b.map Fct.d)))).map (! ·) = _
  rw [eq_fcts ha hb]; rfl
theorem newL1 {ds : List PyData} (h : ds.length ≤ 100000) (s : Sto) : newL 1 (ds.map .d) s = .ok (.loc s.S.length) ⟨s.P, s.S ++ [.lst ds]⟩ := by
  unfold newL
  rw [if_pos (by simpa using h)]
  simp [allD_map]
@[simp] theorem mkT0 : mkT [] = some (.d (.tuple [])) := nr rfl
@[simp] theorem newL0_5 {s : Sto} (a b c d e : PyData) : newL 0 [.d a, .d b, .d c, .d d, .d e] s = .ok (.d (.list [a, b, c, d, e])) s := nr rfl
@[simp] theorem newL0_6 {s : Sto} (a b c d e f : PyData) : newL 0 [.d a, .d b, .d c, .d d, .d e, .d f] s = .ok (.d (.list [a, b, c, d, e, f])) s := nr rfl
theorem mem_isort {f : Fct} {fs : List Fct} : f ∈ isort ltFc fs ↔ f ∈ fs := (isort_perm fs).mem_iff
theorem isort_ok {c r : Int} {fs : List Fct} (h : ∀ f ∈ fs, FctOk c r f) : ∀ f ∈ isort ltFc fs, FctOk c r f := fun f hf => h f (mem_isort.mp hf)
/-- copies that are told alike -/
theorem e_at_rest {Z : Prg} (hz : Z.fn "at_rest" = some c_at_rest) (n : Nat) {s : Sto} {c r : Int} {L : List Fct} (hL : ∀ f ∈ L, FctOk c r f) {ps : List Nat} {p : Nat} (hp : ps[0]? = some p) (hl : ps.length ≤ 100) (hm : ∀ p ∈ ps, ∀ k : Res A, methR s.P[p]? "told" k = k) (ht : ∀ p ∈ ps, callF Z (n + 1) "told" [.ref p] s = .ok (.d (.tuple (L.map Fct.d))) s) : callF Z (n + 2) "at_rest" [.lst (ps.map .ref)] s = .ok (.d (.bool true)) s := by
  have h0 : atI (ps.map A.ref) 0 = some (.ref p) := by
    have := Fb.atI_nat (ps.map A.ref) 0
    rw [List.getElem?_map, hp] at this
    exact this
  have hpm : p ∈ ps := List.mem_of_getElem? hp
  have e := ev_lc0 (T := tabZ Z (n + 1)) (own := [1]) (tg := .one 1) (elt := .slot 1) (c := .cmp .ne (.meth (.slot 1) "told" Es.nil) (.meth (.ix (.slot 0) (.lit (.int 0))) "told" Es.nil)) (it := .seq (.slot 0)) (r := [some (.lst (ps.map .ref)), none]) (s := s) (l := ps) (enc := fun p => .ref p) (w := [.lst (ps.map .ref)]) (fun _ => false) (fun _ => .none) (by simp [itemsA]) (by simp [stays]) (fun q hq => ⟨[some (.lst (ps.map .ref)), some (.ref q)], rfl, by simp [hm q hq, ht q hq, h0, hm p hpm, ht p hpm, ne_fcts hL hL], fun z => nomatch z⟩) (by omega)
  rw [callF_run hz _ s rfl]
  simp [c_at_rest, e]
end Fb

namespace Fb
open PySem PySem.Spec PyProof.Rows L2 Evl
/-! L14a: k14, plain. -/
theorem puts_new : ∀ (fs gs : List Fct), fs.Nodup → (∀ f ∈ fs, f ∉ gs) → fs.foldl putS gs = gs ++ fs
  | [], gs, _, _ => by simp
  | f :: fs, gs, hn, h => by
    obtain ⟨h1, h2⟩ := List.nodup_cons.mp hn
    rw [List.foldl_cons, show putS gs f = gs ++ [f] from if_neg (h f List.mem_cons_self), puts_new fs _ h2 (fun g hg z => by
      rcases List.mem_append.mp z with z | z
      · exact h g (List.mem_cons_of_mem _ hg) z
      · rw [List.mem_singleton] at z; subst z; exact h1 hg)]
    simp
theorem puts_old : ∀ (fs gs : List Fct), (∀ f ∈ fs, f ∈ gs) → fs.foldl putS gs = gs
  | [], gs, _ => rfl
  | f :: fs, gs, h => by
    rw [List.foldl_cons, show putS gs f = gs from if_pos (h f List.mem_cons_self)]
    exact puts_old fs gs fun g hg => h g (List.mem_cons_of_mem _ hg)
theorem putS_nodup {fs : List Fct} {f : Fct} (h : fs.Nodup) : (putS fs f).Nodup := by
  unfold putS
  split
  · exact h
  · rename_i hn
    rw [List.nodup_append]
    exact ⟨h, by simp, fun a ha b hb => by rw [List.mem_singleton] at hb; subst hb; rintro rfl; exact hn ha⟩
theorem isort_twice (fs : List Fct) : isort ltFc (isort ltFc fs) = isort ltFc fs := isort_id swo_Fc (isort_srtd swo_Fc fs)
theorem isort_nodup {fs : List Fct} (h : fs.Nodup) : (isort ltFc fs).Nodup := (isort_perm fs).nodup_iff.mpr h
/-- the odd things -/
def oddsA (F : PyData) : List PyData := [.none, .int 7, .tuple [], .str "off", .list [.str "off", .tuple [.int 0, .int 2]], .tuple [.int 7, .tuple [.int 0, .int 2]], .tuple [.tuple [.str "off"], .tuple [.int 0, .int 2]], F, .tuple [.str "off"], .tuple [.str "on", .tuple [.int 0, .int 2]]]
def oddsB (c : Int) : List PyData := [.tuple [.str "off", .tuple [.int 0, .int 2], .tuple [.int 1, .int 0]], .tuple [.str "off", .tuple [.int c, .int 2]], .tuple [.str "off", .tuple [.int 0, .int 12]], .tuple [.str "off", .list [.int 0, .int 2]], .bool true, .str "offs"]
def oddZ (w : PyData) : PyData := .tuple [.str "wish", .tuple [.int 0, .int 0], .tuple [.int 10000, .int 0], w]
theorem facts_no {c r : Int} (fs : List Fct) : isFact c r (.tuple (fs.map Fct.d)) = false := by
  match fs with
  | [] => rfl
  | [f] => cases f <;> rfl
  | [f, _] => cases f <;> rfl
  | [f, _, _] => cases f <;> rfl
  | [f, _, _, _] => cases f <;> rfl
  | f :: _ :: _ :: _ :: _ :: _ => cases f <;> rfl
theorem odds_no {c r : Int} {fs : List Fct} {w : Wsh} : ∀ y ∈ oddsA (.tuple (fs.map Fct.d)) ++ oddsB c ++ [oddZ (wshD w)], isFact c r y = false := by
  intro y hy
  simp only [oddsA, oddsB, List.cons_append, List.nil_append, List.mem_cons, List.not_mem_nil, or_false] at hy
  rcases hy with rfl | rfl | rfl | rfl | rfl | rfl | rfl | rfl | rfl | rfl | rfl | rfl | rfl | rfl | rfl | rfl | rfl
  · rfl
  · rfl
  · rfl
  · rfl
  · rfl
  · rfl
  · rfl
  · exact facts_no fs
  · rfl
  · show (decide (("on" : Str) = "off") && isBooking c (.tuple [.int 0, .int 2])) = false
    rw [decide_eq_false (by decide +kernel)]
    rfl
  · rfl
  · show (decide (("off" : Str) = "off") && (within (.int c) 0 (c - 1) && within (.int 2) 0 11)) = false
    have hc : within (.int c) 0 (c - 1) = false := by
      cases h : within (.int c) 0 (c - 1) with
      | false => rfl
      | true => have := within_iff.mp h; omega
    rw [hc, Bool.false_and, Bool.and_false]
  · show (decide (("off" : Str) = "off") && (within (.int 0) 0 (c - 1) && within (.int 12) 0 11)) = false
    rw [show within (.int 12) 0 11 = false from by decide, Bool.and_false, Bool.and_false]
  · rfl
  · rfl
  · rfl
  · show (isBooking c (.tuple [.int 0, .int 0]) && (within (.int 10000) 1 9999 && within (.int 0) 0 (c - 1)) && (decide (("wish" : Str) = "wish") && (isWish r (wshD w) && sameCopy (.tuple [.int 10000, .int 0]) (.tuple [.int 0, .int 0])) || decide (("wish" : Str) = "pin") && isSpot r (wshD w))) = false
    rw [show within (.int 10000) 1 9999 = false from by decide, Bool.false_and, Bool.and_false, Bool.false_and]
theorem odds_sz {c r : Int} {fs : List Fct} {w : Wsh} (h : ∀ f ∈ fs, FctOk c r f) (hl : fs.length ≤ 1000) (hw : WshOk r w) : ∀ y ∈ oddsA (.tuple (fs.map Fct.d)) ++ oddsB c ++ [oddZ (wshD w)], szOk y = true := by
  intro y hy
  simp only [oddsA, oddsB, List.cons_append, List.nil_append, List.mem_cons, List.not_mem_nil, or_false] at hy
  rcases hy with rfl | rfl | rfl | rfl | rfl | rfl | rfl | rfl | rfl | rfl | rfl | rfl | rfl | rfl | rfl | rfl | rfl
  all_goals first | exact sz_fcts h hl | rfl | skip
  show (decide (4 ≤ 1000) && (true && (true && (true && (szOk (wshD w) && true))))) = true
  rw [sz_wsh hw]
  rfl
/-- a cut -/
theorem cut_to (ds : List PyData) (n : Nat) : cutD ds none (some (n : Int)) = ds.take n := by
  unfold cutD
  rw [HT.sIx_none, HT.sIx_nat, List.drop_zero, Nat.sub_zero]
  rcases Nat.le_total n ds.length with h | h
  · rw [Nat.min_eq_left h]
  · rw [Nat.min_eq_right h, List.take_length, List.take_of_length_le h]
theorem cut_from (ds : List PyData) (n : Nat) : cutD ds (some (n : Int)) none = ds.drop n := by
  unfold cutD
  rw [HT.sIx_none, HT.sIx_nat]
  rcases Nat.le_total n ds.length with h | h
  · rw [Nat.min_eq_left h, List.take_of_length_le (by rw [List.length_drop]; omega)]
  · rw [Nat.min_eq_right h, Nat.sub_self, List.take_zero, List.drop_eq_nil_of_le h]
theorem bad_no {c r : Int} {fs : List PyData} {y : PyData} (n : Nat) (h : isFact c r y = false) : (fs.take n ++ [y] ++ fs.drop n).all (isFact c r) = false := by
  rw [List.all_append, List.all_append]
  simp [h]
theorem bad_sz {fs : List PyData} {y : PyData} (n : Nat) (h : ∀ x ∈ fs, szOk x = true) (hl : fs.length ≤ 900) (hy : szOk y = true) : szOk (.tuple (fs.take n ++ [y] ++ fs.drop n)) = true := szOk_tup_iff.mpr ⟨by simp only [List.length_append, List.length_take, List.length_drop, List.length_singleton]; omega, fun x hx => by
  rcases List.mem_append.mp hx with hx | hx
  · rcases List.mem_append.mp hx with hx | hx
    · exact h x (List.mem_of_mem_take hx)
    · rw [List.mem_singleton] at hx; subst hx; exact hy
  · exact h x (List.mem_of_mem_drop hx)⟩
end Fb

/-! L14: the law k14 by the evaluator. -/
namespace Fb
open PySem PySem.Spec PyProof.Rows L2 Evl
theorem hears_fs : ∀ (gs : List Fct) (b : Cp), (gs.foldl Cp.hear b).fs = gs.foldl putS b.fs
  | [], b => rfl
  | g :: gs, b => by rw [List.foldl_cons, hears_fs gs, List.foldl_cons]; rfl
def wshOf (r x : Int) : Wsh := ⟨SX.S (nameOf x), roomOf r x, hourOf x, longOf x, rankOf x⟩
theorem wishOf_eq (r x : Int) : wishOf r x = wshD (wshOf r x) := rfl
theorem wshOf_ok {r x : Int} (h : 1 ≤ r) : WshOk r (wshOf r x) := isWish_iff.mp (wishOf_ok h)
theorem worldOf_wok (x : Int) : WOk (worldC (seedZ x 9)) (worldR (seedZ x 9)) (worldK (seedZ x 9)) := ⟨by unfold worldC; omega, by unfold worldC; omega, by unfold worldR; omega, by unfold worldR; omega, (keysOf_ok _ _).1, (keysOf_ok _ _).2⟩
structure Z14 (Z : Prg) : Prop extends Ze Z "SIZES", Zg Z where
  ref : Z.fn "_law_refusal" = some c_law_refusal
  mix : Z.fn "_law_mix" = some c_law_mix
  at_rest : Z.fn "at_rest" = some c_at_rest
/-- two copies, apart -/
structure Two (s : Sto) (w : PyData) (b0 b1 : Cp) : Prop where
  h : CAt s w 0 1 b0
  t : CAt s w 2 3 b1
  S : s.S = []
  len : s.P.length = 4
theorem Two.ft {s s' : Sto} {w : PyData} {b0 b1 b1' : Cp} (t : Two s w b0 b1) (f : Fz s s' 2 3) (a : CAt s' w 2 3 b1') : Two s' w b0 b1' := ⟨t.h.frame f (by decide) (by decide) (by decide) (by decide), a, f.S.trans t.S, f.len.trans t.len⟩
theorem Two.fh {s s' : Sto} {w : PyData} {b0 b1 b0' : Cp} (t : Two s w b0 b1) (f : Fz s s' 0 1) (a : CAt s' w 0 1 b0') : Two s' w b0' b1 := ⟨a, t.t.frame f (by decide) (by decide) (by decide) (by decide), f.S.trans t.S, f.len.trans t.len⟩
/-- what there holds while it is filled -/
structure Fil (c r : Int) (b : Cp) (n : Nat) : Prop where
  ok : CpOk c r b n
  nd : b.fs.Nodup
  mine : b.mine = c - 1
section
variable {Z : Prg} (h : Z14 Z) (m : Nat) {ns : List Int} {c r : Int} {ks : List Str}
include h
theorem loop1 (W : WOk c r ks) {s : Sto} {b0 b1 : Cp} (T2 : Two s (wD c r ks) b0 b1) (F : Fil c r b1 0) (h1 : b1.own = 0) (h2 : b1.clock = 0) (n : Nat) (hn : n ≤ 4) (x : Option A) : ∃ s' b1' x', forGo (.one 4) [] (exSs (tabZ Z (m + 13)) (.cons (.ex (.meth (.slot 3) "wish" (.cons (.call "_law_wish" (.cons (.slot 1) (.cons (.call "_law_seed" (.cons (.bin .add (.call "_law_cell" (.cons (.slot 0) (.cons (.lit (.int 2)) Es.nil))) (.bin .mul (.lit (.int 17)) (.slot 4))) (.cons (.slot 4) Es.nil))) Es.nil))) Es.nil)))
  .nil)) s ((upto 0 n).map fun i => .d (.int i)) [some (.sc ns), some (.d (wD c r ks)), some (.ref 0), some (.ref 2), x, none, none, none, none, none, none, none] s = .nx [some (.sc ns), some (.d (wD c r ks)), some (.ref 0), some (.ref 2), x', none, none, none, none, none, none, none] s' ∧ Two s' (wD c r ks) b0 b1' ∧ Fil c r b1' n := by
  obtain ⟨r', s', e1, b1', x', rfl, t, f, o1, o2⟩ := forGo_P (al := Int) (tg := .one 4) (w := []) (s0 := s) (enc := fun i => .d (.int i)) (b := exSs (tabZ Z (m + 13)) (.cons (.ex (.meth (.slot 3) "wish" (.cons (.call "_law_wish" (.cons (.slot 1) (.cons (.call "_law_seed" (.cons (.bin .add (.call "_law_cell" (.cons (.slot 0) (.cons (.lit (.int 2)) Es.nil))) (.bin .mul (.lit (.int 17)) (.slot 4))) (.cons (.slot 4) Es.nil))) Es.nil))) Es.nil)))
  .nil)) (fun i r' s' => ∃ b1' x', r' = [some (.sc ns), some (.d (wD c r ks)), some (.ref 0), some (.ref 2), x', none, none, none, none, none, none, none] ∧ Two s' (wD c r ks) b0 b1' ∧ Fil c r b1' i ∧ b1'.own = i ∧ b1'.clock = i) (upto 0 n) 0 [some (.sc ns), some (.d (wD c r ks)), some (.ref 0), some (.ref 2), x, none, none, none, none, none, none, none] s (fun i y r' s' hy hp => by
    obtain ⟨b1', x', rfl, t, f, o1, o2⟩ := hp
    obtain ⟨hy1, hy2⟩ := upto_at hy
    rw [Nat.zero_add] at *
    have hyi : y = (i : Int) := by omega
    subst hyi
    have hw := wshOf_ok (r := r) (x := seedZ (cellZ ns 2 + 17 * i) i) W.r1
    obtain ⟨s2, e2, A2, F2⟩ := e_wish h.toZe (m + 8) t.t f.ok (by omega) hw (by omega) (by omega)
    have e2' : callF Z (m + 12 + 1) "wish" [.ref 2, .d (wishOf r (seedZ (cellZ ns 2 + 17 * i) i))] s' = .ok (.d (prD (b1'.mine, b1'.own))) s2 := e2
    refine ⟨[some (.sc ns), some (.d (wD c r ks)), some (.ref 0), some (.ref 2), some (.d (.int i)), none, none, none, none, none, none, none], [some (.sc ns), some (.d (wD c r ks)), some (.ref 0), some (.ref 2), some (.d (.int i)), none, none, none, none, none, none, none], s2, rfl, ?_, rfl, _, _, rfl, t.ft F2 A2, ⟨?_, putS_nodup f.nd, f.mine⟩, by show b1'.own + 1 = _; omega, by show b1'.clock + 1 = _; omega⟩
    · have hm := t.t.meth (m := "wish")
      simp [hm, e_cellI h.toZg, bin_mul_l 17 _ (by decide), e_seed h.toZg, e_draw h.toZg _ c r ks (by have := W.r1; omega), e2']
    · have B := f.ok
      have hl := putS_len b1'.fs (b1'.newF (wshOf r (seedZ (cellZ ns 2 + 17 * i) i)))
      have hl2 := B.len
      exact ⟨putS_ok B.ok (B.newF hw (by omega) (by omega)), by show (putS _ _).length ≤ _; omega, B.mine, by show 0 ≤ b1'.own + 1; omega, by show 0 ≤ b1'.clock + 1; omega⟩) ⟨b1, x, rfl, T2, F, h1, h2⟩
  rw [upto_len, Nat.zero_add] at *
  exact ⟨s', b1', x', e1, t, f⟩
theorem loop2 {s : Sto} {b0 b1 : Cp} (T2 : Two s (wD c r ks) b0 b1) (F : Fil c r b1 4) (n : Nat) (hn : n ≤ 3) (x : Option A) : ∃ s' b1' x', forGo (.one 4) [] (exSs (tabZ Z (m + 13)) (.cons (.ite (.cmp .nin (.call "_law_refusal" (.cons (.lit (.int 3)) (.cons (.slot 1) (.cons (.slot 3) (.cons (.tup (.cons (.bin .sub (.ix (.slot 1) (.lit (.int 0))) (.lit (.int 1))) (.cons (.slot 4) Es.nil))) Es.nil))))) (.tup (.cons (.lit (.str "")) (.cons (.lit (.str "booking")) Es.nil))))
  (.cons (.ret (.lit (.bool false)))
  .nil)
  .nil)
  .nil)) s ((upto 0 n).map fun i => .d (.int i)) [some (.sc ns), some (.d (wD c r ks)), some (.ref 0), some (.ref 2), x, none, none, none, none, none, none, none] s = .nx [some (.sc ns), some (.d (wD c r ks)), some (.ref 0), some (.ref 2), x', none, none, none, none, none, none, none] s' ∧ Two s' (wD c r ks) b0 b1' ∧ Fil c r b1' 8 := by
  obtain ⟨r', s', e1, b1', x', rfl, t, f⟩ := forGo_P (al := Int) (tg := .one 4) (w := []) (s0 := s) (enc := fun i => .d (.int i)) (b := exSs (tabZ Z (m + 13)) (.cons (.ite (.cmp .nin (.call "_law_refusal" (.cons (.lit (.int 3)) (.cons (.slot 1) (.cons (.slot 3) (.cons (.tup (.cons (.bin .sub (.ix (.slot 1) (.lit (.int 0))) (.lit (.int 1))) (.cons (.slot 4) Es.nil))) Es.nil))))) (.tup (.cons (.lit (.str "")) (.cons (.lit (.str "booking")) Es.nil))))
  (.cons (.ret (.lit (.bool false)))
  .nil)
  .nil)
  .nil)) (fun i r' s' => ∃ b1' x', r' = [some (.sc ns), some (.d (wD c r ks)), some (.ref 0), some (.ref 2), x', none, none, none, none, none, none, none] ∧ Two s' (wD c r ks) b0 b1' ∧ Fil c r b1' (4 + i)) (upto 0 n) 0 [some (.sc ns), some (.d (wD c r ks)), some (.ref 0), some (.ref 2), x, none, none, none, none, none, none, none] s (fun i y r' s' hy hp => by
    obtain ⟨b1', x', rfl, t, f⟩ := hp
    obtain ⟨hy1, hy2⟩ := upto_at hy
    rw [Nat.zero_add] at *
    have hyi : y = (i : Int) := by omega
    subst hyi
    obtain ⟨s2, e2, A2, F2⟩ := e_refusal_off h.toZe h.ref (m + 8) t.t f.ok (by omega) (c - 1, (i : Int)) (.d (wD c r ks))
    have e2' : callF Z (m + 12 + 1) "_law_refusal" [.d (.int 3), .d (wD c r ks), .ref 2, .d (prD (c - 1, (i : Int)))] s' = .ok (.d (.str (if knownB c b1'.fs (c - 1, (i : Int)) = true then "" else "booking"))) s2 := e2
    have hin : cmpA s2 .nin (.d (.str (if knownB c b1'.fs (c - 1, (i : Int)) = true then "" else "booking"))) (.d (.tuple [.str "", .str "booking"])) = some false := by
      split <;> rfl
    refine ⟨[some (.sc ns), some (.d (wD c r ks)), some (.ref 0), some (.ref 2), some (.d (.int i)), none, none, none, none, none, none, none], [some (.sc ns), some (.d (wD c r ks)), some (.ref 0), some (.ref 2), some (.d (.int i)), none, none, none, none, none, none, none], s2, rfl, ?_, rfl, _, _, rfl, t.ft F2 A2, ?_⟩
    · simp [e2', hin]
    · cases hk : knownB c b1'.fs (c - 1, (i : Int)) with
      | false =>
        simp only [Bool.false_eq_true, if_false]
        exact ⟨⟨f.ok.ok, by have := f.ok.len; omega, f.ok.mine, f.ok.own, f.ok.clock⟩, f.nd, f.mine⟩
      | true =>
        have hf : FctOk c r (.off (c - 1, (i : Int))) := by
          have : isBooking c (prD (c - 1, (i : Int))) = true := by rw [knownB, Bool.and_eq_true] at hk; exact hk.1
          exact isBooking_iff.mp this
        exact ⟨f.ok.put hf, putS_nodup f.nd, f.mine⟩) ⟨b1, x, rfl, T2, F⟩
  rw [upto_len, Nat.zero_add] at *
  exact ⟨s', b1', x', e1, t, ⟨⟨f.ok.ok, by have := f.ok.len; omega, f.ok.mine, f.ok.own, f.ok.clock⟩, f.nd, f.mine⟩⟩
end
end Fb

namespace Fb
open PySem PySem.Spec PyProof.Rows L2 Evl
def c_is_fact : Fn := c_is_factZ "SIZES"
def c_law : Fn := ⟨1, 12, (.cons (.set 1 (.call "_law_world" (.cons (.call "_law_cell" (.cons (.slot 0) (.cons (.lit (.int 0)) Es.nil))) Es.nil)))
  (.cons (.set 2 (.make (.cons (.slot 1) (.cons (.lit (.int 0)) Es.nil))))
  (.cons (.set 3 (.make (.cons (.slot 1) (.cons (.bin .sub (.ix (.slot 1) (.lit (.int 0))) (.lit (.int 1))) Es.nil))))
  (.cons (.for_ (.one 4) (.rng1 (.bin .mod (.call "_law_cell" (.cons (.slot 0) (.cons (.lit (.int 1)) Es.nil))) (.lit (.int 4))))
  (.cons (.ex (.meth (.slot 3) "wish" (.cons (.call "_law_wish" (.cons (.slot 1) (.cons (.call "_law_seed" (.cons (.bin .add (.call "_law_cell" (.cons (.slot 0) (.cons (.lit (.int 2)) Es.nil))) (.bin .mul (.lit (.int 17)) (.slot 4))) (.cons (.slot 4) Es.nil))) Es.nil))) Es.nil)))
  .nil))
  (.cons (.for_ (.one 4) (.rng1 (.bin .mod (.call "_law_cell" (.cons (.slot 0) (.cons (.lit (.int 3)) Es.nil))) (.lit (.int 3))))
  (.cons (.ite (.cmp .nin (.call "_law_refusal" (.cons (.lit (.int 3)) (.cons (.slot 1) (.cons (.slot 3) (.cons (.tup (.cons (.bin .sub (.ix (.slot 1) (.lit (.int 0))) (.lit (.int 1))) (.cons (.slot 4) Es.nil))) Es.nil))))) (.tup (.cons (.lit (.str "")) (.cons (.lit (.str "booking")) Es.nil))))
  (.cons (.ret (.lit (.bool false)))
  .nil)
  .nil)
  .nil))
  (.cons (.set 5 (.meth (.slot 3) "told" Es.nil))
  (.cons (.set 6 (.list 1 (.cons (.lit .none) (.cons (.lit (.int 7)) (.cons (.tup Es.nil) (.cons (.lit (.str "off")) (.cons (.list 0 (.cons (.lit (.str "off")) (.cons (.tup (.cons (.lit (.int 0)) (.cons (.lit (.int 2)) Es.nil))) Es.nil))) (.cons (.tup (.cons (.lit (.int 7)) (.cons (.tup (.cons (.lit (.int 0)) (.cons (.lit (.int 2)) Es.nil))) Es.nil))) (.cons (.tup (.cons (.tup (.cons (.lit (.str "off")) Es.nil)) (.cons (.tup (.cons (.lit (.int 0)) (.cons (.lit (.int 2)) Es.nil))) Es.nil))) (.cons (.slot 5) (.cons (.tup (.cons (.lit (.str "off")) Es.nil)) (.cons (.tup (.cons (.lit (.str "on")) (.cons (.tup (.cons (.lit (.int 0)) (.cons (.lit (.int 2)) Es.nil))) Es.nil))) Es.nil))))))))))))
  (.cons (.set 6 (.cat 1 (.slot 6) (.list 0 (.cons (.tup (.cons (.lit (.str "off")) (.cons (.tup (.cons (.lit (.int 0)) (.cons (.lit (.int 2)) Es.nil))) (.cons (.tup (.cons (.lit (.int 1)) (.cons (.lit (.int 0)) Es.nil))) Es.nil)))) (.cons (.tup (.cons (.lit (.str "off")) (.cons (.tup (.cons (.ix (.slot 1) (.lit (.int 0))) (.cons (.lit (.int 2)) Es.nil))) Es.nil))) (.cons (.tup (.cons (.lit (.str "off")) (.cons (.tup (.cons (.lit (.int 0)) (.cons (.lit (.int 12)) Es.nil))) Es.nil))) (.cons (.tup (.cons (.lit (.str "off")) (.cons (.list 0 (.cons (.lit (.int 0)) (.cons (.lit (.int 2)) Es.nil))) Es.nil))) (.cons (.lit (.bool true)) (.cons (.lit (.str "offs")) Es.nil)))))))))
  (.cons (.set 7 (.call "_law_wish" (.cons (.slot 1) (.cons (.call "_law_seed" (.cons (.call "_law_cell" (.cons (.slot 0) (.cons (.lit (.int 6)) Es.nil))) (.cons (.lit (.int 2)) Es.nil))) Es.nil))))
  (.cons (.ite (.cmp .ne (.meth (.make (.cons (.slot 1) (.cons (.lit (.int 0)) Es.nil))) "heard" (.cons (.tup (.cons (.tup (.cons (.lit (.str "wish")) (.cons (.tup (.cons (.lit (.int 0)) (.cons (.lit (.int 0)) Es.nil))) (.cons (.tup (.cons (.lit (.int 9999)) (.cons (.lit (.int 0)) Es.nil))) (.cons (.slot 7) Es.nil))))) Es.nil)) Es.nil)) (.lit (.int 1)))
  (.cons (.ret (.lit (.bool false)))
  .nil)
  .nil)
  (.cons (.app (.slot 6) (.tup (.cons (.lit (.str "wish")) (.cons (.tup (.cons (.lit (.int 0)) (.cons (.lit (.int 0)) Es.nil))) (.cons (.tup (.cons (.lit (.int 10000)) (.cons (.lit (.int 0)) Es.nil))) (.cons (.slot 7) Es.nil))))))
  (.cons (.set 8 (.ix (.slot 6) (.bin .mod (.call "_law_cell" (.cons (.slot 0) (.cons (.lit (.int 4)) Es.nil))) (.lit (.int 17)))))
  (.cons (.set 9 (.call "_law_mix" (.cons (.call "_law_cell" (.cons (.slot 0) (.cons (.lit (.int 5)) Es.nil))) (.cons (.lit (.int 9949)) (.cons (.bin .add (.b1 .len 0 (.slot 5)) (.lit (.int 1))) Es.nil)))))
  (.cons (.set 10 (.meth (.slot 2) "told" Es.nil))
  (.cons (.set 11 (.bin .add (.bin .add (.slT (.slot 5) (.slot 9)) (.tup (.cons (.slot 8) Es.nil))) (.slF (.slot 5) (.slot 9))))
  (.cons (.ite (.or_ (.cmp .ne (.call "_law_refusal" (.cons (.lit (.int 2)) (.cons (.slot 1) (.cons (.slot 2) (.cons (.slot 11) Es.nil))))) (.lit (.str "facts"))) (.cmp .ne (.meth (.slot 2) "told" Es.nil) (.slot 10)))
  (.cons (.ret (.lit (.bool false)))
  .nil)
  .nil)
  (.cons (.ite (.cmp .eq (.ix (.slot 1) (.lit (.int 0))) (.lit (.int 1)))
  (.cons (.ret (.lit (.bool true)))
  .nil)
  .nil)
  (.cons (.ite (.or_ (.cmp .ne (.meth (.slot 2) "heard" (.cons (.slot 5) Es.nil)) (.b1 .len 0 (.slot 5))) (.or_ (.cmp .ne (.meth (.slot 2) "told" Es.nil) (.slot 5)) (.cmp .ne (.meth (.slot 2) "heard" (.cons (.slT (.slot 5) (.slot 9)) Es.nil)) (.lit (.int 0)))))
  (.cons (.ret (.lit (.bool false)))
  .nil)
  .nil)
  (.cons (.ret (.and_ (.cmp .eq (.meth (.slot 2) "heard" (.cons (.rev (.slot 5)) Es.nil)) (.lit (.int 0))) (.and_ (.cmp .eq (.meth (.slot 2) "told" Es.nil) (.slot 5)) (.cmp .is_ (.call "at_rest" (.cons (.list 0 (.cons (.slot 2) (.cons (.slot 3) Es.nil))) Es.nil)) (.lit (.bool true))))))
  .nil)))))))))))))))))))⟩
def prZ : Prg where
  fn := fun x => [(("is_within" : Str), c_is_within), (("is_world" : Str), c_is_world), (("look_world" : Str), c_look_world), (("is_name" : Str), c_is_name), (("is_place" : Str), c_is_place), (("is_wish" : Str), c_is_wish), (("look_wish" : Str), c_look_wish), (("is_booking" : Str), c_is_booking), (("is_fact" : Str), c_is_fact), (("look_facts" : Str), c_look_facts), (("wishes_in" : Str), c_wishes_in), (("__init__" : Str), c_Copy_init), (("put" : Str), c_Copy_put), (("tick" : Str), c_Copy_tick), (("look_known" : Str), c_Copy_look_known), (("wish" : Str), c_Copy_wish), (("off" : Str), c_Copy_off), (("told" : Str), c_Copy_told), (("heard" : Str), c_Copy_heard), (("at_rest" : Str), c_at_rest), (("_law_cell" : Str), c_law_cell), (("_law_mix" : Str), c_law_mix), (("_law_seed" : Str), c_law_seed), (("_law_pick" : Str), c_law_pick), (("_law_world" : Str), c_law_world), (("_law_wish" : Str), c_law_wish), (("_law_refusal" : Str), c_law_refusal), (("law" : Str), c_law)].lookup x
  gl := fun x => [(("HOURS" : Str), (.d (.int 24) : A)), (("MOST_COPIES" : Str), (.d (.int 5) : A)), (("MOST_ROOMS" : Str), (.d (.int 3) : A)), (("MOST_LONG" : Str), (.d (.int 6) : A)), (("MOST_WISHES" : Str), (.d (.int 12) : A)), (("MOST_CLOCK" : Str), (.d (.int 9999) : A)), (("KEYS" : Str), (.d (.tuple [.str "rank", .str "first", .str "short", .str "early"]) : A)), (("SMALL" : Str), (.d (.str "abcdefghijklmnopqrstuvwxyz") : A))].lookup x
  kd := fun x k => ([(("SIZES" : Str), ([("wish", (4 : Int)), ("off", (2 : Int)), ("pin", (4 : Int))] : List (Str × Int)))].lookup x).bind fun l => l.lookup k
end Fb

/-! L14b: the law k14 by the evaluator, joined. -/
namespace Fb
open PySem PySem.Spec PyProof.Rows L2 Evl
@[simp] theorem fin0_rt (s : Sto) (x : PyData) : fin 0 (.rt (.d x) s) = .ok (.d x) ⟨s.P, []⟩ := nr rfl
theorem bin_catT {s : Sto} {xs ys : List PyData} (h : xs.length + ys.length ≤ 100000) : binA s .add (.d (.tuple xs)) (.d (.tuple ys)) = some (.d (.tuple (xs ++ ys))) := by
  show (if xs.length + ys.length ≤ 100000 then some (PyData.tuple (xs ++ ys)) else none).map A.d = _
  rw [if_pos h]; rfl
theorem Fil.mono {c r : Int} {b : Cp} {n k : Nat} (f : Fil c r b n) (h : n ≤ k) : Fil c r b k := ⟨⟨f.ok.ok, by have := f.ok.len; omega, f.ok.mine, f.ok.own, f.ok.clock⟩, f.nd, f.mine⟩
section
variable {Z : Prg} (h : Z14 Z) (m : Nat) {ns : List Int} {c r : Int} {ks : List Str}
include h
theorem k14_law (hz : Z.fn "law" = some c_law) (ns : List Int) : ∃ s, callF Z (m + 14) "law" [.sc ns] ⟨[], []⟩ = .ok (.d (.bool true)) s := by
  obtain ⟨c, r, ks, W, hw⟩ : ∃ c r ks, WOk c r ks ∧ worldOf (cellZ ns 0) = wD c r ks := ⟨_, _, _, worldOf_wok _, rfl⟩
  have c1 := W.c1
  obtain ⟨s1, e1, A1, S1, l1, _⟩ := e_init h.toZc (m + 8) (s := ⟨[], []⟩) W (m := 0) ⟨by omega, by omega⟩ (P0 := [])
  have e1' : callF Z (m + 12) "__init__" [.ref 0, .d (wD c r ks), .d (.int 0)] ⟨[.ins []], []⟩ = .ok (.d .none) s1 := e1
  have S1' : s1.S = [] := S1
  have l1' : s1.P.length = 2 := l1
  obtain ⟨s2, e2, A2, S2, l2, f2⟩ := e_init h.toZc (m + 8) (s := s1) W (m := c - 1) ⟨by omega, by omega⟩ (P0 := s1.P)
  have e2' : callF Z (m + 12) "__init__" [.ref 2, .d (wD c r ks), .d (.int (c - 1))] ⟨s1.P ++ [.ins []], []⟩ = .ok (.d .none) s2 := by rw [l1', S1'] at e2; exact e2
  rw [l1'] at A2 l2 f2
  have T2 : Two s2 (wD c r ks) ⟨0, [], 0, 0, []⟩ ⟨c - 1, [], 0, 0, []⟩ := ⟨⟨(f2 0 (by decide)).trans A1.o, (f2 1 (by decide)).trans A1.l⟩, A2, S2.trans S1', l2⟩
  have F2 : Fil c r ⟨c - 1, [], 0, 0, []⟩ 0 := ⟨⟨by simp, by simp, ⟨by show 0 ≤ c - 1; omega, by show c - 1 ≤ c - 1; omega⟩, by simp, by simp⟩, by simp, rfl⟩
  obtain ⟨s3, b3, x3, e3, T3, F3⟩ := loop1 h m (ns := ns) W T2 F2 rfl rfl (cellZ ns 1 % 4).toNat (by omega) none
  obtain ⟨s4, b4, x4, e4, T4, F4⟩ := loop2 h m (ns := ns) T3 (F3.mono (by omega)) (cellZ ns 3 % 3).toNat (by omega) x3
  have r1 : rngOk 0 (cellZ ns 1 % 4) = true := by simp only [rngOk, Bool.and_eq_true, decide_eq_true_iff]; omega
  have r3 : rngOk 0 (cellZ ns 3 % 3) = true := by simp only [rngOk, Bool.and_eq_true, decide_eq_true_iff]; omega
  obtain ⟨L, hL⟩ : ∃ L, isort ltFc b4.fs = L := ⟨_, rfl⟩
  have Lok : ∀ f ∈ L, FctOk c r f := hL ▸ isort_ok F4.ok.ok
  have Lnd : L.Nodup := hL ▸ isort_nodup F4.nd
  have Llen : L.length ≤ 8 := by rw [← hL, (isort_perm b4.fs).length_eq]; exact F4.ok.len
  have e5 : ∀ n, callF Z (n + 1) "told" [.ref 2] s4 = .ok (.d (.tuple (L.map Fct.d))) s4 := fun n => by
    have := e_told h.toZe n T4.t F4.ok (by omega); rwa [hL] at this
  obtain ⟨F, hF⟩ : ∃ F, PyData.tuple (L.map Fct.d) = F := ⟨_, rfl⟩
  obtain ⟨X, hX⟩ : ∃ X, seedZ (cellZ ns 6) 2 = X := ⟨_, rfl⟩
  have hA : newL 1 [.d .none, .d (.int 7), .d (.tuple []), .d (.str "off"), .d (.list [.str "off", prD (0, 2)]), .d (.tuple [.int 7, prD (0, 2)]), .d (.tuple [.tuple [.str "off"], prD (0, 2)]), .d F, .d (.tuple [.str "off"]), .d (.tuple [.str "on", prD (0, 2)])] s4 = .ok (.loc 0) ⟨s4.P, [.lst (oddsA F)]⟩ := by
    have := newL1 (ds := oddsA F) (by show 10 ≤ 100000; omega) s4
    rw [T4.S] at this
    exact this
  have hA2 : rd ⟨s4.P, [.lst (oddsA F)]⟩ (.loc 0) = .d (.list (oddsA F)) := rfl
  have hA3 : (oddsA F).length = 10 := rfl
  have hB : newL 1 ((oddsA F).map .d ++ [.d (.tuple [.str "off", prD (0, 2), prD (1, 0)]), .d (.tuple [.str "off", prD (c, 2)]), .d (.tuple [.str "off", prD (0, 12)]), .d (.tuple [.str "off", .list [.int 0, .int 2]]), .d (.bool true), .d (.str "offs")]) ⟨s4.P, [.lst (oddsA F)]⟩ = .ok (.loc 1) ⟨s4.P, [.lst (oddsA F), .lst (oddsA F ++ oddsB c)]⟩ := by
    have := newL1 (ds := oddsA F ++ oddsB c) (by show 16 ≤ 100000; omega) ⟨s4.P, [.lst (oddsA F)]⟩
    rw [List.map_append] at this
    exact this
  obtain ⟨s6, e6, A6, S6, l6, f6⟩ := e_init h.toZc (m + 8) (s := ⟨s4.P, [.lst (oddsA F), .lst (oddsA F ++ oddsB c)]⟩) W (m := 0) ⟨by omega, by omega⟩ (P0 := s4.P)
  have e6' : callF Z (m + 12) "__init__" [.ref s4.P.length, .d (wD c r ks), .d (.int 0)] ⟨s4.P ++ [.ins []], [.lst (oddsA F), .lst (oddsA F ++ oddsB c)]⟩ = .ok (.d .none) s6 := e6
  have hwok := wshOf_ok (r := r) (x := X) W.r1
  have g6 : FctOk c r (.wish (0, 0) (9999, 0) (wshOf r X)) := ⟨⟨by simp, by show (0 : Int) ≤ c - 1; omega, by simp, by simp⟩, ⟨by simp, by simp, by simp, by show (0 : Int) ≤ c - 1; omega⟩, hwok, rfl⟩
  obtain ⟨s7, e7, A7, B7, f7⟩ := e_heard h.toZe (m + 7) A6 (N := 0) ⟨by simp, by simp, ⟨by simp, by show (0 : Int) ≤ c - 1; omega⟩, by simp, by simp⟩ (gs := [.wish (0, 0) (9999, 0) (wshOf r X)]) (by simp) (by simpa using g6) (by simp)
  have e7' : callF Z (m + 12 + 1) "heard" [.ref s4.P.length, .d (.tuple [.tuple [.str "wish", prD (0, 0), prD (9999, 0), wishOf r X]])] s6 = .ok (.d (.int 1)) s7 := e7
  have S7 : s7.S = [.lst (oddsA F), .lst (oddsA F ++ oddsB c)] := f7.S.trans S6
  have T4l := T4.len
  have h7 : CAt s7 (wD c r ks) 0 1 ⟨0, [], 0, 0, []⟩ := CAt.frame ⟨(f6 0 (by omega)).trans T4.h.o, (f6 1 (by omega)).trans T4.h.l⟩ f7 (by omega) (by omega) (by omega) (by omega)
  have t7 : CAt s7 (wD c r ks) 2 3 b4 := CAt.frame ⟨(f6 2 (by omega)).trans T4.t.o, (f6 3 (by omega)).trans T4.t.l⟩ f7 (by omega) (by omega) (by omega) (by omega)
  obtain ⟨O, hO⟩ : ∃ O, oddsA F ++ oddsB c ++ [oddZ (wshD (wshOf r X))] = O := ⟨_, rfl⟩
  have rd7 : rd s7 (.loc 1) = .d (.list (oddsA F ++ oddsB c)) := by
    show (match s7.S[1]? with | some o => rdO (.loc 1) o | none => .loc 1) = _
    rw [S7]; rfl
  have ch7 : chg s7 (.loc 1) (appO (.d (.tuple [.str "wish", prD (0, 0), prD (10000, 0), wishOf r X]))) = some ⟨s7.P, [.lst (oddsA F), .lst O]⟩ := by
    show (match s7.S[1]? with | some o => (appO (.d (.tuple [.str "wish", prD (0, 0), prD (10000, 0), wishOf r X])) o).map fun o => (⟨s7.P, s7.S.set 1 o⟩ : Sto) | none => none) = _
    rw [S7, ← hO]; rfl
  obtain ⟨s8, hs8⟩ : ∃ s8 : Sto, (⟨s7.P, [.lst (oddsA F), .lst O]⟩ : Sto) = s8 := ⟨_, rfl⟩
  have h8 : CAt s8 (wD c r ks) 0 1 ⟨0, [], 0, 0, []⟩ := by rw [← hs8]; exact ⟨h7.o, h7.l⟩
  have t8 : CAt s8 (wD c r ks) 2 3 b4 := by rw [← hs8]; exact ⟨t7.o, t7.l⟩
  have Olen : O.length = 17 := by rw [← hO]; rfl
  obtain ⟨y, hy, hyO⟩ : ∃ y, ixA s8 (.loc 1) (.d (.int (cellZ ns 4 % 17))) = some (.d y) ∧ y ∈ O := by
    have hi : 0 ≤ cellZ ns 4 % 17 ∧ cellZ ns 4 % 17 < 17 := by omega
    have hk : (cellZ ns 4 % 17).toNat < O.length := by omega
    refine ⟨O[(cellZ ns 4 % 17).toNat], ?_, List.getElem_mem hk⟩
    have := Fb.atI_nat O (cellZ ns 4 % 17).toNat
    rw [Int.toNat_of_nonneg hi.1, List.getElem?_eq_getElem hk] at this
    rw [← hs8]
    show (atI O (cellZ ns 4 % 17)).map A.d = _
    rw [this]; rfl
  have yno : isFact c r y = false := odds_no y (by rw [← hO, ← hF] at hyO; exact hyO)
  have ysz : szOk y = true := odds_sz Lok (by omega) hwok y (by rw [← hO, ← hF] at hyO; exact hyO)
  obtain ⟨k, hk, kle⟩ : ∃ k : Nat, mixZ (cellZ ns 5) 9949 (L.length + 1) = (k : Int) ∧ k ≤ L.length := by
    have a := Int.emod_nonneg ((cellZ ns 5 * 48271 % 9949) ^ 3 % 9949) (show (L.length : Int) + 1 ≠ 0 by omega)
    have b := Int.emod_lt_of_pos ((cellZ ns 5 * 48271 % 9949) ^ 3 % 9949) (show 0 < (L.length : Int) + 1 by omega)
    exact ⟨(mixZ (cellZ ns 5) 9949 (L.length + 1)).toNat, (Int.toNat_of_nonneg a).symm, by unfold mixZ; omega⟩
  have e9 := fun n => e_mix (s := s8) h.mix n (cellZ ns 5) 9949 (L.length + 1) (by decide) (by omega)
  rw [hk] at e9
  have lF : ∀ (q : Nat) (s : Sto), b1A .len q s (.d F) = .ok (.d (.int L.length)) s := fun q s => by rw [← hF]; simp
  have e10 : ∀ n, callF Z (n + 1) "told" [.ref 0] s8 = .ok (.d (.tuple [])) s8 := fun n => e_told h.toZe n h8 (N := 0) ⟨by simp, by simp, ⟨by simp, by show (0 : Int) ≤ c - 1; omega⟩, by simp, by simp⟩ (by omega)
  have sl1 : slA s8 (.d F) none (some (k : Int)) = some (.d (.tuple ((L.map Fct.d).take k))) := by
    rw [← hF]; show some (A.d (.tuple (cutD (L.map Fct.d) none (some (k : Int))))) = _; rw [cut_to]
  have sl2 : slA s8 (.d F) (some (k : Int)) none = some (.d (.tuple ((L.map Fct.d).drop k))) := by
    rw [← hF]; show some (A.d (.tuple (cutD (L.map Fct.d) (some (k : Int)) none))) = _; rw [cut_from]
  have ct1 : binA s8 .add (.d (.tuple ((L.map Fct.d).take k))) (.d (.tuple [y])) = some (.d (.tuple ((L.map Fct.d).take k ++ [y]))) := bin_catT (by simp; omega)
  have ct2 : binA s8 .add (.d (.tuple ((L.map Fct.d).take k ++ [y]))) (.d (.tuple ((L.map Fct.d).drop k))) = some (.d (.tuple ((L.map Fct.d).take k ++ [y] ++ (L.map Fct.d).drop k))) := bin_catT (by simp; omega)
  obtain ⟨bad, hbad⟩ : ∃ bad, (L.map Fct.d).take k ++ [y] ++ (L.map Fct.d).drop k = bad := ⟨_, rfl⟩
  rw [hbad] at ct2
  have e11 : ∀ n, callF Z (n + 7) "_law_refusal" [.d (.int 2), .d (wD c r ks), .ref 0, .d (.tuple bad)] s8 = .ok (.d (.str "facts")) s8 := fun n => by
    rw [← hbad]
    exact e_refusal_heard h.toZe h.ref n h8 (bad_sz k (fun x hx => by
      obtain ⟨f, hf, rfl⟩ := List.mem_map.mp hx
      exact sz_fct (Lok f hf)) (by rw [List.length_map]; omega) ysz) (bad_no k yno) _
  have e11' : callF Z (m + 12 + 1) "_law_refusal" [.d (.int 2), .d (wD c r ks), .ref 0, .d (.tuple bad)] s8 = .ok (.d (.str "facts")) s8 := e11 (m + 6)
  have ne0 : cmpA s8 .ne (.d (.tuple [])) (.d (.tuple [])) = some false := ne_fcts (c := c) (r := r) (a := []) (b := []) (by simp) (by simp)
  rw [callF_run hz _ _ rfl]
  cases hc : decide (c = 1) with
  | true =>
    refine ⟨⟨s8.P, []⟩, ?_⟩
    simp [c_law, e_cellI h.toZg, e_world h.toZg, hw, e1', S1', l1', e2', bin_mod _ 4 (by decide), r1, e3, bin_mod _ 3 (by decide), r3, e4, T4.t.meth, e5, hF, hA, hA2, hA3, hB, e_seed h.toZg, hX, e_draw h.toZg _ c r ks (by have := W.r1; omega), e6', A6.meth, e7', rd7, ch7, hs8, bin_mod _ 17 (by decide), hy, lF, e9, h8.meth, e10, sl1, ct1, sl2, ct2, e11', ne0, hc]
  | false =>
    have h0 : CpOk c r ⟨0, [], 0, 0, []⟩ 0 := ⟨by simp, by simp, ⟨by simp, by show (0 : Int) ≤ c - 1; omega⟩, by simp, by simp⟩
    obtain ⟨s9, e12, A9, B9, F9⟩ := e_heard h.toZe (m + 7) h8 h0 (gs := L) (by omega) Lok (by omega)
    obtain ⟨b9, hb9⟩ : ∃ b9, L.foldl Cp.hear ⟨0, [], 0, 0, []⟩ = b9 := ⟨_, rfl⟩
    have f9 : b9.fs = L := by rw [← hb9, hears_fs, puts_new L [] Lnd (by simp)]; rfl
    rw [hb9] at e12 A9 B9
    have e12' : callF Z (m + 12 + 1) "heard" [.ref 0, .d F] s8 = .ok (.d (.int L.length)) s9 := by
      rw [← hF]
      rw [f9] at e12
      exact e12.trans (by simp)
    have hLL : isort ltFc L = L := by rw [← hL]; exact isort_twice _
    have t9 : CAt s9 (wD c r ks) 2 3 b4 := t8.frame F9 (by decide) (by decide) (by decide) (by decide)
    have e13 : ∀ n, callF Z (n + 1) "told" [.ref 0] s9 = .ok (.d F) s9 := fun n => by
      have := e_told h.toZe n A9 B9 (by omega)
      rw [f9, hLL, hF] at this
      exact this
    have neF : ∀ s, cmpA s .ne (.d F) (.d F) = some false := fun s => by
      rw [← hF, ne_fcts Lok Lok]; simp
    have eqF : ∀ s, cmpA s .eq (.d F) (.d F) = some true := fun s => by
      rw [← hF, eq_fcts Lok Lok]; simp
    obtain ⟨G, hG⟩ : ∃ G, PyData.tuple ((L.take k).map Fct.d) = G := ⟨_, rfl⟩
    obtain ⟨V, hV⟩ : ∃ V, PyData.tuple (L.reverse.map Fct.d) = V := ⟨_, rfl⟩
    have sl9 : slA s9 (.d F) none (some (k : Int)) = some (.d G) := by
      rw [← hF, ← hG]; show some (A.d (.tuple (cutD (L.map Fct.d) none (some (k : Int))))) = _; rw [cut_to, List.map_take]
    obtain ⟨s10, e14, A10, B10, F10⟩ := e_heard h.toZe (m + 7) A9 B9 (gs := L.take k) (by simp; omega) (fun f hf => Lok f (List.mem_of_mem_take hf)) (by simp; omega)
    obtain ⟨b10, hb10⟩ : ∃ b10, (L.take k).foldl Cp.hear b9 = b10 := ⟨_, rfl⟩
    have f10 : b10.fs = L := by rw [← hb10, hears_fs, f9, puts_old _ L (fun f hf => List.mem_of_mem_take hf)]
    rw [hb10] at e14 A10 B10
    have e14' : callF Z (m + 12 + 1) "heard" [.ref 0, .d G] s9 = .ok (.d (.int 0)) s10 := by
      rw [f9, f10, hG] at e14
      exact e14.trans (by simp)
    have rv : revA s10 (.d F) = some (.d V) := by rw [← hF, ← hV, List.map_reverse]; rfl
    obtain ⟨s11, e15, A11, B11, F11⟩ := e_heard h.toZe (m + 7) A10 B10 (gs := L.reverse) (by simp; omega) (fun f hf => Lok f (by simpa using hf)) (by simp; omega)
    obtain ⟨b11, hb11⟩ : ∃ b11, L.reverse.foldl Cp.hear b10 = b11 := ⟨_, rfl⟩
    have f11 : b11.fs = L := by rw [← hb11, hears_fs, f10, puts_old _ L (fun f hf => by simpa using hf)]
    rw [hb11] at e15 A11 B11
    have e15' : callF Z (m + 12 + 1) "heard" [.ref 0, .d V] s10 = .ok (.d (.int 0)) s11 := by
      rw [f10, f11, hV] at e15
      exact e15.trans (by simp)
    have t11 : CAt s11 (wD c r ks) 2 3 b4 := (t9.frame F10 (by decide) (by decide) (by decide) (by decide)).frame F11 (by decide) (by decide) (by decide) (by decide)
    have e16 : ∀ n, callF Z (n + 1) "told" [.ref 0] s11 = .ok (.d F) s11 := fun n => by
      have := e_told h.toZe n A11 B11 (by simp; omega)
      rw [f11, hLL, hF] at this
      exact this
    have e17 : ∀ n, callF Z (n + 1) "told" [.ref 2] s11 = .ok (.d F) s11 := fun n => by
      have := e_told h.toZe n t11 F4.ok (by omega)
      rw [hL, hF] at this
      exact this
    have e18 : ∀ n, callF Z (n + 2) "at_rest" [.lst [.ref 0, .ref 2]] s11 = .ok (.d (.bool true)) s11 := fun n => e_at_rest h.at_rest n Lok (ps := [0, 2]) (p := 0) rfl (by simp) (fun p hp q => by
      simp at hp
      rcases hp with rfl | rfl
      · exact A11.meth q fld_told
      · exact t11.meth q fld_told) (fun p hp => by
      simp at hp
      rw [hF]
      rcases hp with rfl | rfl
      · exact e16 n
      · exact e17 n)
    have nl : newL 0 [.ref 0, .ref 2] s11 = .ok (.lst [.ref 0, .ref 2]) s11 := rfl
    have is1 : cmpA s11 .is_ (.d (.bool true)) (.d (.bool true)) = some true := rfl
    refine ⟨⟨s11.P, []⟩, ?_⟩
    simp [c_law, e_cellI h.toZg, e_world h.toZg, hw, e1', S1', l1', e2', bin_mod _ 4 (by decide), r1, e3, bin_mod _ 3 (by decide), r3, e4, T4.t.meth, e5, hF, hA, hA2, hA3, hB, e_seed h.toZg, hX, e_draw h.toZg _ c r ks (by have := W.r1; omega), e6', A6.meth, e7', rd7, ch7, hs8, bin_mod _ 17 (by decide), hy, lF, e9, h8.meth, e10, sl1, ct1, sl2, ct2, e11', ne0, hc, e12', A9.meth, e13, neF, sl9, e14', A10.meth, rv, e15', A11.meth, e16, eqF, nl, e18, is1]
end
theorem kd14 (k : Str) : prZ.kd "SIZES" k = sizK k := rfl
theorem z14 : Z14 prZ := by
  constructor <;> first | rfl | skip
  · constructor <;> first | rfl | skip
    constructor <;> first | rfl | skip
    constructor <;> first | rfl | skip
    constructor <;> first | exact kd14 | rfl | skip
    constructor <;> rfl
  · constructor <;> rfl
theorem law_ev (ns : List Int) (h : ns.length ≤ 63) : ∃ s, callF prZ 14 "law" [.sc ns] ⟨[], []⟩ = .ok (.d (.bool true)) s := k14_law z14 0 rfl ns
end Fb

namespace Fb
open PySem PySem.Spec PyProof.Rows L2 Evl
abbrev szName : Str := "SIZES"
def top (i : Nat) : Stmt := PySem.Challenge.pw_farbook_k14_odd_facts.main.body.getD i (.Pass ⟨0, 0, 0, 0⟩)
abbrev s_is_within : Stmt := top 19
abbrev n_is_within : List Str := ["thing", "low", "high"]
abbrev p_is_within : List Str := ["thing", "low", "high"]
theorem sc_is_within : FnScope n_is_within p_is_within (defScope s_is_within) := ⟨rfl, rfl, rfl, by decide +kernel, rfl, by decide +kernel, by decide +kernel⟩
abbrev s_is_world : Stmt := top 20
abbrev n_is_world : List Str := ["thing", "one"]
abbrev p_is_world : List Str := ["thing"]
theorem sc_is_world : FnScope n_is_world p_is_world (defScope s_is_world) := ⟨rfl, rfl, rfl, by decide +kernel, rfl, by decide +kernel, by decide +kernel⟩
abbrev s_look_world : Stmt := top 21
abbrev n_look_world : List Str := ["thing"]
abbrev p_look_world : List Str := ["thing"]
theorem sc_look_world : FnScope n_look_world p_look_world (defScope s_look_world) := ⟨rfl, rfl, rfl, by decide +kernel, rfl, by decide +kernel, by decide +kernel⟩
abbrev s_is_name : Stmt := top 22
abbrev n_is_name : List Str := ["thing", "sign"]
abbrev p_is_name : List Str := ["thing"]
theorem sc_is_name : FnScope n_is_name p_is_name (defScope s_is_name) := ⟨rfl, rfl, rfl, by decide +kernel, rfl, by decide +kernel, by decide +kernel⟩
abbrev s_is_place : Stmt := top 23
abbrev n_is_place : List Str := ["world", "long", "room", "hour"]
abbrev p_is_place : List Str := ["world", "long", "room", "hour"]
theorem sc_is_place : FnScope n_is_place p_is_place (defScope s_is_place) := ⟨rfl, rfl, rfl, by decide +kernel, rfl, by decide +kernel, by decide +kernel⟩
abbrev s_is_wish : Stmt := top 24
abbrev n_is_wish : List Str := ["world", "thing"]
abbrev p_is_wish : List Str := ["world", "thing"]
theorem sc_is_wish : FnScope n_is_wish p_is_wish (defScope s_is_wish) := ⟨rfl, rfl, rfl, by decide +kernel, rfl, by decide +kernel, by decide +kernel⟩
abbrev s_look_wish : Stmt := top 25
abbrev n_look_wish : List Str := ["world", "thing"]
abbrev p_look_wish : List Str := ["world", "thing"]
theorem sc_look_wish : FnScope n_look_wish p_look_wish (defScope s_look_wish) := ⟨rfl, rfl, rfl, by decide +kernel, rfl, by decide +kernel, by decide +kernel⟩
abbrev s_is_booking : Stmt := top 26
abbrev n_is_booking : List Str := ["world", "thing"]
abbrev p_is_booking : List Str := ["world", "thing"]
theorem sc_is_booking : FnScope n_is_booking p_is_booking (defScope s_is_booking) := ⟨rfl, rfl, rfl, by decide +kernel, rfl, by decide +kernel, by decide +kernel⟩
abbrev s_is_fact : Stmt := top 27
abbrev n_is_fact : List Str := ["world", "thing"]
abbrev p_is_fact : List Str := ["world", "thing"]
theorem sc_is_fact : FnScope n_is_fact p_is_fact (defScope s_is_fact) := ⟨rfl, rfl, rfl, by decide +kernel, rfl, by decide +kernel, by decide +kernel⟩
abbrev s_look_facts : Stmt := top 28
abbrev n_look_facts : List Str := ["world", "thing", "one"]
abbrev p_look_facts : List Str := ["world", "thing"]
theorem sc_look_facts : FnScope n_look_facts p_look_facts (defScope s_look_facts) := ⟨rfl, rfl, rfl, by decide +kernel, rfl, by decide +kernel, by decide +kernel⟩
abbrev s_wishes_in : Stmt := top 30
abbrev n_wishes_in : List Str := ["facts", "off", "fact"]
abbrev p_wishes_in : List Str := ["facts"]
theorem sc_wishes_in : FnScope n_wishes_in p_wishes_in (defScope s_wishes_in) := ⟨rfl, rfl, rfl, by decide +kernel, rfl, by decide +kernel, by decide +kernel⟩
abbrev s_Copy_init : Stmt := inClass (top 39) 0
abbrev n_Copy_init : List Str := ["self", "world", "mine"]
abbrev p_Copy_init : List Str := ["self", "world", "mine"]
theorem sc_Copy_init : FnScope n_Copy_init p_Copy_init (defScope s_Copy_init) := ⟨rfl, rfl, rfl, by decide +kernel, rfl, by decide +kernel, by decide +kernel⟩
abbrev s_Copy_put : Stmt := inClass (top 39) 1
abbrev n_Copy_put : List Str := ["self", "fact"]
abbrev p_Copy_put : List Str := ["self", "fact"]
theorem sc_Copy_put : FnScope n_Copy_put p_Copy_put (defScope s_Copy_put) := ⟨rfl, rfl, rfl, by decide +kernel, rfl, by decide +kernel, by decide +kernel⟩
abbrev s_Copy_tick : Stmt := inClass (top 39) 2
abbrev n_Copy_tick : List Str := ["self"]
abbrev p_Copy_tick : List Str := ["self"]
theorem sc_Copy_tick : FnScope n_Copy_tick p_Copy_tick (defScope s_Copy_tick) := ⟨rfl, rfl, rfl, by decide +kernel, rfl, by decide +kernel, by decide +kernel⟩
abbrev s_Copy_look_known : Stmt := inClass (top 39) 3
abbrev n_Copy_look_known : List Str := ["self", "booking"]
abbrev p_Copy_look_known : List Str := ["self", "booking"]
theorem sc_Copy_look_known : FnScope n_Copy_look_known p_Copy_look_known (defScope s_Copy_look_known) := ⟨rfl, rfl, rfl, by decide +kernel, rfl, by decide +kernel, by decide +kernel⟩
abbrev s_Copy_wish : Stmt := inClass (top 39) 4
abbrev n_Copy_wish : List Str := ["self", "thing", "booking"]
abbrev p_Copy_wish : List Str := ["self", "thing"]
theorem sc_Copy_wish : FnScope n_Copy_wish p_Copy_wish (defScope s_Copy_wish) := ⟨rfl, rfl, rfl, by decide +kernel, rfl, by decide +kernel, by decide +kernel⟩
abbrev s_Copy_off : Stmt := inClass (top 39) 5
abbrev n_Copy_off : List Str := ["self", "booking"]
abbrev p_Copy_off : List Str := ["self", "booking"]
theorem sc_Copy_off : FnScope n_Copy_off p_Copy_off (defScope s_Copy_off) := ⟨rfl, rfl, rfl, by decide +kernel, rfl, by decide +kernel, by decide +kernel⟩
abbrev s_Copy_told : Stmt := inClass (top 39) 7
abbrev n_Copy_told : List Str := ["self"]
abbrev p_Copy_told : List Str := ["self"]
theorem sc_Copy_told : FnScope n_Copy_told p_Copy_told (defScope s_Copy_told) := ⟨rfl, rfl, rfl, by decide +kernel, rfl, by decide +kernel, by decide +kernel⟩
abbrev s_Copy_heard : Stmt := inClass (top 39) 8
abbrev n_Copy_heard : List Str := ["self", "facts", "many", "fact"]
abbrev p_Copy_heard : List Str := ["self", "facts"]
theorem sc_Copy_heard : FnScope n_Copy_heard p_Copy_heard (defScope s_Copy_heard) := ⟨rfl, rfl, rfl, by decide +kernel, rfl, by decide +kernel, by decide +kernel⟩
abbrev s_at_rest : Stmt := top 41
abbrev n_at_rest : List Str := ["copies", "copy"]
abbrev p_at_rest : List Str := ["copies"]
theorem sc_at_rest : FnScope n_at_rest p_at_rest (defScope s_at_rest) := ⟨rfl, rfl, rfl, by decide +kernel, rfl, by decide +kernel, by decide +kernel⟩
abbrev s_law_cell : Stmt := top 43
abbrev n_law_cell : List Str := ["script", "k"]
abbrev p_law_cell : List Str := ["script", "k"]
theorem sc_law_cell : FnScope n_law_cell p_law_cell (defScope s_law_cell) := ⟨rfl, rfl, rfl, by decide +kernel, rfl, by decide +kernel, by decide +kernel⟩
abbrev s_law_mix : Stmt := top 44
abbrev n_law_mix : List Str := ["cell", "prime", "many"]
abbrev p_law_mix : List Str := ["cell", "prime", "many"]
theorem sc_law_mix : FnScope n_law_mix p_law_mix (defScope s_law_mix) := ⟨rfl, rfl, rfl, by decide +kernel, rfl, by decide +kernel, by decide +kernel⟩
abbrev s_law_seed : Stmt := top 45
abbrev n_law_seed : List Str := ["seed", "k"]
abbrev p_law_seed : List Str := ["seed", "k"]
theorem sc_law_seed : FnScope n_law_seed p_law_seed (defScope s_law_seed) := ⟨rfl, rfl, rfl, by decide +kernel, rfl, by decide +kernel, by decide +kernel⟩
abbrev s_law_pick : Stmt := top 46
abbrev n_law_pick : List Str := ["seed", "many"]
abbrev p_law_pick : List Str := ["seed", "many"]
theorem sc_law_pick : FnScope n_law_pick p_law_pick (defScope s_law_pick) := ⟨rfl, rfl, rfl, by decide +kernel, rfl, by decide +kernel, by decide +kernel⟩
abbrev s_law_world : Stmt := top 47
abbrev n_law_world : List Str := ["cell", "keys", "some", "k", "key"]
abbrev p_law_world : List Str := ["cell"]
theorem sc_law_world : FnScope n_law_world p_law_world (defScope s_law_world) := ⟨rfl, rfl, rfl, by decide +kernel, rfl, by decide +kernel, by decide +kernel⟩
abbrev s_law_wish : Stmt := top 48
abbrev n_law_wish : List Str := ["world", "seed", "letters", "name", "k", "long", "hour"]
abbrev p_law_wish : List Str := ["world", "seed"]
theorem sc_law_wish : FnScope n_law_wish p_law_wish (defScope s_law_wish) := ⟨rfl, rfl, rfl, by decide +kernel, rfl, by decide +kernel, by decide +kernel⟩
abbrev s_law_refusal : Stmt := top 49
abbrev n_law_refusal : List Str := ["kind", "world", "here", "thing", "caught"]
abbrev p_law_refusal : List Str := ["kind", "world", "here", "thing"]
theorem sc_law_refusal : FnScope n_law_refusal p_law_refusal (defScope s_law_refusal) := ⟨rfl, rfl, rfl, by decide +kernel, rfl, by decide +kernel, by decide +kernel⟩
abbrev s_law : Stmt := top 50
abbrev n_law : List Str := ["script", "world", "here", "there", "k", "facts", "some", "wish", "odd", "at", "before", "bad"]
abbrev p_law : List Str := ["script"]
theorem sc_law : FnScope n_law p_law (defScope s_law) := ⟨rfl, rfl, rfl, by decide +kernel, rfl, by decide +kernel, by decide +kernel⟩
structure Lb (P : Program) (w : World) (K : PySem.W.Frag) (mg : Str → Option Value) (base : Heap) (C : Addr) (T : Tab) (j : Nat) : Prop where
  b_len : mg "len" = none
  b_isinstance : mg "isinstance" = none
  b_int : mg "int" = none
  b_bool : mg "bool" = none
  b_str : mg "str" = none
  b_tuple : mg "tuple" = none
  b_list : mg "list" = none
  b_dict : mg "dict" = none
  b_set : mg "set" = none
  b_range : mg "range" = none
  b_sorted : mg "sorted" = none
  b_max : mg "max" = none
  b_min : mg "min" = none
  b_abs : mg "abs" = none
  b_enumerate : mg "enumerate" = none
  b_zip : mg "zip" = none
  b_sum : mg "sum" = none
  g_HOURS : (∃ t, mg "HOURS" = some (.int 24 t)) ∧ T.gl "HOURS" = some (.d (.int 24))
  g_MOST_COPIES : (∃ t, mg "MOST_COPIES" = some (.int 5 t)) ∧ T.gl "MOST_COPIES" = some (.d (.int 5))
  g_MOST_ROOMS : (∃ t, mg "MOST_ROOMS" = some (.int 3 t)) ∧ T.gl "MOST_ROOMS" = some (.d (.int 3))
  g_MOST_LONG : (∃ t, mg "MOST_LONG" = some (.int 6 t)) ∧ T.gl "MOST_LONG" = some (.d (.int 6))
  g_MOST_WISHES : (∃ t, mg "MOST_WISHES" = some (.int 12 t)) ∧ T.gl "MOST_WISHES" = some (.d (.int 12))
  g_MOST_CLOCK : (∃ t, mg "MOST_CLOCK" = some (.int 9999 t)) ∧ T.gl "MOST_CLOCK" = some (.d (.int 9999))
  g_KEYS : (∃ q, mg "KEYS" = some (.ref q) ∧ ∀ H, Dp K H (.ref q) (.tuple [.str "rank", .str "first", .str "short", .str "early"])) ∧ T.gl "KEYS" = some (.d (.tuple [.str "rank", .str "first", .str "short", .str "early"]))
  g_SMALL : (∃ t, mg "SMALL" = some (.str "abcdefghijklmnopqrstuvwxyz" t)) ∧ T.gl "SMALL" = some (.d (.str "abcdefghijklmnopqrstuvwxyz"))
  g_SIZES : ∃ q, mg "SIZES" = some (.ref q) ∧ Kd K w q (T.kd "SIZES")
  cl : Cls K C
  at_world : NoAttr K C "world"
  at_mine : NoAttr K C "mine"
  at_facts : NoAttr K C "facts"
  at_clock : NoAttr K C "clock"
  at_own : NoAttr K C "own"
  at_seen : NoAttr K C "seen"
  e_BadWorld : ∃ B, Ec K mg "BadWorld" B
  e_BadWish : ∃ B, Ec K mg "BadWish" B
  e_BadCopy : ∃ B, Ec K mg "BadCopy" B
  e_NoBooking : ∃ B, Ec K mg "NoBooking" B
  e_Full : ∃ B, Ec K mg "Full" B
  e_BadFacts : ∃ B, Ec K mg "BadFacts" B
  n_BadWorld : ∃ B0, mg "BadWorld" = some (.ref B0) ∧ ∀ c B, c ∈ errN → mg c = some (.ref B) → PySem.W.exmOne K (.ref B) (.ref B0) = some (isSub c "BadWorld")
  n_BadCopy : ∃ B0, mg "BadCopy" = some (.ref B0) ∧ ∀ c B, c ∈ errN → mg c = some (.ref B) → PySem.W.exmOne K (.ref B) (.ref B0) = some (isSub c "BadCopy")
  n_BadWish : ∃ B0, mg "BadWish" = some (.ref B0) ∧ ∀ c B, c ∈ errN → mg c = some (.ref B) → PySem.W.exmOne K (.ref B) (.ref B0) = some (isSub c "BadWish")
  n_BadFacts : ∃ B0, mg "BadFacts" = some (.ref B0) ∧ ∀ c B, c ∈ errN → mg c = some (.ref B) → PySem.W.exmOne K (.ref B) (.ref B0) = some (isSub c "BadFacts")
  n_NoBooking : ∃ B0, mg "NoBooking" = some (.ref B0) ∧ ∀ c B, c ∈ errN → mg c = some (.ref B) → PySem.W.exmOne K (.ref B) (.ref B0) = some (isSub c "NoBooking")
  f_is_within : Fc P w K mg base j "is_within" (spT K C mg (T.fn "is_within"))
  f_is_world : Fc P w K mg base j "is_world" (spT K C mg (T.fn "is_world"))
  f_look_world : Fc P w K mg base j "look_world" (spT K C mg (T.fn "look_world"))
  f_is_name : Fc P w K mg base j "is_name" (spT K C mg (T.fn "is_name"))
  f_is_place : Fc P w K mg base j "is_place" (spT K C mg (T.fn "is_place"))
  f_is_wish : Fc P w K mg base j "is_wish" (spT K C mg (T.fn "is_wish"))
  f_look_wish : Fc P w K mg base j "look_wish" (spT K C mg (T.fn "look_wish"))
  f_is_booking : Fc P w K mg base j "is_booking" (spT K C mg (T.fn "is_booking"))
  f_is_fact : Fc P w K mg base j "is_fact" (spT K C mg (T.fn "is_fact"))
  f_look_facts : Fc P w K mg base j "look_facts" (spT K C mg (T.fn "look_facts"))
  f_wishes_in : Fc P w K mg base j "wishes_in" (spT K C mg (T.fn "wishes_in"))
  m_put : Fm P w K mg base j C "put" (spT K C mg (T.fn "put"))
  m_tick : Fm P w K mg base j C "tick" (spT K C mg (T.fn "tick"))
  m_look_known : Fm P w K mg base j C "look_known" (spT K C mg (T.fn "look_known"))
  m_wish : Fm P w K mg base j C "wish" (spT K C mg (T.fn "wish"))
  m_off : Fm P w K mg base j C "off" (spT K C mg (T.fn "off"))
  m_told : Fm P w K mg base j C "told" (spT K C mg (T.fn "told"))
  m_heard : Fm P w K mg base j C "heard" (spT K C mg (T.fn "heard"))
  f_at_rest : Fc P w K mg base j "at_rest" (spT K C mg (T.fn "at_rest"))
  f_law_cell : Fc P w K mg base j "_law_cell" (spT K C mg (T.fn "_law_cell"))
  f_law_mix : Fc P w K mg base j "_law_mix" (spT K C mg (T.fn "_law_mix"))
  f_law_seed : Fc P w K mg base j "_law_seed" (spT K C mg (T.fn "_law_seed"))
  f_law_pick : Fc P w K mg base j "_law_pick" (spT K C mg (T.fn "_law_pick"))
  f_law_world : Fc P w K mg base j "_law_world" (spT K C mg (T.fn "_law_world"))
  f_law_wish : Fc P w K mg base j "_law_wish" (spT K C mg (T.fn "_law_wish"))
  f_law_refusal : Fc P w K mg base j "_law_refusal" (spT K C mg (T.fn "_law_refusal"))
  f_law : Fc P w K mg base j "law" (spT K C mg (T.fn "law"))
  mkc : ∃ k, k + 1 ≤ j ∧ Fk P w K mg base k C "Copy" (spT K C mg T.mak)
theorem w_is_within {P : Program} {w : World} {K : PySem.W.Frag} {mg : Str → Option Value} {base : Heap} {C : Addr} {T : Tab} {j : Nat} (L : Lb P w K mg base C T j) {f : Addr} (cdv : Value) (A : Around) (outer : List Env) (s : Shared) (H : Hp) (E : XK) (hr : Room j (A.deeper (envOfC "is_within" (defScope s_is_within) s.heap.objs.size f cdv))) :
    Sz (cxOf (L2.CX P w) P w K mg base n_is_within "is_within" (defScope s_is_within) f cdv A outer s H E) C (fun cls d _ H2 => E cls d H2) T (defBody s_is_within) c_is_within.body := by
  have hx : Hx (cxOf (L2.CX P w) P w K mg base n_is_within "is_within" (defScope s_is_within) f cdv A outer s H E) := ⟨sc_is_within.nd, by have := hr.un; show (A.deeper (envOfC "is_within" (defScope s_is_within) s.heap.objs.size f cdv)).units + 70 < cLine; omega⟩
  have tk : Takes (cxOf (L2.CX P w) P w K mg base n_is_within "is_within" (defScope s_is_within) f cdv A outer s H E) (fun cls d _ H2 => E cls d H2) := takes_of rfl rfl rfl rfl
  refine sz_cons ?_ ?_
  · exact (ss_ret (sx_and (sx_isInt L.b_isinstance L.b_int (sx_slot 0)) (sx_and (sx_not (sx_isBool L.b_isinstance L.b_bool (sx_slot 0))) (sx_one (sx_lele (sx_slot 1) (sx_slot 0) (sx_slot 2))))))
  exact sz_nil
theorem w_is_world {P : Program} {w : World} {K : PySem.W.Frag} {mg : Str → Option Value} {base : Heap} {C : Addr} {T : Tab} {j : Nat} (L : Lb P w K mg base C T j) {f : Addr} (cdv : Value) (A : Around) (outer : List Env) (s : Shared) (H : Hp) (E : XK) (hr : Room j (A.deeper (envOfC "is_world" (defScope s_is_world) s.heap.objs.size f cdv))) :
    Sz (cxOf (L2.CX P w) P w K mg base n_is_world "is_world" (defScope s_is_world) f cdv A outer s H E) C (fun cls d _ H2 => E cls d H2) T (defBody s_is_world) c_is_world.body := by
  have hx : Hx (cxOf (L2.CX P w) P w K mg base n_is_world "is_world" (defScope s_is_world) f cdv A outer s H E) := ⟨sc_is_world.nd, by have := hr.un; show (A.deeper (envOfC "is_world" (defScope s_is_world) s.heap.objs.size f cdv)).units + 70 < cLine; omega⟩
  have tk : Takes (cxOf (L2.CX P w) P w K mg base n_is_world "is_world" (defScope s_is_world) f cdv A outer s H E) (fun cls d _ H2 => E cls d H2) := takes_of rfl rfl rfl rfl
  refine sz_cons ?_ ?_
  · exact (ss_if (Sw.sb (sw_or (sb_not (sb_val (sx_isTup L.b_isinstance L.b_tuple (sx_slot 0)))) (sw_or (sb_ne hx (sx_len L.b_len (sx_slot 0)) sx_int) (sw_or1 (sb_not (sb_val (sx_call L.f_is_within hr tk (sa_cons (sx_ix hx (sx_slot 0) sx_int) (sa_cons sx_int (sa_cons (sx_gint L.g_MOST_COPIES) sa_nil))) (Nat.le_refl _))))))))
  (sz_cons (ss_ret sx_bool)
  sz_nil)
  sz_nil)
  refine sz_cons ?_ ?_
  · exact (ss_if (Sw.sb (sw_or (sb_not (sb_val (sx_call L.f_is_within hr tk (sa_cons (sx_ix hx (sx_slot 0) sx_int) (sa_cons sx_int (sa_cons (sx_gint L.g_MOST_ROOMS) sa_nil))) (Nat.le_refl _)))) (sw_or1 (sb_not (sb_val (sx_isTup L.b_isinstance L.b_tuple (sx_ix hx (sx_slot 0) sx_int)))))))
  (sz_cons (ss_ret sx_bool)
  sz_nil)
  sz_nil)
  refine sz_cons ?_ ?_
  · exact (ss_if (sb_val (sx_lc [("one", 1)] rfl sc_is_world.nd (si_seq (sx_ix hx (sx_slot 0) sx_int)) (blkOk_by (N := n_is_world) (sc := defScope s_is_world) (by decide +kernel)) (fun _ _ _ _ _ => (sg_one 1 sc_is_world.nd)) (fun _ _ _ _ _ => sts_one (Sw.sb (sw_or (sb_not (sb_val (sx_isStr L.b_isinstance L.b_str (sx_slot 1)))) (sw_or1 (sb_nin ⟨hx.nd, hx.hu⟩ (sx_slot 1) (sx_gtup L.g_KEYS)))))) (fun _ _ _ _ _ => (sx_slot 1)) (by decide)))
  (sz_cons (ss_ret sx_bool)
  sz_nil)
  sz_nil)
  refine sz_cons ?_ ?_
  · exact (ss_ret (sx_eq hx (sx_lenSet L.b_len L.b_set (sx_ix hx (sx_slot 0) sx_int)) (sx_len L.b_len (sx_ix hx (sx_slot 0) sx_int))))
  exact sz_nil
theorem w_look_world {P : Program} {w : World} {K : PySem.W.Frag} {mg : Str → Option Value} {base : Heap} {C : Addr} {T : Tab} {j : Nat} (L : Lb P w K mg base C T j) {f : Addr} (cdv : Value) (A : Around) (outer : List Env) (s : Shared) (H : Hp) (E : XK) (hr : Room j (A.deeper (envOfC "look_world" (defScope s_look_world) s.heap.objs.size f cdv))) :
    Sz (cxOf (L2.CX P w) P w K mg base n_look_world "look_world" (defScope s_look_world) f cdv A outer s H E) C (fun cls d _ H2 => E cls d H2) T (defBody s_look_world) c_look_world.body := by
  have hx : Hx (cxOf (L2.CX P w) P w K mg base n_look_world "look_world" (defScope s_look_world) f cdv A outer s H E) := ⟨sc_look_world.nd, by have := hr.un; show (A.deeper (envOfC "look_world" (defScope s_look_world) s.heap.objs.size f cdv)).units + 70 < cLine; omega⟩
  have tk : Takes (cxOf (L2.CX P w) P w K mg base n_look_world "look_world" (defScope s_look_world) f cdv A outer s H E) (fun cls d _ H2 => E cls d H2) := takes_of rfl rfl rfl rfl
  refine sz_cons ?_ ?_
  · exact (ss_if (sb_not (sb_val (sx_call L.f_is_world hr tk (sa_cons (sx_slot 0) sa_nil) (Nat.le_refl _))))
  (sz_cons (ss_raiseE L.e_BadWorld tk)
  sz_nil)
  sz_nil)
  exact sz_nil
theorem w_is_name {P : Program} {w : World} {K : PySem.W.Frag} {mg : Str → Option Value} {base : Heap} {C : Addr} {T : Tab} {j : Nat} (L : Lb P w K mg base C T j) {f : Addr} (cdv : Value) (A : Around) (outer : List Env) (s : Shared) (H : Hp) (E : XK) (hr : Room j (A.deeper (envOfC "is_name" (defScope s_is_name) s.heap.objs.size f cdv))) :
    Sz (cxOf (L2.CX P w) P w K mg base n_is_name "is_name" (defScope s_is_name) f cdv A outer s H E) C (fun cls d _ H2 => E cls d H2) T (defBody s_is_name) c_is_name.body := by
  have hx : Hx (cxOf (L2.CX P w) P w K mg base n_is_name "is_name" (defScope s_is_name) f cdv A outer s H E) := ⟨sc_is_name.nd, by have := hr.un; show (A.deeper (envOfC "is_name" (defScope s_is_name) s.heap.objs.size f cdv)).units + 70 < cLine; omega⟩
  have tk : Takes (cxOf (L2.CX P w) P w K mg base n_is_name "is_name" (defScope s_is_name) f cdv A outer s H E) (fun cls d _ H2 => E cls d H2) := takes_of rfl rfl rfl rfl
  refine sz_cons ?_ ?_
  · exact (ss_ret (sx_and (sx_isStr L.b_isinstance L.b_str (sx_slot 0)) (sx_and (sx_lele sx_int (sx_len L.b_len (sx_slot 0)) sx_int) (sx_one (sx_not (sx_lc [("sign", 1)] rfl sc_is_name.nd (si_seq (sx_slot 0)) (blkOk_by (N := n_is_name) (sc := defScope s_is_name) (by decide +kernel)) (fun _ _ _ _ _ => (sg_one 1 sc_is_name.nd)) (fun _ _ _ _ _ => sts_one (sb_nin ⟨hx.nd, hx.hu⟩ (sx_slot 1) (sx_gstr L.g_SMALL))) (fun _ _ _ _ _ => (sx_slot 1)) (by decide)))))))
  exact sz_nil
theorem w_is_place {P : Program} {w : World} {K : PySem.W.Frag} {mg : Str → Option Value} {base : Heap} {C : Addr} {T : Tab} {j : Nat} (L : Lb P w K mg base C T j) {f : Addr} (cdv : Value) (A : Around) (outer : List Env) (s : Shared) (H : Hp) (E : XK) (hr : Room j (A.deeper (envOfC "is_place" (defScope s_is_place) s.heap.objs.size f cdv))) :
    Sz (cxOf (L2.CX P w) P w K mg base n_is_place "is_place" (defScope s_is_place) f cdv A outer s H E) C (fun cls d _ H2 => E cls d H2) T (defBody s_is_place) c_is_place.body := by
  have hx : Hx (cxOf (L2.CX P w) P w K mg base n_is_place "is_place" (defScope s_is_place) f cdv A outer s H E) := ⟨sc_is_place.nd, by have := hr.un; show (A.deeper (envOfC "is_place" (defScope s_is_place) s.heap.objs.size f cdv)).units + 70 < cLine; omega⟩
  have tk : Takes (cxOf (L2.CX P w) P w K mg base n_is_place "is_place" (defScope s_is_place) f cdv A outer s H E) (fun cls d _ H2 => E cls d H2) := takes_of rfl rfl rfl rfl
  refine sz_cons ?_ ?_
  · exact (ss_ret (sx_and (sx_call L.f_is_within hr tk (sa_cons (sx_slot 2) (sa_cons sx_int (sa_cons (sx_sub (sx_ix hx (sx_slot 0) sx_int) sx_int) sa_nil))) (Nat.le_refl _)) (sx_one (sx_call L.f_is_within hr tk (sa_cons (sx_slot 3) (sa_cons sx_int (sa_cons (sx_sub (sx_gint L.g_HOURS) (sx_slot 1)) sa_nil))) (Nat.le_refl _)))))
  exact sz_nil
theorem w_is_wish {P : Program} {w : World} {K : PySem.W.Frag} {mg : Str → Option Value} {base : Heap} {C : Addr} {T : Tab} {j : Nat} (L : Lb P w K mg base C T j) {f : Addr} (cdv : Value) (A : Around) (outer : List Env) (s : Shared) (H : Hp) (E : XK) (hr : Room j (A.deeper (envOfC "is_wish" (defScope s_is_wish) s.heap.objs.size f cdv))) :
    Sz (cxOf (L2.CX P w) P w K mg base n_is_wish "is_wish" (defScope s_is_wish) f cdv A outer s H E) C (fun cls d _ H2 => E cls d H2) T (defBody s_is_wish) c_is_wish.body := by
  have hx : Hx (cxOf (L2.CX P w) P w K mg base n_is_wish "is_wish" (defScope s_is_wish) f cdv A outer s H E) := ⟨sc_is_wish.nd, by have := hr.un; show (A.deeper (envOfC "is_wish" (defScope s_is_wish) s.heap.objs.size f cdv)).units + 70 < cLine; omega⟩
  have tk : Takes (cxOf (L2.CX P w) P w K mg base n_is_wish "is_wish" (defScope s_is_wish) f cdv A outer s H E) (fun cls d _ H2 => E cls d H2) := takes_of rfl rfl rfl rfl
  refine sz_cons ?_ ?_
  · exact (ss_if (Sw.sb (sw_or (sb_not (sb_val (sx_isTup L.b_isinstance L.b_tuple (sx_slot 1)))) (sw_or (sb_ne hx (sx_len L.b_len (sx_slot 1)) sx_int) (sw_or1 (sb_not (sb_val (sx_call L.f_is_name hr tk (sa_cons (sx_ix hx (sx_slot 1) sx_int) sa_nil) (Nat.le_refl _))))))))
  (sz_cons (ss_ret sx_bool)
  sz_nil)
  sz_nil)
  refine sz_cons ?_ ?_
  · exact (ss_if (sb_not (sb_val (sx_call L.f_is_within hr tk (sa_cons (sx_ix hx (sx_slot 1) sx_int) (sa_cons sx_int (sa_cons (sx_gint L.g_MOST_LONG) sa_nil))) (Nat.le_refl _))))
  (sz_cons (ss_ret sx_bool)
  sz_nil)
  sz_nil)
  refine sz_cons ?_ ?_
  · exact (ss_ret (sx_and (sx_call L.f_is_place hr tk (sa_cons (sx_slot 0) (sa_cons (sx_ix hx (sx_slot 1) sx_int) (sa_cons (sx_ix hx (sx_slot 1) sx_int) (sa_cons (sx_ix hx (sx_slot 1) sx_int) sa_nil)))) (Nat.le_refl _)) (sx_one (sx_call L.f_is_within hr tk (sa_cons (sx_ix hx (sx_slot 1) sx_int) (sa_cons sx_int (sa_cons sx_int sa_nil))) (Nat.le_refl _)))))
  exact sz_nil
theorem w_look_wish {P : Program} {w : World} {K : PySem.W.Frag} {mg : Str → Option Value} {base : Heap} {C : Addr} {T : Tab} {j : Nat} (L : Lb P w K mg base C T j) {f : Addr} (cdv : Value) (A : Around) (outer : List Env) (s : Shared) (H : Hp) (E : XK) (hr : Room j (A.deeper (envOfC "look_wish" (defScope s_look_wish) s.heap.objs.size f cdv))) :
    Sz (cxOf (L2.CX P w) P w K mg base n_look_wish "look_wish" (defScope s_look_wish) f cdv A outer s H E) C (fun cls d _ H2 => E cls d H2) T (defBody s_look_wish) c_look_wish.body := by
  have hx : Hx (cxOf (L2.CX P w) P w K mg base n_look_wish "look_wish" (defScope s_look_wish) f cdv A outer s H E) := ⟨sc_look_wish.nd, by have := hr.un; show (A.deeper (envOfC "look_wish" (defScope s_look_wish) s.heap.objs.size f cdv)).units + 70 < cLine; omega⟩
  have tk : Takes (cxOf (L2.CX P w) P w K mg base n_look_wish "look_wish" (defScope s_look_wish) f cdv A outer s H E) (fun cls d _ H2 => E cls d H2) := takes_of rfl rfl rfl rfl
  refine sz_cons ?_ ?_
  · exact (ss_if (sb_not (sb_val (sx_call L.f_is_wish hr tk (sa_cons (sx_slot 0) (sa_cons (sx_slot 1) sa_nil)) (Nat.le_refl _))))
  (sz_cons (ss_raiseE L.e_BadWish tk)
  sz_nil)
  sz_nil)
  exact sz_nil
theorem w_is_booking {P : Program} {w : World} {K : PySem.W.Frag} {mg : Str → Option Value} {base : Heap} {C : Addr} {T : Tab} {j : Nat} (L : Lb P w K mg base C T j) {f : Addr} (cdv : Value) (A : Around) (outer : List Env) (s : Shared) (H : Hp) (E : XK) (hr : Room j (A.deeper (envOfC "is_booking" (defScope s_is_booking) s.heap.objs.size f cdv))) :
    Sz (cxOf (L2.CX P w) P w K mg base n_is_booking "is_booking" (defScope s_is_booking) f cdv A outer s H E) C (fun cls d _ H2 => E cls d H2) T (defBody s_is_booking) c_is_booking.body := by
  have hx : Hx (cxOf (L2.CX P w) P w K mg base n_is_booking "is_booking" (defScope s_is_booking) f cdv A outer s H E) := ⟨sc_is_booking.nd, by have := hr.un; show (A.deeper (envOfC "is_booking" (defScope s_is_booking) s.heap.objs.size f cdv)).units + 70 < cLine; omega⟩
  have tk : Takes (cxOf (L2.CX P w) P w K mg base n_is_booking "is_booking" (defScope s_is_booking) f cdv A outer s H E) (fun cls d _ H2 => E cls d H2) := takes_of rfl rfl rfl rfl
  refine sz_cons ?_ ?_
  · exact (ss_if (Sw.sb (sw_or (sb_not (sb_val (sx_isTup L.b_isinstance L.b_tuple (sx_slot 1)))) (sw_or (sb_ne hx (sx_len L.b_len (sx_slot 1)) sx_int) (sw_or1 (sb_not (sb_val (sx_call L.f_is_within hr tk (sa_cons (sx_ix hx (sx_slot 1) sx_int) (sa_cons sx_int (sa_cons (sx_sub (sx_ix hx (sx_slot 0) sx_int) sx_int) sa_nil))) (Nat.le_refl _))))))))
  (sz_cons (ss_ret sx_bool)
  sz_nil)
  sz_nil)
  refine sz_cons ?_ ?_
  · exact (ss_ret (sx_call L.f_is_within hr tk (sa_cons (sx_ix hx (sx_slot 1) sx_int) (sa_cons sx_int (sa_cons (sx_sub (sx_gint L.g_MOST_WISHES) sx_int) sa_nil))) (Nat.le_refl _)))
  exact sz_nil
theorem w_is_fact {P : Program} {w : World} {K : PySem.W.Frag} {mg : Str → Option Value} {base : Heap} {C : Addr} {T : Tab} {j : Nat} (L : Lb P w K mg base C T j) {f : Addr} (cdv : Value) (A : Around) (outer : List Env) (s : Shared) (H : Hp) (E : XK) (hr : Room j (A.deeper (envOfC "is_fact" (defScope s_is_fact) s.heap.objs.size f cdv))) :
    Sz (cxOf (L2.CX P w) P w K mg base n_is_fact "is_fact" (defScope s_is_fact) f cdv A outer s H E) C (fun cls d _ H2 => E cls d H2) T (defBody s_is_fact) c_is_fact.body := by
  have hx : Hx (cxOf (L2.CX P w) P w K mg base n_is_fact "is_fact" (defScope s_is_fact) f cdv A outer s H E) := ⟨sc_is_fact.nd, by have := hr.un; show (A.deeper (envOfC "is_fact" (defScope s_is_fact) s.heap.objs.size f cdv)).units + 70 < cLine; omega⟩
  have tk : Takes (cxOf (L2.CX P w) P w K mg base n_is_fact "is_fact" (defScope s_is_fact) f cdv A outer s H E) (fun cls d _ H2 => E cls d H2) := takes_of rfl rfl rfl rfl
  refine sz_cons ?_ ?_
  · exact (ss_if (Sw.sb (sw_or (sb_not (sb_val (sx_isTup L.b_isinstance L.b_tuple (sx_slot 1)))) (sw_or (sb_not (sb_val (sx_slot 1))) (sw_or1 (sb_not (sb_val (sx_isStr L.b_isinstance L.b_str (sx_ix hx (sx_slot 1) sx_int))))))))
  (sz_cons (ss_ret sx_bool)
  sz_nil)
  sz_nil)
  refine sz_cons ?_ ?_
  · exact (ss_if (Sw.sb (sw_or (sb_ne hx (sx_len L.b_len (sx_slot 1)) (sx_gkget L.g_SIZES (sx_ix hx (sx_slot 1) sx_int) sx_int ⟨rfl, rfl, rfl, rfl⟩)) (sw_or1 (sb_not (sb_val (sx_call L.f_is_booking hr tk (sa_cons (sx_slot 0) (sa_cons (sx_ix hx (sx_slot 1) sx_int) sa_nil)) (Nat.le_refl _)))))))
  (sz_cons (ss_ret sx_bool)
  sz_nil)
  sz_nil)
  refine sz_cons ?_ ?_
  · exact (ss_if (sb_eq hx (sx_ix hx (sx_slot 1) sx_int) sx_str)
  (sz_cons (ss_ret sx_bool)
  sz_nil)
  sz_nil)
  refine sz_cons ?_ ?_
  · exact (ss_if (Sw.sb (sw_or (sb_not (sb_val (sx_isTup L.b_isinstance L.b_tuple (sx_ix hx (sx_slot 1) sx_int)))) (sw_or (sb_ne hx (sx_len L.b_len (sx_ix hx (sx_slot 1) sx_int)) sx_int) (sw_or1 (sb_not (sb_val (sx_call L.f_is_within hr tk (sa_cons (sx_ix hx (sx_ix hx (sx_slot 1) sx_int) sx_int) (sa_cons sx_int (sa_cons (sx_gint L.g_MOST_CLOCK) sa_nil))) (Nat.le_refl _))))))))
  (sz_cons (ss_ret sx_bool)
  sz_nil)
  sz_nil)
  refine sz_cons ?_ ?_
  · exact (ss_if (sb_not (sb_val (sx_call L.f_is_within hr tk (sa_cons (sx_ix hx (sx_ix hx (sx_slot 1) sx_int) sx_int) (sa_cons sx_int (sa_cons (sx_sub (sx_ix hx (sx_slot 0) sx_int) sx_int) sa_nil))) (Nat.le_refl _))))
  (sz_cons (ss_ret sx_bool)
  sz_nil)
  sz_nil)
  refine sz_cons ?_ ?_
  · exact (ss_if (sb_eq hx (sx_ix hx (sx_slot 1) sx_int) sx_str)
  (sz_cons (ss_ret (sx_and (sx_call L.f_is_wish hr tk (sa_cons (sx_slot 0) (sa_cons (sx_ix hx (sx_slot 1) sx_int) sa_nil)) (Nat.le_refl _)) (sx_one (sx_eq hx (sx_ix hx (sx_ix hx (sx_slot 1) sx_int) sx_int) (sx_ix hx (sx_ix hx (sx_slot 1) sx_int) sx_int)))))
  sz_nil)
  sz_nil)
  refine sz_cons ?_ ?_
  · exact (ss_if (Sw.sb (sw_or (sb_not (sb_val (sx_isTup L.b_isinstance L.b_tuple (sx_ix hx (sx_slot 1) sx_int)))) (sw_or1 (sb_ne hx (sx_len L.b_len (sx_ix hx (sx_slot 1) sx_int)) sx_int))))
  (sz_cons (ss_ret sx_bool)
  sz_nil)
  sz_nil)
  refine sz_cons ?_ ?_
  · exact (ss_ret (sx_call L.f_is_place hr tk (sa_cons (sx_slot 0) (sa_cons sx_int (sa_cons (sx_ix hx (sx_ix hx (sx_slot 1) sx_int) sx_int) (sa_cons (sx_ix hx (sx_ix hx (sx_slot 1) sx_int) sx_int) sa_nil)))) (Nat.le_refl _)))
  exact sz_nil
theorem w_look_facts {P : Program} {w : World} {K : PySem.W.Frag} {mg : Str → Option Value} {base : Heap} {C : Addr} {T : Tab} {j : Nat} (L : Lb P w K mg base C T j) {f : Addr} (cdv : Value) (A : Around) (outer : List Env) (s : Shared) (H : Hp) (E : XK) (hr : Room j (A.deeper (envOfC "look_facts" (defScope s_look_facts) s.heap.objs.size f cdv))) :
    Sz (cxOf (L2.CX P w) P w K mg base n_look_facts "look_facts" (defScope s_look_facts) f cdv A outer s H E) C (fun cls d _ H2 => E cls d H2) T (defBody s_look_facts) c_look_facts.body := by
  have hx : Hx (cxOf (L2.CX P w) P w K mg base n_look_facts "look_facts" (defScope s_look_facts) f cdv A outer s H E) := ⟨sc_look_facts.nd, by have := hr.un; show (A.deeper (envOfC "look_facts" (defScope s_look_facts) s.heap.objs.size f cdv)).units + 70 < cLine; omega⟩
  have tk : Takes (cxOf (L2.CX P w) P w K mg base n_look_facts "look_facts" (defScope s_look_facts) f cdv A outer s H E) (fun cls d _ H2 => E cls d H2) := takes_of rfl rfl rfl rfl
  refine sz_cons ?_ ?_
  · exact (ss_if (Sw.sb (sw_or (sb_not (sb_val (sx_isTup L.b_isinstance L.b_tuple (sx_slot 1)))) (sw_or1 (sb_val (sx_lc [("one", 2)] rfl sc_look_facts.nd (si_seq (sx_slot 1)) (blkOk_by (N := n_look_facts) (sc := defScope s_look_facts) (by decide +kernel)) (fun _ _ _ _ _ => (sg_one 2 sc_look_facts.nd)) (fun _ _ _ _ _ => sts_one (sb_not (sb_val (sx_call L.f_is_fact hr takes0 (sa_cons (sx_slot 0) (sa_cons (sx_slot 2) sa_nil)) (Nat.le_refl _))))) (fun _ _ _ _ _ => (sx_slot 2)) (by decide))))))
  (sz_cons (ss_raiseE L.e_BadFacts tk)
  sz_nil)
  sz_nil)
  exact sz_nil
theorem w_wishes_in {P : Program} {w : World} {K : PySem.W.Frag} {mg : Str → Option Value} {base : Heap} {C : Addr} {T : Tab} {j : Nat} (L : Lb P w K mg base C T j) {f : Addr} (cdv : Value) (A : Around) (outer : List Env) (s : Shared) (H : Hp) (E : XK) (hr : Room j (A.deeper (envOfC "wishes_in" (defScope s_wishes_in) s.heap.objs.size f cdv))) :
    Sz (cxOf (L2.CX P w) P w K mg base n_wishes_in "wishes_in" (defScope s_wishes_in) f cdv A outer s H E) C (fun cls d _ H2 => E cls d H2) T (defBody s_wishes_in) c_wishes_in.body := by
  have hx : Hx (cxOf (L2.CX P w) P w K mg base n_wishes_in "wishes_in" (defScope s_wishes_in) f cdv A outer s H E) := ⟨sc_wishes_in.nd, by have := hr.un; show (A.deeper (envOfC "wishes_in" (defScope s_wishes_in) s.heap.objs.size f cdv)).units + 70 < cLine; omega⟩
  have tk : Takes (cxOf (L2.CX P w) P w K mg base n_wishes_in "wishes_in" (defScope s_wishes_in) f cdv A outer s H E) (fun cls d _ H2 => E cls d H2) := takes_of rfl rfl rfl rfl
  refine sz_cons ?_ ?_
  · exact (ss_set 1 (sx_lc [("fact", 2)] rfl sc_wishes_in.nd (si_seq (sx_slot 0)) (blkOk_by (N := n_wishes_in) (sc := defScope s_wishes_in) (by decide +kernel)) (fun _ _ _ _ _ => (sg_one 2 sc_wishes_in.nd)) (fun _ _ _ _ _ => sts_one (sb_eq ⟨hx.nd, hx.hu⟩ (sx_ix ⟨hx.nd, hx.hu⟩ (sx_slot 2) sx_int) sx_str)) (fun _ _ _ _ _ => (sx_ix ⟨hx.nd, hx.hu⟩ (sx_slot 2) sx_int)) (by decide)) sc_wishes_in.nd)
  refine sz_cons ?_ ?_
  · exact (ss_ret (sx_dict1 hx L.b_dict (sx_lc [("fact", 2)] rfl sc_wishes_in.nd (si_seq (sx_slot 0)) (blkOk_by (N := n_wishes_in) (sc := defScope s_wishes_in) (by decide +kernel)) (fun _ _ _ _ _ => (sg_one 2 sc_wishes_in.nd)) (fun _ _ _ _ _ => sts_one (Sw.sb (sw_and (sb_eq ⟨hx.nd, hx.hu⟩ (sx_ix ⟨hx.nd, hx.hu⟩ (sx_slot 2) sx_int) sx_str) (sw_and1 (sb_nin ⟨hx.nd, hx.hu⟩ (sx_ix ⟨hx.nd, hx.hu⟩ (sx_slot 2) sx_int) (sx_slot 1)))))) (fun _ _ _ _ _ => (sx_tup (sa_cons (sx_ix ⟨hx.nd, hx.hu⟩ (sx_slot 2) sx_int) (sa_cons (sx_tup (sa_cons (sx_ix ⟨hx.nd, hx.hu⟩ (sx_slot 2) sx_int) (sa_cons (sx_ix ⟨hx.nd, hx.hu⟩ (sx_slot 2) sx_int) sa_nil))) sa_nil)))) (by decide))))
  exact sz_nil
theorem w_Copy_init {P : Program} {w : World} {K : PySem.W.Frag} {mg : Str → Option Value} {base : Heap} {C : Addr} {T : Tab} {j : Nat} (L : Lb P w K mg base C T j) {f : Addr} (cdv : Value) (A : Around) (outer : List Env) (s : Shared) (H : Hp) (E : XK) (hr : Room j (A.deeper (envOfC "Copy.__init__" (defScope s_Copy_init) s.heap.objs.size f cdv))) :
    Sz (cxOf (L2.CX P w) P w K mg base n_Copy_init "Copy.__init__" (defScope s_Copy_init) f cdv A outer s H E) C (fun cls d _ H2 => E cls d H2) T (defBody s_Copy_init) c_Copy_init.body := by
  have hx : Hx (cxOf (L2.CX P w) P w K mg base n_Copy_init "Copy.__init__" (defScope s_Copy_init) f cdv A outer s H E) := ⟨sc_Copy_init.nd, by have := hr.un; show (A.deeper (envOfC "Copy.__init__" (defScope s_Copy_init) s.heap.objs.size f cdv)).units + 70 < cLine; omega⟩
  have tk : Takes (cxOf (L2.CX P w) P w K mg base n_Copy_init "Copy.__init__" (defScope s_Copy_init) f cdv A outer s H E) (fun cls d _ H2 => E cls d H2) := takes_of rfl rfl rfl rfl
  refine sz_cons ?_ ?_
  · exact (ss_ex (sx_call L.f_look_world hr tk (sa_cons (sx_slot 1) sa_nil) (Nat.le_refl _)) (hs := sw_Call))
  refine sz_cons ?_ ?_
  · exact (ss_if (sb_not (sb_val (sx_call L.f_is_within hr tk (sa_cons (sx_slot 2) (sa_cons sx_int (sa_cons (sx_sub (sx_ix hx (sx_slot 1) sx_int) sx_int) sa_nil))) (Nat.le_refl _))))
  (sz_cons (ss_raiseE L.e_BadCopy tk)
  sz_nil)
  sz_nil)
  refine sz_cons ?_ ?_
  · exact (ss_sat L.cl L.at_world (sx_slot 1) (sx_slot 0) (hs := sw_Name))
  refine sz_cons ?_ ?_
  · exact (ss_sat L.cl L.at_mine (sx_slot 2) (sx_slot 0) (hs := sw_Name))
  refine sz_cons ?_ ?_
  · exact (ss_sat L.cl L.at_facts (sx_list sa_nil) (sx_slot 0) (hs := sw_List))
  refine sz_cons ?_ ?_
  · exact (ss_sat L.cl L.at_clock sx_int (sx_slot 0) (hs := sw_Constant))
  refine sz_cons ?_ ?_
  · exact (ss_sat L.cl L.at_own sx_int (sx_slot 0) (hs := sw_Constant))
  refine sz_cons ?_ ?_
  · exact (ss_sat L.cl L.at_seen sx_dnil (sx_slot 0) (hs := sw_Dict))
  exact sz_nil
theorem w_Copy_put {P : Program} {w : World} {K : PySem.W.Frag} {mg : Str → Option Value} {base : Heap} {C : Addr} {T : Tab} {j : Nat} (L : Lb P w K mg base C T j) {f : Addr} (cdv : Value) (A : Around) (outer : List Env) (s : Shared) (H : Hp) (E : XK) (hr : Room j (A.deeper (envOfC "Copy.put" (defScope s_Copy_put) s.heap.objs.size f cdv))) :
    Sz (cxOf (L2.CX P w) P w K mg base n_Copy_put "Copy.put" (defScope s_Copy_put) f cdv A outer s H E) C (fun cls d _ H2 => E cls d H2) T (defBody s_Copy_put) c_Copy_put.body := by
  have hx : Hx (cxOf (L2.CX P w) P w K mg base n_Copy_put "Copy.put" (defScope s_Copy_put) f cdv A outer s H E) := ⟨sc_Copy_put.nd, by have := hr.un; show (A.deeper (envOfC "Copy.put" (defScope s_Copy_put) s.heap.objs.size f cdv)).units + 70 < cLine; omega⟩
  have tk : Takes (cxOf (L2.CX P w) P w K mg base n_Copy_put "Copy.put" (defScope s_Copy_put) f cdv A outer s H E) (fun cls d _ H2 => E cls d H2) := takes_of rfl rfl rfl rfl
  refine sz_cons ?_ ?_
  · exact (ss_if (sb_nin hx (sx_slot 1) (sx_attr L.cl L.at_facts (sx_slot 0)))
  (sz_cons (ss_app (sx_attr L.cl L.at_facts (sx_slot 0)) (sx_slot 1))
  sz_nil)
  sz_nil)
  exact sz_nil
theorem w_Copy_tick {P : Program} {w : World} {K : PySem.W.Frag} {mg : Str → Option Value} {base : Heap} {C : Addr} {T : Tab} {j : Nat} (L : Lb P w K mg base C T j) {f : Addr} (cdv : Value) (A : Around) (outer : List Env) (s : Shared) (H : Hp) (E : XK) (hr : Room j (A.deeper (envOfC "Copy.tick" (defScope s_Copy_tick) s.heap.objs.size f cdv))) :
    Sz (cxOf (L2.CX P w) P w K mg base n_Copy_tick "Copy.tick" (defScope s_Copy_tick) f cdv A outer s H E) C (fun cls d _ H2 => E cls d H2) T (defBody s_Copy_tick) c_Copy_tick.body := by
  have hx : Hx (cxOf (L2.CX P w) P w K mg base n_Copy_tick "Copy.tick" (defScope s_Copy_tick) f cdv A outer s H E) := ⟨sc_Copy_tick.nd, by have := hr.un; show (A.deeper (envOfC "Copy.tick" (defScope s_Copy_tick) s.heap.objs.size f cdv)).units + 70 < cLine; omega⟩
  have tk : Takes (cxOf (L2.CX P w) P w K mg base n_Copy_tick "Copy.tick" (defScope s_Copy_tick) f cdv A outer s H E) (fun cls d _ H2 => E cls d H2) := takes_of rfl rfl rfl rfl
  refine sz_cons ?_ ?_
  · exact (ss_aat L.cl L.at_clock (sx_slot 0) sx_int)
  refine sz_cons ?_ ?_
  · exact (ss_ret (sx_tup (sa_cons (sx_attr L.cl L.at_clock (sx_slot 0)) (sa_cons (sx_attr L.cl L.at_mine (sx_slot 0)) sa_nil))))
  exact sz_nil
theorem w_Copy_look_known {P : Program} {w : World} {K : PySem.W.Frag} {mg : Str → Option Value} {base : Heap} {C : Addr} {T : Tab} {j : Nat} (L : Lb P w K mg base C T j) {f : Addr} (cdv : Value) (A : Around) (outer : List Env) (s : Shared) (H : Hp) (E : XK) (hr : Room j (A.deeper (envOfC "Copy.look_known" (defScope s_Copy_look_known) s.heap.objs.size f cdv))) :
    Sz (cxOf (L2.CX P w) P w K mg base n_Copy_look_known "Copy.look_known" (defScope s_Copy_look_known) f cdv A outer s H E) C (fun cls d _ H2 => E cls d H2) T (defBody s_Copy_look_known) c_Copy_look_known.body := by
  have hx : Hx (cxOf (L2.CX P w) P w K mg base n_Copy_look_known "Copy.look_known" (defScope s_Copy_look_known) f cdv A outer s H E) := ⟨sc_Copy_look_known.nd, by have := hr.un; show (A.deeper (envOfC "Copy.look_known" (defScope s_Copy_look_known) s.heap.objs.size f cdv)).units + 70 < cLine; omega⟩
  have tk : Takes (cxOf (L2.CX P w) P w K mg base n_Copy_look_known "Copy.look_known" (defScope s_Copy_look_known) f cdv A outer s H E) (fun cls d _ H2 => E cls d H2) := takes_of rfl rfl rfl rfl
  refine sz_cons ?_ ?_
  · exact (ss_if (Sw.sb (sw_or (sb_not (sb_val (sx_call L.f_is_booking hr tk (sa_cons (sx_attr L.cl L.at_world (sx_slot 0)) (sa_cons (sx_slot 1) sa_nil)) (Nat.le_refl _)))) (sw_or1 (sb_nin hx (sx_slot 1) (sx_call L.f_wishes_in hr tk (sa_cons (sx_attr L.cl L.at_facts (sx_slot 0)) sa_nil) (Nat.le_refl _))))))
  (sz_cons (ss_raiseE L.e_NoBooking tk)
  sz_nil)
  sz_nil)
  exact sz_nil
theorem w_Copy_wish {P : Program} {w : World} {K : PySem.W.Frag} {mg : Str → Option Value} {base : Heap} {C : Addr} {T : Tab} {j : Nat} (L : Lb P w K mg base C T j) {f : Addr} (cdv : Value) (A : Around) (outer : List Env) (s : Shared) (H : Hp) (E : XK) (hr : Room j (A.deeper (envOfC "Copy.wish" (defScope s_Copy_wish) s.heap.objs.size f cdv))) :
    Sz (cxOf (L2.CX P w) P w K mg base n_Copy_wish "Copy.wish" (defScope s_Copy_wish) f cdv A outer s H E) C (fun cls d _ H2 => E cls d H2) T (defBody s_Copy_wish) c_Copy_wish.body := by
  have hx : Hx (cxOf (L2.CX P w) P w K mg base n_Copy_wish "Copy.wish" (defScope s_Copy_wish) f cdv A outer s H E) := ⟨sc_Copy_wish.nd, by have := hr.un; show (A.deeper (envOfC "Copy.wish" (defScope s_Copy_wish) s.heap.objs.size f cdv)).units + 70 < cLine; omega⟩
  have tk : Takes (cxOf (L2.CX P w) P w K mg base n_Copy_wish "Copy.wish" (defScope s_Copy_wish) f cdv A outer s H E) (fun cls d _ H2 => E cls d H2) := takes_of rfl rfl rfl rfl
  refine sz_cons ?_ ?_
  · exact (ss_ex (sx_call L.f_look_wish hr tk (sa_cons (sx_attr L.cl L.at_world (sx_slot 0)) (sa_cons (sx_slot 1) sa_nil)) (Nat.le_refl _)) (hs := sw_Call))
  refine sz_cons ?_ ?_
  · exact (ss_if (sb_eq hx (sx_attr L.cl L.at_own (sx_slot 0)) (sx_gint L.g_MOST_WISHES))
  (sz_cons (ss_raiseE L.e_Full tk)
  sz_nil)
  sz_nil)
  refine sz_cons ?_ ?_
  · exact (ss_set 2 (sx_tup (sa_cons (sx_attr L.cl L.at_mine (sx_slot 0)) (sa_cons (sx_attr L.cl L.at_own (sx_slot 0)) sa_nil))) sc_Copy_wish.nd (hs := sw_Tuple))
  refine sz_cons ?_ ?_
  · exact (ss_aat L.cl L.at_own (sx_slot 0) sx_int)
  refine sz_cons ?_ ?_
  · exact (ss_ex (sx_meth L.m_put L.cl hr tk (sx_slot 0) (sa_cons (sx_tup (sa_cons sx_str (sa_cons (sx_slot 2) (sa_cons (sx_meth0 L.m_tick L.cl hr tk (sx_slot 0) (Nat.le_refl _)) (sa_cons (sx_slot 1) sa_nil))))) sa_nil) (Nat.le_refl _)) (hs := sw_Call))
  refine sz_cons ?_ ?_
  · exact (ss_ret (sx_slot 2))
  exact sz_nil
theorem w_Copy_off {P : Program} {w : World} {K : PySem.W.Frag} {mg : Str → Option Value} {base : Heap} {C : Addr} {T : Tab} {j : Nat} (L : Lb P w K mg base C T j) {f : Addr} (cdv : Value) (A : Around) (outer : List Env) (s : Shared) (H : Hp) (E : XK) (hr : Room j (A.deeper (envOfC "Copy.off" (defScope s_Copy_off) s.heap.objs.size f cdv))) :
    Sz (cxOf (L2.CX P w) P w K mg base n_Copy_off "Copy.off" (defScope s_Copy_off) f cdv A outer s H E) C (fun cls d _ H2 => E cls d H2) T (defBody s_Copy_off) c_Copy_off.body := by
  have hx : Hx (cxOf (L2.CX P w) P w K mg base n_Copy_off "Copy.off" (defScope s_Copy_off) f cdv A outer s H E) := ⟨sc_Copy_off.nd, by have := hr.un; show (A.deeper (envOfC "Copy.off" (defScope s_Copy_off) s.heap.objs.size f cdv)).units + 70 < cLine; omega⟩
  have tk : Takes (cxOf (L2.CX P w) P w K mg base n_Copy_off "Copy.off" (defScope s_Copy_off) f cdv A outer s H E) (fun cls d _ H2 => E cls d H2) := takes_of rfl rfl rfl rfl
  refine sz_cons ?_ ?_
  · exact (ss_ex (sx_meth L.m_look_known L.cl hr tk (sx_slot 0) (sa_cons (sx_slot 1) sa_nil) (Nat.le_refl _)) (hs := sw_Call))
  refine sz_cons ?_ ?_
  · exact (ss_ex (sx_meth L.m_put L.cl hr tk (sx_slot 0) (sa_cons (sx_tup (sa_cons sx_str (sa_cons (sx_slot 1) sa_nil))) sa_nil) (Nat.le_refl _)) (hs := sw_Call))
  exact sz_nil
theorem w_Copy_told {P : Program} {w : World} {K : PySem.W.Frag} {mg : Str → Option Value} {base : Heap} {C : Addr} {T : Tab} {j : Nat} (L : Lb P w K mg base C T j) {f : Addr} (cdv : Value) (A : Around) (outer : List Env) (s : Shared) (H : Hp) (E : XK) (hr : Room j (A.deeper (envOfC "Copy.told" (defScope s_Copy_told) s.heap.objs.size f cdv))) :
    Sz (cxOf (L2.CX P w) P w K mg base n_Copy_told "Copy.told" (defScope s_Copy_told) f cdv A outer s H E) C (fun cls d _ H2 => E cls d H2) T (defBody s_Copy_told) c_Copy_told.body := by
  have hx : Hx (cxOf (L2.CX P w) P w K mg base n_Copy_told "Copy.told" (defScope s_Copy_told) f cdv A outer s H E) := ⟨sc_Copy_told.nd, by have := hr.un; show (A.deeper (envOfC "Copy.told" (defScope s_Copy_told) s.heap.objs.size f cdv)).units + 70 < cLine; omega⟩
  have tk : Takes (cxOf (L2.CX P w) P w K mg base n_Copy_told "Copy.told" (defScope s_Copy_told) f cdv A outer s H E) (fun cls d _ H2 => E cls d H2) := takes_of rfl rfl rfl rfl
  refine sz_cons ?_ ?_
  · exact (ss_ret (sx_tuple1 L.b_tuple (sx_sorted hx L.b_sorted (sx_attr L.cl L.at_facts (sx_slot 0)))))
  exact sz_nil
theorem w_Copy_heard {P : Program} {w : World} {K : PySem.W.Frag} {mg : Str → Option Value} {base : Heap} {C : Addr} {T : Tab} {j : Nat} (L : Lb P w K mg base C T j) {f : Addr} (cdv : Value) (A : Around) (outer : List Env) (s : Shared) (H : Hp) (E : XK) (hr : Room j (A.deeper (envOfC "Copy.heard" (defScope s_Copy_heard) s.heap.objs.size f cdv))) :
    Sz (cxOf (L2.CX P w) P w K mg base n_Copy_heard "Copy.heard" (defScope s_Copy_heard) f cdv A outer s H E) C (fun cls d _ H2 => E cls d H2) T (defBody s_Copy_heard) c_Copy_heard.body := by
  have hx : Hx (cxOf (L2.CX P w) P w K mg base n_Copy_heard "Copy.heard" (defScope s_Copy_heard) f cdv A outer s H E) := ⟨sc_Copy_heard.nd, by have := hr.un; show (A.deeper (envOfC "Copy.heard" (defScope s_Copy_heard) s.heap.objs.size f cdv)).units + 70 < cLine; omega⟩
  have tk : Takes (cxOf (L2.CX P w) P w K mg base n_Copy_heard "Copy.heard" (defScope s_Copy_heard) f cdv A outer s H E) (fun cls d _ H2 => E cls d H2) := takes_of rfl rfl rfl rfl
  refine sz_cons ?_ ?_
  · exact (ss_ex (sx_call L.f_look_facts hr tk (sa_cons (sx_attr L.cl L.at_world (sx_slot 0)) (sa_cons (sx_slot 1) sa_nil)) (Nat.le_refl _)) (hs := sw_Call))
  refine sz_cons ?_ ?_
  · exact (ss_set 2 (sx_len L.b_len (sx_attr L.cl L.at_facts (sx_slot 0))) sc_Copy_heard.nd (hs := sw_Call))
  refine sz_cons ?_ ?_
  · exact (ss_for (passes_of rfl) rfl (si_seq (sx_slot 1)) (sg_one 3 sc_Copy_heard.nd)
  (sz_cons (ss_ex (sx_meth L.m_put L.cl hr tk (sx_slot 0) (sa_cons (sx_slot 3) sa_nil) (Nat.le_refl _)) (hs := sw_Call))
  (sz_cons (ss_if (sb_ne hx (sx_ix hx (sx_slot 3) sx_int) sx_str)
  (sz_cons (ss_sat L.cl L.at_clock (sx_max2 hx L.b_max (sx_attr L.cl L.at_clock (sx_slot 0)) (sx_ix hx (sx_ix hx (sx_slot 3) sx_int) sx_int)) (sx_slot 0) (hs := sw_Call))
  sz_nil)
  sz_nil)
  sz_nil)))
  refine sz_cons ?_ ?_
  · exact (ss_ret (sx_sub (sx_len L.b_len (sx_attr L.cl L.at_facts (sx_slot 0))) (sx_slot 2)))
  exact sz_nil
theorem w_at_rest {P : Program} {w : World} {K : PySem.W.Frag} {mg : Str → Option Value} {base : Heap} {C : Addr} {T : Tab} {j : Nat} (L : Lb P w K mg base C T j) {f : Addr} (cdv : Value) (A : Around) (outer : List Env) (s : Shared) (H : Hp) (E : XK) (hr : Room j (A.deeper (envOfC "at_rest" (defScope s_at_rest) s.heap.objs.size f cdv))) :
    Sz (cxOf (L2.CX P w) P w K mg base n_at_rest "at_rest" (defScope s_at_rest) f cdv A outer s H E) C (fun cls d _ H2 => E cls d H2) T (defBody s_at_rest) c_at_rest.body := by
  have hx : Hx (cxOf (L2.CX P w) P w K mg base n_at_rest "at_rest" (defScope s_at_rest) f cdv A outer s H E) := ⟨sc_at_rest.nd, by have := hr.un; show (A.deeper (envOfC "at_rest" (defScope s_at_rest) s.heap.objs.size f cdv)).units + 70 < cLine; omega⟩
  have tk : Takes (cxOf (L2.CX P w) P w K mg base n_at_rest "at_rest" (defScope s_at_rest) f cdv A outer s H E) (fun cls d _ H2 => E cls d H2) := takes_of rfl rfl rfl rfl
  refine sz_cons ?_ ?_
  · exact (ss_ret (sx_not (sx_lc [("copy", 1)] rfl sc_at_rest.nd (si_seq (sx_slot 0)) (blkOk_by (N := n_at_rest) (sc := defScope s_at_rest) (by decide +kernel)) (fun _ _ _ _ _ => (sg_one 1 sc_at_rest.nd)) (fun _ _ _ _ _ => sts_one (sb_ne ⟨hx.nd, hx.hu⟩ (sx_meth0 L.m_told L.cl hr takes0 (sx_slot 1) (Nat.le_refl _)) (sx_meth0 L.m_told L.cl hr takes0 (sx_ix ⟨hx.nd, hx.hu⟩ (sx_slot 0) sx_int) (Nat.le_refl _)))) (fun _ _ _ _ _ => (sx_slot 1)) (by decide))))
  exact sz_nil
theorem w_law_cell {P : Program} {w : World} {K : PySem.W.Frag} {mg : Str → Option Value} {base : Heap} {C : Addr} {T : Tab} {j : Nat} (L : Lb P w K mg base C T j) {f : Addr} (cdv : Value) (A : Around) (outer : List Env) (s : Shared) (H : Hp) (E : XK) (hr : Room j (A.deeper (envOfC "_law_cell" (defScope s_law_cell) s.heap.objs.size f cdv))) :
    Sz (cxOf (L2.CX P w) P w K mg base n_law_cell "_law_cell" (defScope s_law_cell) f cdv A outer s H E) C (fun cls d _ H2 => E cls d H2) T (defBody s_law_cell) c_law_cell.body := by
  have hx : Hx (cxOf (L2.CX P w) P w K mg base n_law_cell "_law_cell" (defScope s_law_cell) f cdv A outer s H E) := ⟨sc_law_cell.nd, by have := hr.un; show (A.deeper (envOfC "_law_cell" (defScope s_law_cell) s.heap.objs.size f cdv)).units + 70 < cLine; omega⟩
  have tk : Takes (cxOf (L2.CX P w) P w K mg base n_law_cell "_law_cell" (defScope s_law_cell) f cdv A outer s H E) (fun cls d _ H2 => E cls d H2) := takes_of rfl rfl rfl rfl
  refine sz_cons ?_ ?_
  · exact (ss_if (sb_lt hx (sx_slot 1) (sx_len L.b_len (sx_slot 0)))
  (sz_cons (ss_ret (sx_ix hx (sx_slot 0) (sx_slot 1)))
  sz_nil)
  sz_nil)
  refine sz_cons ?_ ?_
  · exact (ss_ret sx_int)
  exact sz_nil
theorem w_law_mix {P : Program} {w : World} {K : PySem.W.Frag} {mg : Str → Option Value} {base : Heap} {C : Addr} {T : Tab} {j : Nat} (L : Lb P w K mg base C T j) {f : Addr} (cdv : Value) (A : Around) (outer : List Env) (s : Shared) (H : Hp) (E : XK) (hr : Room j (A.deeper (envOfC "_law_mix" (defScope s_law_mix) s.heap.objs.size f cdv))) :
    Sz (cxOf (L2.CX P w) P w K mg base n_law_mix "_law_mix" (defScope s_law_mix) f cdv A outer s H E) C (fun cls d _ H2 => E cls d H2) T (defBody s_law_mix) c_law_mix.body := by
  have hx : Hx (cxOf (L2.CX P w) P w K mg base n_law_mix "_law_mix" (defScope s_law_mix) f cdv A outer s H E) := ⟨sc_law_mix.nd, by have := hr.un; show (A.deeper (envOfC "_law_mix" (defScope s_law_mix) s.heap.objs.size f cdv)).units + 70 < cLine; omega⟩
  have tk : Takes (cxOf (L2.CX P w) P w K mg base n_law_mix "_law_mix" (defScope s_law_mix) f cdv A outer s H E) (fun cls d _ H2 => E cls d H2) := takes_of rfl rfl rfl rfl
  refine sz_cons ?_ ?_
  · exact (ss_ret (sx_mod (sx_mod (sx_pow (sx_mod (sx_mul (sx_slot 0) sx_int) (sx_slot 1)) sx_int) (sx_slot 1)) (sx_slot 2)))
  exact sz_nil
theorem w_law_seed {P : Program} {w : World} {K : PySem.W.Frag} {mg : Str → Option Value} {base : Heap} {C : Addr} {T : Tab} {j : Nat} (L : Lb P w K mg base C T j) {f : Addr} (cdv : Value) (A : Around) (outer : List Env) (s : Shared) (H : Hp) (E : XK) (hr : Room j (A.deeper (envOfC "_law_seed" (defScope s_law_seed) s.heap.objs.size f cdv))) :
    Sz (cxOf (L2.CX P w) P w K mg base n_law_seed "_law_seed" (defScope s_law_seed) f cdv A outer s H E) C (fun cls d _ H2 => E cls d H2) T (defBody s_law_seed) c_law_seed.body := by
  have hx : Hx (cxOf (L2.CX P w) P w K mg base n_law_seed "_law_seed" (defScope s_law_seed) f cdv A outer s H E) := ⟨sc_law_seed.nd, by have := hr.un; show (A.deeper (envOfC "_law_seed" (defScope s_law_seed) s.heap.objs.size f cdv)).units + 70 < cLine; omega⟩
  have tk : Takes (cxOf (L2.CX P w) P w K mg base n_law_seed "_law_seed" (defScope s_law_seed) f cdv A outer s H E) (fun cls d _ H2 => E cls d H2) := takes_of rfl rfl rfl rfl
  refine sz_cons ?_ ?_
  · exact (ss_ret (sx_mod (sx_pow (sx_mod (sx_add (sx_add (sx_mul (sx_slot 0) sx_int) (sx_mul sx_int (sx_slot 1))) sx_int) sx_int) sx_int) sx_int))
  exact sz_nil
theorem w_law_pick {P : Program} {w : World} {K : PySem.W.Frag} {mg : Str → Option Value} {base : Heap} {C : Addr} {T : Tab} {j : Nat} (L : Lb P w K mg base C T j) {f : Addr} (cdv : Value) (A : Around) (outer : List Env) (s : Shared) (H : Hp) (E : XK) (hr : Room j (A.deeper (envOfC "_law_pick" (defScope s_law_pick) s.heap.objs.size f cdv))) :
    Sz (cxOf (L2.CX P w) P w K mg base n_law_pick "_law_pick" (defScope s_law_pick) f cdv A outer s H E) C (fun cls d _ H2 => E cls d H2) T (defBody s_law_pick) c_law_pick.body := by
  have hx : Hx (cxOf (L2.CX P w) P w K mg base n_law_pick "_law_pick" (defScope s_law_pick) f cdv A outer s H E) := ⟨sc_law_pick.nd, by have := hr.un; show (A.deeper (envOfC "_law_pick" (defScope s_law_pick) s.heap.objs.size f cdv)).units + 70 < cLine; omega⟩
  have tk : Takes (cxOf (L2.CX P w) P w K mg base n_law_pick "_law_pick" (defScope s_law_pick) f cdv A outer s H E) (fun cls d _ H2 => E cls d H2) := takes_of rfl rfl rfl rfl
  refine sz_cons ?_ ?_
  · exact (ss_ret (sx_mod (sx_fdiv (sx_slot 0) sx_int) (sx_slot 1)))
  exact sz_nil
theorem w_law_world {P : Program} {w : World} {K : PySem.W.Frag} {mg : Str → Option Value} {base : Heap} {C : Addr} {T : Tab} {j : Nat} (L : Lb P w K mg base C T j) {f : Addr} (cdv : Value) (A : Around) (outer : List Env) (s : Shared) (H : Hp) (E : XK) (hr : Room j (A.deeper (envOfC "_law_world" (defScope s_law_world) s.heap.objs.size f cdv))) :
    Sz (cxOf (L2.CX P w) P w K mg base n_law_world "_law_world" (defScope s_law_world) f cdv A outer s H E) C (fun cls d _ H2 => E cls d H2) T (defBody s_law_world) c_law_world.body := by
  have hx : Hx (cxOf (L2.CX P w) P w K mg base n_law_world "_law_world" (defScope s_law_world) f cdv A outer s H E) := ⟨sc_law_world.nd, by have := hr.un; show (A.deeper (envOfC "_law_world" (defScope s_law_world) s.heap.objs.size f cdv)).units + 70 < cLine; omega⟩
  have tk : Takes (cxOf (L2.CX P w) P w K mg base n_law_world "_law_world" (defScope s_law_world) f cdv A outer s H E) (fun cls d _ H2 => E cls d H2) := takes_of rfl rfl rfl rfl
  refine sz_cons ?_ ?_
  · exact (ss_set 0 (sx_call L.f_law_seed hr tk (sa_cons (sx_slot 0) (sa_cons sx_int sa_nil)) (Nat.le_refl _)) sc_law_world.nd (hs := sw_Call))
  refine sz_cons ?_ ?_
  · exact (ss_set 1 (sx_list (sa_cons sx_str (sa_cons sx_str (sa_cons sx_str (sa_cons sx_str sa_nil))))) sc_law_world.nd (hs := sw_List))
  refine sz_cons ?_ ?_
  · exact (ss_set 2 (sx_list sa_nil) sc_law_world.nd (hs := sw_List))
  refine sz_cons ?_ ?_
  · exact (ss_for (passes_of rfl) rfl (si_rng1 L.b_range (sx_mod (sx_fdiv (sx_slot 0) sx_int) sx_int)) (sg_one 3 sc_law_world.nd)
  (sz_cons (ss_set 4 (sx_ix hx (sx_slot 1) (sx_call L.f_law_pick hr tk (sa_cons (sx_call L.f_law_seed hr tk (sa_cons (sx_slot 0) (sa_cons (sx_slot 3) sa_nil)) (Nat.le_refl _)) (sa_cons sx_int sa_nil)) (Nat.le_refl _))) sc_law_world.nd (hs := sw_Subscript))
  (sz_cons (ss_set 2 (sx_add (sx_slot 2) (sx_rep (sa_cons (sx_slot 4) sa_nil) (sx_int1 L.b_int (sx_nin hx (sx_slot 4) (sx_slot 2))))) sc_law_world.nd (hs := sw_BinOp))
  sz_nil)))
  refine sz_cons ?_ ?_
  · exact (ss_ret (sx_tup (sa_cons (sx_add sx_int (sx_mod (sx_fdiv (sx_slot 0) sx_int) sx_int)) (sa_cons (sx_add sx_int (sx_mod (sx_fdiv (sx_slot 0) sx_int) sx_int)) (sa_cons (sx_tuple1 L.b_tuple (sx_slot 2)) sa_nil)))))
  exact sz_nil
theorem w_law_wish {P : Program} {w : World} {K : PySem.W.Frag} {mg : Str → Option Value} {base : Heap} {C : Addr} {T : Tab} {j : Nat} (L : Lb P w K mg base C T j) {f : Addr} (cdv : Value) (A : Around) (outer : List Env) (s : Shared) (H : Hp) (E : XK) (hr : Room j (A.deeper (envOfC "_law_wish" (defScope s_law_wish) s.heap.objs.size f cdv))) :
    Sz (cxOf (L2.CX P w) P w K mg base n_law_wish "_law_wish" (defScope s_law_wish) f cdv A outer s H E) C (fun cls d _ H2 => E cls d H2) T (defBody s_law_wish) c_law_wish.body := by
  have hx : Hx (cxOf (L2.CX P w) P w K mg base n_law_wish "_law_wish" (defScope s_law_wish) f cdv A outer s H E) := ⟨sc_law_wish.nd, by have := hr.un; show (A.deeper (envOfC "_law_wish" (defScope s_law_wish) s.heap.objs.size f cdv)).units + 70 < cLine; omega⟩
  have tk : Takes (cxOf (L2.CX P w) P w K mg base n_law_wish "_law_wish" (defScope s_law_wish) f cdv A outer s H E) (fun cls d _ H2 => E cls d H2) := takes_of rfl rfl rfl rfl
  refine sz_cons ?_ ?_
  · exact (ss_set 2 sx_str sc_law_wish.nd (hs := sw_Constant))
  refine sz_cons ?_ ?_
  · exact (ss_set 3 (sx_join sx_str (sx_lc [("k", 4)] rfl sc_law_wish.nd (si_rng1 L.b_range (sx_add sx_int (sx_mod (sx_fdiv (sx_slot 1) sx_int) sx_int))) (blkOk_by (N := n_law_wish) (sc := defScope s_law_wish) (by decide +kernel)) (fun _ _ _ _ _ => (sg_one 4 sc_law_wish.nd)) (fun _ _ _ _ _ => sts_nil) (fun _ _ _ _ _ => (sx_ix ⟨hx.nd, hx.hu⟩ (sx_slot 2) (sx_call L.f_law_pick hr takes0 (sa_cons (sx_call L.f_law_seed hr takes0 (sa_cons (sx_slot 1) (sa_cons (sx_slot 4) sa_nil)) (Nat.le_refl _)) (sa_cons sx_int sa_nil)) (Nat.le_refl _)))) (by decide))) sc_law_wish.nd (hs := sw_Call))
  refine sz_cons ?_ ?_
  · exact (ss_set 5 (sx_add sx_int (sx_mod (sx_fdiv (sx_slot 1) sx_int) (sx_ix hx (sx_list (sa_cons sx_int (sa_cons sx_int sa_nil))) (sx_mod (sx_fdiv (sx_slot 1) sx_int) sx_int)))) sc_law_wish.nd (hs := sw_BinOp))
  refine sz_cons ?_ ?_
  · exact (ss_set 6 (sx_min2 L.b_min (sx_sub sx_int (sx_slot 5)) (sx_ix hx (sx_list (sa_cons (sx_add sx_int (sx_mod (sx_fdiv (sx_slot 1) sx_int) sx_int)) (sa_cons (sx_mod (sx_fdiv (sx_slot 1) sx_int) sx_int) (sa_cons sx_int sa_nil)))) (sx_fdiv (sx_call L.f_law_pick hr tk (sa_cons (sx_slot 1) (sa_cons sx_int sa_nil)) (Nat.le_refl _)) sx_int))) sc_law_wish.nd (hs := sw_Call))
  refine sz_cons ?_ ?_
  · exact (ss_ret (sx_tup (sa_cons (sx_slot 3) (sa_cons (sx_mod (sx_fdiv (sx_slot 1) sx_int) (sx_ix hx (sx_list (sa_cons (sx_ix hx (sx_slot 0) sx_int) (sa_cons sx_int sa_nil))) (sx_mod (sx_fdiv (sx_slot 1) sx_int) sx_int))) (sa_cons (sx_slot 6) (sa_cons (sx_slot 5) (sa_cons (sx_mod (sx_fdiv (sx_slot 1) sx_int) (sx_ix hx (sx_list (sa_cons sx_int (sa_cons sx_int sa_nil))) (sx_mod (sx_fdiv (sx_slot 1) sx_int) sx_int))) sa_nil)))))))
  exact sz_nil
theorem w_law_refusal {P : Program} {w : World} {K : PySem.W.Frag} {mg : Str → Option Value} {base : Heap} {C : Addr} {T : Tab} {j : Nat} (L : Lb P w K mg base C T j) {f : Addr} (cdv : Value) (A : Around) (outer : List Env) (s : Shared) (H : Hp) (E : XK) (hr : Room j (A.deeper (envOfC "_law_refusal" (defScope s_law_refusal) s.heap.objs.size f cdv))) :
    Sz (cxOf (L2.CX P w) P w K mg base n_law_refusal "_law_refusal" (defScope s_law_refusal) f cdv A outer s H E) C (fun cls d _ H2 => E cls d H2) T (defBody s_law_refusal) c_law_refusal.body := by
  have hx : Hx (cxOf (L2.CX P w) P w K mg base n_law_refusal "_law_refusal" (defScope s_law_refusal) f cdv A outer s H E) := ⟨sc_law_refusal.nd, by have := hr.un; show (A.deeper (envOfC "_law_refusal" (defScope s_law_refusal) s.heap.objs.size f cdv)).units + 70 < cLine; omega⟩
  have tk : Takes (cxOf (L2.CX P w) P w K mg base n_law_refusal "_law_refusal" (defScope s_law_refusal) f cdv A outer s H E) (fun cls d _ H2 => E cls d H2) := takes_of rfl rfl rfl rfl
  refine sz_cons ?_ ?_
  · exact (ss_set 4 sx_str sc_law_refusal.nd (hs := sw_Constant))
  refine sz_cons ?_ ?_
  · exact (ss_try tk (fun _ _ _ tk1 => (sz_cons (ss_if (sb_eq ⟨hx.nd, hx.hu⟩ (sx_slot 0) sx_int)
  (sz_cons (ss_ex (sx_makeE L.mkc hr tk1 (sa_cons (sx_slot 1) (sa_cons (sx_slot 2) sa_nil))) (hs := sw_Call))
  sz_nil)
  (sz_cons (ss_if (sb_eq ⟨hx.nd, hx.hu⟩ (sx_slot 0) sx_int)
  (sz_cons (ss_ex (sx_meth L.m_wish L.cl hr tk1 (sx_slot 2) (sa_cons (sx_slot 3) sa_nil) (Nat.le_refl _)) (hs := sw_Call))
  sz_nil)
  (sz_cons (ss_if (sb_eq ⟨hx.nd, hx.hu⟩ (sx_slot 0) sx_int)
  (sz_cons (ss_ex (sx_meth L.m_heard L.cl hr tk1 (sx_slot 2) (sa_cons (sx_slot 3) sa_nil) (Nat.le_refl _)) (hs := sw_Call))
  sz_nil)
  (sz_cons (ss_ex (sx_meth L.m_off L.cl hr tk1 (sx_slot 2) (sa_cons (sx_slot 3) sa_nil) (Nat.le_refl _)) (hs := sw_Call))
  sz_nil))
  sz_nil))
  sz_nil))
  sz_nil))
  (sh_consE L.n_BadWorld (fun _ _ => (sz_cons (ss_set 4 sx_str sc_law_refusal.nd (hs := sw_Constant))
  sz_nil))
  (sh_consE L.n_BadCopy (fun _ _ => (sz_cons (ss_set 4 sx_str sc_law_refusal.nd (hs := sw_Constant))
  sz_nil))
  (sh_consE L.n_BadWish (fun _ _ => (sz_cons (ss_set 4 sx_str sc_law_refusal.nd (hs := sw_Constant))
  sz_nil))
  (sh_consE L.n_BadFacts (fun _ _ => (sz_cons (ss_set 4 sx_str sc_law_refusal.nd (hs := sw_Constant))
  sz_nil))
  (sh_consE L.n_NoBooking (fun _ _ => (sz_cons (ss_set 4 sx_str sc_law_refusal.nd (hs := sw_Constant))
  sz_nil))
  sh_nil))))))
  refine sz_cons ?_ ?_
  · exact (ss_ret (sx_slot 4))
  exact sz_nil
theorem w_law {P : Program} {w : World} {K : PySem.W.Frag} {mg : Str → Option Value} {base : Heap} {C : Addr} {T : Tab} {j : Nat} (L : Lb P w K mg base C T j) {f : Addr} (cdv : Value) (A : Around) (outer : List Env) (s : Shared) (H : Hp) (E : XK) (hr : Room j (A.deeper (envOfC "law" (defScope s_law) s.heap.objs.size f cdv))) :
    Sz (cxOf (L2.CX P w) P w K mg base n_law "law" (defScope s_law) f cdv A outer s H E) C (fun cls d _ H2 => E cls d H2) T (defBody s_law) c_law.body := by
  have hx : Hx (cxOf (L2.CX P w) P w K mg base n_law "law" (defScope s_law) f cdv A outer s H E) := ⟨sc_law.nd, by have := hr.un; show (A.deeper (envOfC "law" (defScope s_law) s.heap.objs.size f cdv)).units + 70 < cLine; omega⟩
  have tk : Takes (cxOf (L2.CX P w) P w K mg base n_law "law" (defScope s_law) f cdv A outer s H E) (fun cls d _ H2 => E cls d H2) := takes_of rfl rfl rfl rfl
  refine sz_cons ?_ ?_
  · exact (ss_set 1 (sx_call L.f_law_world hr tk (sa_cons (sx_call L.f_law_cell hr tk (sa_cons (sx_slot 0) (sa_cons sx_int sa_nil)) (Nat.le_refl _)) sa_nil) (Nat.le_refl _)) sc_law.nd (hs := sw_Call))
  refine sz_cons ?_ ?_
  · exact (ss_set 2 (sx_makeE L.mkc hr tk (sa_cons (sx_slot 1) (sa_cons sx_int sa_nil))) sc_law.nd (hs := sw_Call))
  refine sz_cons ?_ ?_
  · exact (ss_set 3 (sx_makeE L.mkc hr tk (sa_cons (sx_slot 1) (sa_cons (sx_sub (sx_ix hx (sx_slot 1) sx_int) sx_int) sa_nil))) sc_law.nd (hs := sw_Call))
  refine sz_cons ?_ ?_
  · exact (ss_for (passes_of rfl) rfl (si_rng1 L.b_range (sx_mod (sx_call L.f_law_cell hr tk (sa_cons (sx_slot 0) (sa_cons sx_int sa_nil)) (Nat.le_refl _)) sx_int)) (sg_one 4 sc_law.nd)
  (sz_cons (ss_ex (sx_meth L.m_wish L.cl hr tk (sx_slot 3) (sa_cons (sx_call L.f_law_wish hr tk (sa_cons (sx_slot 1) (sa_cons (sx_call L.f_law_seed hr tk (sa_cons (sx_add (sx_call L.f_law_cell hr tk (sa_cons (sx_slot 0) (sa_cons sx_int sa_nil)) (Nat.le_refl _)) (sx_mul sx_int (sx_slot 4))) (sa_cons (sx_slot 4) sa_nil)) (Nat.le_refl _)) sa_nil)) (Nat.le_refl _)) sa_nil) (Nat.le_refl _)) (hs := sw_Call))
  sz_nil))
  refine sz_cons ?_ ?_
  · exact (ss_for (passes_of rfl) rfl (si_rng1 L.b_range (sx_mod (sx_call L.f_law_cell hr tk (sa_cons (sx_slot 0) (sa_cons sx_int sa_nil)) (Nat.le_refl _)) sx_int)) (sg_one 4 sc_law.nd)
  (sz_cons (ss_if (sb_nin hx (sx_call L.f_law_refusal hr tk (sa_cons sx_int (sa_cons (sx_slot 1) (sa_cons (sx_slot 3) (sa_cons (sx_tup (sa_cons (sx_sub (sx_ix hx (sx_slot 1) sx_int) sx_int) (sa_cons (sx_slot 4) sa_nil))) sa_nil)))) (Nat.le_refl _)) (sx_tup (sa_cons sx_str (sa_cons sx_str sa_nil))))
  (sz_cons (ss_ret sx_bool)
  sz_nil)
  sz_nil)
  sz_nil))
  refine sz_cons ?_ ?_
  · exact (ss_set 5 (sx_meth0 L.m_told L.cl hr tk (sx_slot 3) (Nat.le_refl _)) sc_law.nd (hs := sw_Call))
  refine sz_cons ?_ ?_
  · exact (ss_set 6 (sx_list (by
    refine sa_cons ?_ ?_
    · exact sx_none
    refine sa_cons ?_ ?_
    · exact sx_int
    refine sa_cons ?_ ?_
    · exact (sx_tup sa_nil)
    refine sa_cons ?_ ?_
    · exact sx_str
    refine sa_cons ?_ ?_
    · exact (sx_list (sa_cons sx_str (sa_cons (sx_tup (sa_cons sx_int (sa_cons sx_int sa_nil))) sa_nil)))
    refine sa_cons ?_ ?_
    · exact (sx_tup (sa_cons sx_int (sa_cons (sx_tup (sa_cons sx_int (sa_cons sx_int sa_nil))) sa_nil)))
    refine sa_cons ?_ ?_
    · exact (sx_tup (sa_cons (sx_tup (sa_cons sx_str sa_nil)) (sa_cons (sx_tup (sa_cons sx_int (sa_cons sx_int sa_nil))) sa_nil)))
    refine sa_cons ?_ ?_
    · exact (sx_slot 5)
    refine sa_cons ?_ ?_
    · exact (sx_tup (sa_cons sx_str sa_nil))
    refine sa_cons ?_ ?_
    · exact (sx_tup (sa_cons sx_str (sa_cons (sx_tup (sa_cons sx_int (sa_cons sx_int sa_nil))) sa_nil)))
    exact sa_nil)) sc_law.nd (hs := sw_List))
  refine sz_cons ?_ ?_
  · exact (ss_set 6 (sx_cat (sx_slot 6) (sx_list (sa_cons (sx_tup (sa_cons sx_str (sa_cons (sx_tup (sa_cons sx_int (sa_cons sx_int sa_nil))) (sa_cons (sx_tup (sa_cons sx_int (sa_cons sx_int sa_nil))) sa_nil)))) (sa_cons (sx_tup (sa_cons sx_str (sa_cons (sx_tup (sa_cons (sx_ix hx (sx_slot 1) sx_int) (sa_cons sx_int sa_nil))) sa_nil))) (sa_cons (sx_tup (sa_cons sx_str (sa_cons (sx_tup (sa_cons sx_int (sa_cons sx_int sa_nil))) sa_nil))) (sa_cons (sx_tup (sa_cons sx_str (sa_cons (sx_list (sa_cons sx_int (sa_cons sx_int sa_nil))) sa_nil))) (sa_cons sx_bool (sa_cons sx_str sa_nil)))))))) sc_law.nd (hs := sw_BinOp))
  refine sz_cons ?_ ?_
  · exact (ss_set 7 (sx_call L.f_law_wish hr tk (sa_cons (sx_slot 1) (sa_cons (sx_call L.f_law_seed hr tk (sa_cons (sx_call L.f_law_cell hr tk (sa_cons (sx_slot 0) (sa_cons sx_int sa_nil)) (Nat.le_refl _)) (sa_cons sx_int sa_nil)) (Nat.le_refl _)) sa_nil)) (Nat.le_refl _)) sc_law.nd (hs := sw_Call))
  refine sz_cons ?_ ?_
  · exact (ss_if (sb_ne hx (sx_meth L.m_heard L.cl hr tk (sx_makeE L.mkc hr tk (sa_cons (sx_slot 1) (sa_cons sx_int sa_nil))) (sa_cons (sx_tup (sa_cons (sx_tup (sa_cons sx_str (sa_cons (sx_tup (sa_cons sx_int (sa_cons sx_int sa_nil))) (sa_cons (sx_tup (sa_cons sx_int (sa_cons sx_int sa_nil))) (sa_cons (sx_slot 7) sa_nil))))) sa_nil)) sa_nil) (Nat.le_refl _)) sx_int)
  (sz_cons (ss_ret sx_bool)
  sz_nil)
  sz_nil)
  refine sz_cons ?_ ?_
  · exact (ss_app (sx_slot 6) (sx_tup (sa_cons sx_str (sa_cons (sx_tup (sa_cons sx_int (sa_cons sx_int sa_nil))) (sa_cons (sx_tup (sa_cons sx_int (sa_cons sx_int sa_nil))) (sa_cons (sx_slot 7) sa_nil))))))
  refine sz_cons ?_ ?_
  · exact (ss_set 8 (sx_ix hx (sx_slot 6) (sx_mod (sx_call L.f_law_cell hr tk (sa_cons (sx_slot 0) (sa_cons sx_int sa_nil)) (Nat.le_refl _)) sx_int)) sc_law.nd (hs := sw_Subscript))
  refine sz_cons ?_ ?_
  · exact (ss_set 9 (sx_call L.f_law_mix hr tk (sa_cons (sx_call L.f_law_cell hr tk (sa_cons (sx_slot 0) (sa_cons sx_int sa_nil)) (Nat.le_refl _)) (sa_cons sx_int (sa_cons (sx_add (sx_len L.b_len (sx_slot 5)) sx_int) sa_nil))) (Nat.le_refl _)) sc_law.nd (hs := sw_Call))
  refine sz_cons ?_ ?_
  · exact (ss_set 10 (sx_meth0 L.m_told L.cl hr tk (sx_slot 2) (Nat.le_refl _)) sc_law.nd (hs := sw_Call))
  refine sz_cons ?_ ?_
  · exact (ss_set 11 (sx_add (sx_add (sx_slT (sx_slot 5) (sx_slot 9)) (sx_tup (sa_cons (sx_slot 8) sa_nil))) (sx_slF (sx_slot 5) (sx_slot 9))) sc_law.nd (hs := sw_BinOp))
  refine sz_cons ?_ ?_
  · exact (ss_if (Sw.sb (sw_or (sb_ne hx (sx_call L.f_law_refusal hr tk (sa_cons sx_int (sa_cons (sx_slot 1) (sa_cons (sx_slot 2) (sa_cons (sx_slot 11) sa_nil)))) (Nat.le_refl _)) sx_str) (sw_or1 (sb_ne hx (sx_meth0 L.m_told L.cl hr tk (sx_slot 2) (Nat.le_refl _)) (sx_slot 10)))))
  (sz_cons (ss_ret sx_bool)
  sz_nil)
  sz_nil)
  refine sz_cons ?_ ?_
  · exact (ss_if (sb_eq hx (sx_ix hx (sx_slot 1) sx_int) sx_int)
  (sz_cons (ss_ret sx_bool)
  sz_nil)
  sz_nil)
  refine sz_cons ?_ ?_
  · exact (ss_if (Sw.sb (sw_or (sb_ne hx (sx_meth L.m_heard L.cl hr tk (sx_slot 2) (sa_cons (sx_slot 5) sa_nil) (Nat.le_refl _)) (sx_len L.b_len (sx_slot 5))) (sw_or (sb_ne hx (sx_meth0 L.m_told L.cl hr tk (sx_slot 2) (Nat.le_refl _)) (sx_slot 5)) (sw_or1 (sb_ne hx (sx_meth L.m_heard L.cl hr tk (sx_slot 2) (sa_cons (sx_slT (sx_slot 5) (sx_slot 9)) sa_nil) (Nat.le_refl _)) sx_int)))))
  (sz_cons (ss_ret sx_bool)
  sz_nil)
  sz_nil)
  refine sz_cons ?_ ?_
  · exact (ss_ret (sx_and (sx_eq hx (sx_meth L.m_heard L.cl hr tk (sx_slot 2) (sa_cons (sx_rev (sx_slot 5)) sa_nil) (Nat.le_refl _)) sx_int) (sx_and (sx_eq hx (sx_meth0 L.m_told L.cl hr tk (sx_slot 2) (Nat.le_refl _)) (sx_slot 5)) (sx_one (sx_is (sx_call L.f_at_rest hr tk (sa_cons (sx_list (sa_cons (sx_slot 2) (sa_cons (sx_slot 3) sa_nil))) sa_nil) (Nat.le_refl _)) sx_bool)))))
  exact sz_nil
def st_SMALL : Str := "abcdefghijklmnopqrstuvwxyz"
def dd_is_within : He.DefD := ⟨("is_within", none), "is_within", "is_within", defArgs s_is_within, defBody s_is_within, defScope s_is_within, [], []⟩
def dd_is_world : He.DefD := ⟨("is_world", none), "is_world", "is_world", defArgs s_is_world, defBody s_is_world, defScope s_is_world, [], []⟩
def dd_look_world : He.DefD := ⟨("look_world", none), "look_world", "look_world", defArgs s_look_world, defBody s_look_world, defScope s_look_world, [], []⟩
def dd_is_name : He.DefD := ⟨("is_name", none), "is_name", "is_name", defArgs s_is_name, defBody s_is_name, defScope s_is_name, [], []⟩
def dd_is_place : He.DefD := ⟨("is_place", none), "is_place", "is_place", defArgs s_is_place, defBody s_is_place, defScope s_is_place, [], []⟩
def dd_is_wish : He.DefD := ⟨("is_wish", none), "is_wish", "is_wish", defArgs s_is_wish, defBody s_is_wish, defScope s_is_wish, [], []⟩
def dd_look_wish : He.DefD := ⟨("look_wish", none), "look_wish", "look_wish", defArgs s_look_wish, defBody s_look_wish, defScope s_look_wish, [], []⟩
def dd_is_booking : He.DefD := ⟨("is_booking", none), "is_booking", "is_booking", defArgs s_is_booking, defBody s_is_booking, defScope s_is_booking, [], []⟩
def dd_is_fact : He.DefD := ⟨("is_fact", none), "is_fact", "is_fact", defArgs s_is_fact, defBody s_is_fact, defScope s_is_fact, [], []⟩
def dd_look_facts : He.DefD := ⟨("look_facts", none), "look_facts", "look_facts", defArgs s_look_facts, defBody s_look_facts, defScope s_look_facts, [], []⟩
def dd_wishes_in : He.DefD := ⟨("wishes_in", none), "wishes_in", "wishes_in", defArgs s_wishes_in, defBody s_wishes_in, defScope s_wishes_in, [], []⟩
def dd_at_rest : He.DefD := ⟨("at_rest", none), "at_rest", "at_rest", defArgs s_at_rest, defBody s_at_rest, defScope s_at_rest, [], []⟩
def dd_law_cell : He.DefD := ⟨("_law_cell", none), "_law_cell", "_law_cell", defArgs s_law_cell, defBody s_law_cell, defScope s_law_cell, [], []⟩
def dd_law_mix : He.DefD := ⟨("_law_mix", none), "_law_mix", "_law_mix", defArgs s_law_mix, defBody s_law_mix, defScope s_law_mix, [], []⟩
def dd_law_seed : He.DefD := ⟨("_law_seed", none), "_law_seed", "_law_seed", defArgs s_law_seed, defBody s_law_seed, defScope s_law_seed, [], []⟩
def dd_law_pick : He.DefD := ⟨("_law_pick", none), "_law_pick", "_law_pick", defArgs s_law_pick, defBody s_law_pick, defScope s_law_pick, [], []⟩
def dd_law_world : He.DefD := ⟨("_law_world", none), "_law_world", "_law_world", defArgs s_law_world, defBody s_law_world, defScope s_law_world, [], []⟩
def dd_law_wish : He.DefD := ⟨("_law_wish", none), "_law_wish", "_law_wish", defArgs s_law_wish, defBody s_law_wish, defScope s_law_wish, [], []⟩
def dd_law_refusal : He.DefD := ⟨("_law_refusal", none), "_law_refusal", "_law_refusal", defArgs s_law_refusal, defBody s_law_refusal, defScope s_law_refusal, [], []⟩
def dd_law : He.DefD := ⟨("law", none), "law", "law", defArgs s_law, defBody s_law, defScope s_law, [], []⟩
def dd_Copy_init : He.DefD := ⟨("Copy", some "__init__"), "__init__", "Copy.__init__", defArgs s_Copy_init, defBody s_Copy_init, defScope s_Copy_init, [], []⟩
def dd_Copy_put : He.DefD := ⟨("Copy", some "put"), "put", "Copy.put", defArgs s_Copy_put, defBody s_Copy_put, defScope s_Copy_put, [], []⟩
def dd_Copy_tick : He.DefD := ⟨("Copy", some "tick"), "tick", "Copy.tick", defArgs s_Copy_tick, defBody s_Copy_tick, defScope s_Copy_tick, [], []⟩
def dd_Copy_look_known : He.DefD := ⟨("Copy", some "look_known"), "look_known", "Copy.look_known", defArgs s_Copy_look_known, defBody s_Copy_look_known, defScope s_Copy_look_known, [], []⟩
def dd_Copy_wish : He.DefD := ⟨("Copy", some "wish"), "wish", "Copy.wish", defArgs s_Copy_wish, defBody s_Copy_wish, defScope s_Copy_wish, [], []⟩
def dd_Copy_off : He.DefD := ⟨("Copy", some "off"), "off", "Copy.off", defArgs s_Copy_off, defBody s_Copy_off, defScope s_Copy_off, [], []⟩
def dd_Copy_told : He.DefD := ⟨("Copy", some "told"), "told", "Copy.told", defArgs s_Copy_told, defBody s_Copy_told, defScope s_Copy_told, [], []⟩
def dd_Copy_heard : He.DefD := ⟨("Copy", some "heard"), "heard", "Copy.heard", defArgs s_Copy_heard, defBody s_Copy_heard, defScope s_Copy_heard, [], []⟩
def fnL : List He.DefD := [dd_is_within, dd_is_world, dd_look_world, dd_is_name, dd_is_place, dd_is_wish, dd_look_wish, dd_is_booking, dd_is_fact, dd_look_facts, dd_wishes_in, dd_at_rest, dd_law_cell, dd_law_mix, dd_law_seed, dd_law_pick, dd_law_world, dd_law_wish, dd_law_refusal, dd_law, dd_Copy_init, dd_Copy_put, dd_Copy_tick, dd_Copy_look_known, dd_Copy_wish, dd_Copy_off, dd_Copy_told, dd_Copy_heard]
def faL0 : List He.Fa := [.glo "is_within", .glo "is_world", .glo "look_world", .glo "is_name", .glo "is_place", .glo "is_wish", .glo "look_wish", .glo "is_booking", .glo "is_fact", .glo "look_facts", .glo "wishes_in", .glo "at_rest", .glo "_law_cell", .glo "_law_mix", .glo "_law_seed", .glo "_law_pick", .glo "_law_world", .glo "_law_wish", .glo "_law_refusal", .glo "law", .free "len", .free "isinstance", .free "int", .free "bool", .free "str", .free "tuple", .free "list", .free "dict", .free "set", .free "range"]
def faL1 : List He.Fa := [.free "sorted", .free "max", .free "min", .free "abs", .free "enumerate", .free "zip", .free "sum", .free "BadWord", .free "BadDeed", .free "BadText", .int "HOURS" 24, .int "MOST_COPIES" 5, .int "MOST_ROOMS" 3, .int "MOST_LONG" 6, .int "MOST_WISHES" 12, .int "MOST_CLOCK" 9999, .str "SMALL" st_SMALL, .glo "KEYS", .glo "SIZES", .glo "Copy", .cls "Copy", .mkr "Copy", .noat "Copy" "world", .noat "Copy" "mine", .noat "Copy" "facts", .noat "Copy" "clock", .noat "Copy" "own", .noat "Copy" "seen", .meth "Copy" "put", .meth "Copy" "tick"]
def faL2 : List He.Fa := [.meth "Copy" "look_known", .meth "Copy" "wish", .meth "Copy" "off", .meth "Copy" "told", .meth "Copy" "heard", .glo "BadWorld", .exc "BadWorld", .glo "BadWish", .exc "BadWish", .glo "BadCopy", .exc "BadCopy", .glo "NoBooking", .exc "NoBooking", .glo "Full", .exc "Full", .glo "BadFacts", .exc "BadFacts", .glo "BookError", .exc "BookError", .exm "BadWorld" "BadWorld" true, .exm "BadWish" "BadWorld" false, .exm "BadCopy" "BadWorld" false, .exm "NoBooking" "BadWorld" false, .exm "Full" "BadWorld" false, .exm "BadFacts" "BadWorld" false, .exm "BadWorld" "BadCopy" false, .exm "BadWish" "BadCopy" false, .exm "BadCopy" "BadCopy" true, .exm "NoBooking" "BadCopy" false, .exm "Full" "BadCopy" false]
def faL3 : List He.Fa := [.exm "BadFacts" "BadCopy" false, .exm "BadWorld" "BadWish" false, .exm "BadWish" "BadWish" true, .exm "BadCopy" "BadWish" false, .exm "NoBooking" "BadWish" false, .exm "Full" "BadWish" false, .exm "BadFacts" "BadWish" false, .exm "BadWorld" "BadFacts" false, .exm "BadWish" "BadFacts" false, .exm "BadCopy" "BadFacts" false, .exm "NoBooking" "BadFacts" false, .exm "Full" "BadFacts" false, .exm "BadFacts" "BadFacts" true, .exm "BadWorld" "NoBooking" false, .exm "BadWish" "NoBooking" false, .exm "BadCopy" "NoBooking" false, .exm "NoBooking" "NoBooking" true, .exm "Full" "NoBooking" false, .exm "BadFacts" "NoBooking" false]
def faL : List He.Fa := faL0 ++ (faL1 ++ (faL2 ++ (faL3)))
def kv_SIZES : List (Str × Int) := [("wish", 4), ("off", 2), ("pin", 4)]
def tu_KEYS : List Str := ["rank", "first", "short", "early"]
def tsL : List He.Tab := [(fun K => He.ga K "SIZES", kv_SIZES.map (·.1))]
def exL (K : PySem.W.Frag) : Bool := He.tupB K "KEYS" (tu_KEYS.map He.Dv.str) && (He.valsB K (He.ga K "SIZES") (kv_SIZES.map fun q => (q.1, .int q.2)))
abbrev RW : PySem.W.OpenRow := PySem.W.OpenLaw.row PySem.Challenge.rw_farbook_k14_odd_facts
abbrev hk : PySem.W.Hook := He.hookX 5 faL fnL tsL [] exL
def ob (s : PySem.W.SharedT) : He.AlX := He.obsX 5 faL fnL tsL [] exL (HandSHeadRun.getT s)
theorem ob_eq (s : PySem.W.SharedT) : ob s = hk.obs s.abs := He.obsX_eq (HandSHeadRun.getT_eq s)
def loose0 : List Str := ["_wall", "BookError", "BadWorld", "BadWish", "BadCopy", "NoBooking", "Full", "BadFacts", "HOURS", "MOST_COPIES", "MOST_ROOMS", "MOST_LONG", "MOST_WISHES", "MOST_CLOCK", "KEYS", "SMALL", "SIZES", "is_within", "is_world", "look_world"]
def loose1 : List Str := ["is_name", "is_place", "is_wish", "look_wish", "is_booking", "is_fact", "look_facts", "wishes_in", "pins_in", "key_of", "in_order", "is_free", "fill", "nearest", "placed", "Copy", "at_rest", "_law_cell", "_law_mix", "_law_seed"]
def loose2 : List Str := ["_law_pick", "_law_world", "_law_wish", "_law_refusal"]
def looseL : List Str := loose0 ++ (loose1 ++ (loose2))
theorem run_false (w : World) : HandSHeadRun.RunEq RW (PySem.W.view RW.prog [50]) hk ob 20000 looseL (w.withFollow "special-get-raises" false) := by
  intro os
  kernel_rfl
theorem run_true (w : World) : HandSHeadRun.RunEq RW (PySem.W.view RW.prog [50]) hk ob 20000 looseL (w.withFollow "special-get-raises" true) := by
  intro os
  kernel_rfl
theorem run (w : World) : HandSHeadRun.RunEq RW (PySem.W.view RW.prog [50]) hk ob 20000 looseL w := PySem.W.byRow2 "special-get-raises" (P := fun w => HandSHeadRun.RunEq RW (PySem.W.view RW.prog [50]) hk ob 20000 looseL w) run_false run_true w
theorem callF_at {x : Str} {F : Fn} (h : prZ.fn x = some F) (n : Nat) : callF prZ (n + 1) x = runF (tabZ prZ n) F := by
  funext as s
  cases n with
  | zero => show (match prZ.fn x with | some F => _ | none => _) = _; rw [h]; rfl
  | succ n => show (match prZ.fn x with | some F => _ | none => _) = _; rw [h]; rfl
theorem z_is_within (n : Nat) : callF prZ (n + 1) "is_within" = runF (tabZ prZ n) c_is_within := callF_at (by rfl) n
theorem z_is_world (n : Nat) : callF prZ (n + 1) "is_world" = runF (tabZ prZ n) c_is_world := callF_at (by rfl) n
theorem z_look_world (n : Nat) : callF prZ (n + 1) "look_world" = runF (tabZ prZ n) c_look_world := callF_at (by rfl) n
theorem z_is_name (n : Nat) : callF prZ (n + 1) "is_name" = runF (tabZ prZ n) c_is_name := callF_at (by rfl) n
theorem z_is_place (n : Nat) : callF prZ (n + 1) "is_place" = runF (tabZ prZ n) c_is_place := callF_at (by rfl) n
theorem z_is_wish (n : Nat) : callF prZ (n + 1) "is_wish" = runF (tabZ prZ n) c_is_wish := callF_at (by rfl) n
theorem z_look_wish (n : Nat) : callF prZ (n + 1) "look_wish" = runF (tabZ prZ n) c_look_wish := callF_at (by rfl) n
theorem z_is_booking (n : Nat) : callF prZ (n + 1) "is_booking" = runF (tabZ prZ n) c_is_booking := callF_at (by rfl) n
theorem z_is_fact (n : Nat) : callF prZ (n + 1) "is_fact" = runF (tabZ prZ n) c_is_fact := callF_at (by rfl) n
theorem z_look_facts (n : Nat) : callF prZ (n + 1) "look_facts" = runF (tabZ prZ n) c_look_facts := callF_at (by rfl) n
theorem z_wishes_in (n : Nat) : callF prZ (n + 1) "wishes_in" = runF (tabZ prZ n) c_wishes_in := callF_at (by rfl) n
theorem z_Copy_init (n : Nat) : callF prZ (n + 1) "__init__" = runF (tabZ prZ n) c_Copy_init := callF_at (by rfl) n
theorem z_Copy_put (n : Nat) : callF prZ (n + 1) "put" = runF (tabZ prZ n) c_Copy_put := callF_at (by rfl) n
theorem z_Copy_tick (n : Nat) : callF prZ (n + 1) "tick" = runF (tabZ prZ n) c_Copy_tick := callF_at (by rfl) n
theorem z_Copy_look_known (n : Nat) : callF prZ (n + 1) "look_known" = runF (tabZ prZ n) c_Copy_look_known := callF_at (by rfl) n
theorem z_Copy_wish (n : Nat) : callF prZ (n + 1) "wish" = runF (tabZ prZ n) c_Copy_wish := callF_at (by rfl) n
theorem z_Copy_off (n : Nat) : callF prZ (n + 1) "off" = runF (tabZ prZ n) c_Copy_off := callF_at (by rfl) n
theorem z_Copy_told (n : Nat) : callF prZ (n + 1) "told" = runF (tabZ prZ n) c_Copy_told := callF_at (by rfl) n
theorem z_Copy_heard (n : Nat) : callF prZ (n + 1) "heard" = runF (tabZ prZ n) c_Copy_heard := callF_at (by rfl) n
theorem z_at_rest (n : Nat) : callF prZ (n + 1) "at_rest" = runF (tabZ prZ n) c_at_rest := callF_at (by rfl) n
theorem z_law_cell (n : Nat) : callF prZ (n + 1) "_law_cell" = runF (tabZ prZ n) c_law_cell := callF_at (by rfl) n
theorem z_law_mix (n : Nat) : callF prZ (n + 1) "_law_mix" = runF (tabZ prZ n) c_law_mix := callF_at (by rfl) n
theorem z_law_seed (n : Nat) : callF prZ (n + 1) "_law_seed" = runF (tabZ prZ n) c_law_seed := callF_at (by rfl) n
theorem z_law_pick (n : Nat) : callF prZ (n + 1) "_law_pick" = runF (tabZ prZ n) c_law_pick := callF_at (by rfl) n
theorem z_law_world (n : Nat) : callF prZ (n + 1) "_law_world" = runF (tabZ prZ n) c_law_world := callF_at (by rfl) n
theorem z_law_wish (n : Nat) : callF prZ (n + 1) "_law_wish" = runF (tabZ prZ n) c_law_wish := callF_at (by rfl) n
theorem z_law_refusal (n : Nat) : callF prZ (n + 1) "_law_refusal" = runF (tabZ prZ n) c_law_refusal := callF_at (by rfl) n
theorem z_law (n : Nat) : callF prZ (n + 1) "law" = runF (tabZ prZ n) c_law := callF_at (by rfl) n
theorem kd_none_SIZES (x : Str) (h : ¬x = "wish" ∧ ¬x = "off" ∧ ¬x = "pin") : prZ.kd "SIZES" x = none := by
  obtain ⟨h0, h1, h2⟩ := h
  show List.lookup x [(("wish" : Str), (4 : Int)), (("off" : Str), (2 : Int)), (("pin" : Str), (4 : Int))] = none
  simp only [List.lookup, beq_eq_false_iff_ne.mpr h0, beq_eq_false_iff_ne.mpr h1, beq_eq_false_iff_ne.mpr h2]
theorem facts {P : Program} {w : World} {K : PySem.W.Frag} {h : Heap} {mg : Str → Option Value} {f : Addr} (X : K.In h) (G : h.Ns mainGlobals mg) (hfa : mg ("law" : Str) = some (.ref f)) (c : He.SaysX faL fnL tsL [] exL w h K) :
    ∃ fd : FuncData, (∀ (s : Shared) (v : Value), BindsTo s fd ⟨[v], []⟩ [("script", v)]) ∧ ∀ base : Heap, K.In base → base.Ns mainGlobals mg → FnOk P w K mg base (L2.CX P w) 16 f fd ["script"] (spT K (He.ga K "Copy") mg (callF prZ 14 "law")) := by
  obtain ⟨fd_is_within, E_is_within⟩ := c.t.d.def_ 0 (d := dd_is_within) rfl
  have F_is_within : Fun K "is_within" "is_within" s_is_within (He.ga K "is_within") fd_is_within := fun_of E_is_within
  have b_is_within := F_is_within.binds (ps := ["thing", "low", "high"]) fun _ _ _ _ _ _ us hl => match us, hl with | [_, _, _], _ => rfl
  obtain ⟨fd_is_world, E_is_world⟩ := c.t.d.def_ 1 (d := dd_is_world) rfl
  have F_is_world : Fun K "is_world" "is_world" s_is_world (He.ga K "is_world") fd_is_world := fun_of E_is_world
  have b_is_world := F_is_world.binds (ps := ["thing"]) fun _ _ _ _ _ _ us hl => match us, hl with | [_], _ => rfl
  obtain ⟨fd_look_world, E_look_world⟩ := c.t.d.def_ 2 (d := dd_look_world) rfl
  have F_look_world : Fun K "look_world" "look_world" s_look_world (He.ga K "look_world") fd_look_world := fun_of E_look_world
  have b_look_world := F_look_world.binds (ps := ["thing"]) fun _ _ _ _ _ _ us hl => match us, hl with | [_], _ => rfl
  obtain ⟨fd_is_name, E_is_name⟩ := c.t.d.def_ 3 (d := dd_is_name) rfl
  have F_is_name : Fun K "is_name" "is_name" s_is_name (He.ga K "is_name") fd_is_name := fun_of E_is_name
  have b_is_name := F_is_name.binds (ps := ["thing"]) fun _ _ _ _ _ _ us hl => match us, hl with | [_], _ => rfl
  obtain ⟨fd_is_place, E_is_place⟩ := c.t.d.def_ 4 (d := dd_is_place) rfl
  have F_is_place : Fun K "is_place" "is_place" s_is_place (He.ga K "is_place") fd_is_place := fun_of E_is_place
  have b_is_place := F_is_place.binds (ps := ["world", "long", "room", "hour"]) fun _ _ _ _ _ _ us hl => match us, hl with | [_, _, _, _], _ => rfl
  obtain ⟨fd_is_wish, E_is_wish⟩ := c.t.d.def_ 5 (d := dd_is_wish) rfl
  have F_is_wish : Fun K "is_wish" "is_wish" s_is_wish (He.ga K "is_wish") fd_is_wish := fun_of E_is_wish
  have b_is_wish := F_is_wish.binds (ps := ["world", "thing"]) fun _ _ _ _ _ _ us hl => match us, hl with | [_, _], _ => rfl
  obtain ⟨fd_look_wish, E_look_wish⟩ := c.t.d.def_ 6 (d := dd_look_wish) rfl
  have F_look_wish : Fun K "look_wish" "look_wish" s_look_wish (He.ga K "look_wish") fd_look_wish := fun_of E_look_wish
  have b_look_wish := F_look_wish.binds (ps := ["world", "thing"]) fun _ _ _ _ _ _ us hl => match us, hl with | [_, _], _ => rfl
  obtain ⟨fd_is_booking, E_is_booking⟩ := c.t.d.def_ 7 (d := dd_is_booking) rfl
  have F_is_booking : Fun K "is_booking" "is_booking" s_is_booking (He.ga K "is_booking") fd_is_booking := fun_of E_is_booking
  have b_is_booking := F_is_booking.binds (ps := ["world", "thing"]) fun _ _ _ _ _ _ us hl => match us, hl with | [_, _], _ => rfl
  obtain ⟨fd_is_fact, E_is_fact⟩ := c.t.d.def_ 8 (d := dd_is_fact) rfl
  have F_is_fact : Fun K "is_fact" "is_fact" s_is_fact (He.ga K "is_fact") fd_is_fact := fun_of E_is_fact
  have b_is_fact := F_is_fact.binds (ps := ["world", "thing"]) fun _ _ _ _ _ _ us hl => match us, hl with | [_, _], _ => rfl
  obtain ⟨fd_look_facts, E_look_facts⟩ := c.t.d.def_ 9 (d := dd_look_facts) rfl
  have F_look_facts : Fun K "look_facts" "look_facts" s_look_facts (He.ga K "look_facts") fd_look_facts := fun_of E_look_facts
  have b_look_facts := F_look_facts.binds (ps := ["world", "thing"]) fun _ _ _ _ _ _ us hl => match us, hl with | [_, _], _ => rfl
  obtain ⟨fd_wishes_in, E_wishes_in⟩ := c.t.d.def_ 10 (d := dd_wishes_in) rfl
  have F_wishes_in : Fun K "wishes_in" "wishes_in" s_wishes_in (He.ga K "wishes_in") fd_wishes_in := fun_of E_wishes_in
  have b_wishes_in := F_wishes_in.binds (ps := ["facts"]) fun _ _ _ _ _ _ us hl => match us, hl with | [_], _ => rfl
  obtain ⟨fd_at_rest, E_at_rest⟩ := c.t.d.def_ 11 (d := dd_at_rest) rfl
  have F_at_rest : Fun K "at_rest" "at_rest" s_at_rest (He.ga K "at_rest") fd_at_rest := fun_of E_at_rest
  have b_at_rest := F_at_rest.binds (ps := ["copies"]) fun _ _ _ _ _ _ us hl => match us, hl with | [_], _ => rfl
  obtain ⟨fd_law_cell, E_law_cell⟩ := c.t.d.def_ 12 (d := dd_law_cell) rfl
  have F_law_cell : Fun K "_law_cell" "_law_cell" s_law_cell (He.ga K "_law_cell") fd_law_cell := fun_of E_law_cell
  have b_law_cell := F_law_cell.binds (ps := ["script", "k"]) fun _ _ _ _ _ _ us hl => match us, hl with | [_, _], _ => rfl
  obtain ⟨fd_law_mix, E_law_mix⟩ := c.t.d.def_ 13 (d := dd_law_mix) rfl
  have F_law_mix : Fun K "_law_mix" "_law_mix" s_law_mix (He.ga K "_law_mix") fd_law_mix := fun_of E_law_mix
  have b_law_mix := F_law_mix.binds (ps := ["cell", "prime", "many"]) fun _ _ _ _ _ _ us hl => match us, hl with | [_, _, _], _ => rfl
  obtain ⟨fd_law_seed, E_law_seed⟩ := c.t.d.def_ 14 (d := dd_law_seed) rfl
  have F_law_seed : Fun K "_law_seed" "_law_seed" s_law_seed (He.ga K "_law_seed") fd_law_seed := fun_of E_law_seed
  have b_law_seed := F_law_seed.binds (ps := ["seed", "k"]) fun _ _ _ _ _ _ us hl => match us, hl with | [_, _], _ => rfl
  obtain ⟨fd_law_pick, E_law_pick⟩ := c.t.d.def_ 15 (d := dd_law_pick) rfl
  have F_law_pick : Fun K "_law_pick" "_law_pick" s_law_pick (He.ga K "_law_pick") fd_law_pick := fun_of E_law_pick
  have b_law_pick := F_law_pick.binds (ps := ["seed", "many"]) fun _ _ _ _ _ _ us hl => match us, hl with | [_, _], _ => rfl
  obtain ⟨fd_law_world, E_law_world⟩ := c.t.d.def_ 16 (d := dd_law_world) rfl
  have F_law_world : Fun K "_law_world" "_law_world" s_law_world (He.ga K "_law_world") fd_law_world := fun_of E_law_world
  have b_law_world := F_law_world.binds (ps := ["cell"]) fun _ _ _ _ _ _ us hl => match us, hl with | [_], _ => rfl
  obtain ⟨fd_law_wish, E_law_wish⟩ := c.t.d.def_ 17 (d := dd_law_wish) rfl
  have F_law_wish : Fun K "_law_wish" "_law_wish" s_law_wish (He.ga K "_law_wish") fd_law_wish := fun_of E_law_wish
  have b_law_wish := F_law_wish.binds (ps := ["world", "seed"]) fun _ _ _ _ _ _ us hl => match us, hl with | [_, _], _ => rfl
  obtain ⟨fd_law_refusal, E_law_refusal⟩ := c.t.d.def_ 18 (d := dd_law_refusal) rfl
  have F_law_refusal : Fun K "_law_refusal" "_law_refusal" s_law_refusal (He.ga K "_law_refusal") fd_law_refusal := fun_of E_law_refusal
  have b_law_refusal := F_law_refusal.binds (ps := ["kind", "world", "here", "thing"]) fun _ _ _ _ _ _ us hl => match us, hl with | [_, _, _, _], _ => rfl
  obtain ⟨fd_law, E_law⟩ := c.t.d.def_ 19 (d := dd_law) rfl
  have F_law : Fun K "law" "law" s_law (He.ga K "law") fd_law := fun_of E_law
  have b_law := F_law.binds (ps := ["script"]) fun _ _ _ _ _ _ us hl => match us, hl with | [_], _ => rfl
  obtain ⟨fd_Copy_init, E_Copy_init⟩ := c.t.d.def_ 20 (d := dd_Copy_init) rfl
  have F_Copy_init : Fun K "__init__" "Copy.__init__" s_Copy_init (He.ma K (He.ga K "Copy") "__init__") fd_Copy_init := fun_of E_Copy_init
  have b_Copy_init := F_Copy_init.binds (ps := ["self", "world", "mine"]) fun _ _ _ _ _ _ us hl => match us, hl with | [_, _, _], _ => rfl
  obtain ⟨fd_Copy_put, E_Copy_put⟩ := c.t.d.def_ 21 (d := dd_Copy_put) rfl
  have F_Copy_put : Fun K "put" "Copy.put" s_Copy_put (He.ma K (He.ga K "Copy") "put") fd_Copy_put := fun_of E_Copy_put
  have b_Copy_put := F_Copy_put.binds (ps := ["self", "fact"]) fun _ _ _ _ _ _ us hl => match us, hl with | [_, _], _ => rfl
  obtain ⟨fd_Copy_tick, E_Copy_tick⟩ := c.t.d.def_ 22 (d := dd_Copy_tick) rfl
  have F_Copy_tick : Fun K "tick" "Copy.tick" s_Copy_tick (He.ma K (He.ga K "Copy") "tick") fd_Copy_tick := fun_of E_Copy_tick
  have b_Copy_tick := F_Copy_tick.binds (ps := ["self"]) fun _ _ _ _ _ _ us hl => match us, hl with | [_], _ => rfl
  obtain ⟨fd_Copy_look_known, E_Copy_look_known⟩ := c.t.d.def_ 23 (d := dd_Copy_look_known) rfl
  have F_Copy_look_known : Fun K "look_known" "Copy.look_known" s_Copy_look_known (He.ma K (He.ga K "Copy") "look_known") fd_Copy_look_known := fun_of E_Copy_look_known
  have b_Copy_look_known := F_Copy_look_known.binds (ps := ["self", "booking"]) fun _ _ _ _ _ _ us hl => match us, hl with | [_, _], _ => rfl
  obtain ⟨fd_Copy_wish, E_Copy_wish⟩ := c.t.d.def_ 24 (d := dd_Copy_wish) rfl
  have F_Copy_wish : Fun K "wish" "Copy.wish" s_Copy_wish (He.ma K (He.ga K "Copy") "wish") fd_Copy_wish := fun_of E_Copy_wish
  have b_Copy_wish := F_Copy_wish.binds (ps := ["self", "thing"]) fun _ _ _ _ _ _ us hl => match us, hl with | [_, _], _ => rfl
  obtain ⟨fd_Copy_off, E_Copy_off⟩ := c.t.d.def_ 25 (d := dd_Copy_off) rfl
  have F_Copy_off : Fun K "off" "Copy.off" s_Copy_off (He.ma K (He.ga K "Copy") "off") fd_Copy_off := fun_of E_Copy_off
  have b_Copy_off := F_Copy_off.binds (ps := ["self", "booking"]) fun _ _ _ _ _ _ us hl => match us, hl with | [_, _], _ => rfl
  obtain ⟨fd_Copy_told, E_Copy_told⟩ := c.t.d.def_ 26 (d := dd_Copy_told) rfl
  have F_Copy_told : Fun K "told" "Copy.told" s_Copy_told (He.ma K (He.ga K "Copy") "told") fd_Copy_told := fun_of E_Copy_told
  have b_Copy_told := F_Copy_told.binds (ps := ["self"]) fun _ _ _ _ _ _ us hl => match us, hl with | [_], _ => rfl
  obtain ⟨fd_Copy_heard, E_Copy_heard⟩ := c.t.d.def_ 27 (d := dd_Copy_heard) rfl
  have F_Copy_heard : Fun K "heard" "Copy.heard" s_Copy_heard (He.ma K (He.ga K "Copy") "heard") fd_Copy_heard := fun_of E_Copy_heard
  have b_Copy_heard := F_Copy_heard.binds (ps := ["self", "facts"]) fun _ _ _ _ _ _ us hl => match us, hl with | [_, _], _ => rfl
  have e := hfa.symm.trans (He.glo_ok X G (c.t.d.fact 19 (f := .glo "law") rfl))
  cases e
  have hex := c.more
  unfold exL at hex
  simp only [Bool.and_eq_true] at hex
  obtain ⟨hx0, hx1⟩ := hex
  have TBadWorld : Ec K mg "BadWorld" (He.ga K "BadWorld") := ec_of X G (c.t.d.fact 65 (f := .glo "BadWorld") rfl) (c.t.d.fact 66 (f := .exc "BadWorld") rfl)
  have TBadWish : Ec K mg "BadWish" (He.ga K "BadWish") := ec_of X G (c.t.d.fact 67 (f := .glo "BadWish") rfl) (c.t.d.fact 68 (f := .exc "BadWish") rfl)
  have TBadCopy : Ec K mg "BadCopy" (He.ga K "BadCopy") := ec_of X G (c.t.d.fact 69 (f := .glo "BadCopy") rfl) (c.t.d.fact 70 (f := .exc "BadCopy") rfl)
  have TNoBooking : Ec K mg "NoBooking" (He.ga K "NoBooking") := ec_of X G (c.t.d.fact 71 (f := .glo "NoBooking") rfl) (c.t.d.fact 72 (f := .exc "NoBooking") rfl)
  have TFull : Ec K mg "Full" (He.ga K "Full") := ec_of X G (c.t.d.fact 73 (f := .glo "Full") rfl) (c.t.d.fact 74 (f := .exc "Full") rfl)
  have TBadFacts : Ec K mg "BadFacts" (He.ga K "BadFacts") := ec_of X G (c.t.d.fact 75 (f := .glo "BadFacts") rfl) (c.t.d.fact 76 (f := .exc "BadFacts") rfl)
  have TBookError : Ec K mg "BookError" (He.ga K "BookError") := ec_of X G (c.t.d.fact 77 (f := .glo "BookError") rfl) (c.t.d.fact 78 (f := .exc "BookError") rfl)
  refine ⟨fd_law, fun s v => (FunD.bindsA (ps := ["script"]) E_law fun _ _ _ _ _ _ us hl => match us, hl with | [_], _ => rfl) s [v] rfl, fun base _ _ => ?_⟩
  have h_is_within : ∀ {T : Tab} {j : Nat}, Lb P w K mg base (He.ga K "Copy") T j → FnOk P w K mg base (L2.CX P w) (j + 1) _ fd_is_within p_is_within (spT K (He.ga K "Copy") mg (runF T c_is_within)) := fun L => okF F_is_within sc_is_within rfl rfl fun cdv A outer s H E hr => w_is_within L cdv A outer s H E hr
  have h_is_world : ∀ {T : Tab} {j : Nat}, Lb P w K mg base (He.ga K "Copy") T j → FnOk P w K mg base (L2.CX P w) (j + 1) _ fd_is_world p_is_world (spT K (He.ga K "Copy") mg (runF T c_is_world)) := fun L => okF F_is_world sc_is_world rfl rfl fun cdv A outer s H E hr => w_is_world L cdv A outer s H E hr
  have h_look_world : ∀ {T : Tab} {j : Nat}, Lb P w K mg base (He.ga K "Copy") T j → FnOk P w K mg base (L2.CX P w) (j + 1) _ fd_look_world p_look_world (spT K (He.ga K "Copy") mg (runF T c_look_world)) := fun L => okF F_look_world sc_look_world rfl rfl fun cdv A outer s H E hr => w_look_world L cdv A outer s H E hr
  have h_is_name : ∀ {T : Tab} {j : Nat}, Lb P w K mg base (He.ga K "Copy") T j → FnOk P w K mg base (L2.CX P w) (j + 1) _ fd_is_name p_is_name (spT K (He.ga K "Copy") mg (runF T c_is_name)) := fun L => okF F_is_name sc_is_name rfl rfl fun cdv A outer s H E hr => w_is_name L cdv A outer s H E hr
  have h_is_place : ∀ {T : Tab} {j : Nat}, Lb P w K mg base (He.ga K "Copy") T j → FnOk P w K mg base (L2.CX P w) (j + 1) _ fd_is_place p_is_place (spT K (He.ga K "Copy") mg (runF T c_is_place)) := fun L => okF F_is_place sc_is_place rfl rfl fun cdv A outer s H E hr => w_is_place L cdv A outer s H E hr
  have h_is_wish : ∀ {T : Tab} {j : Nat}, Lb P w K mg base (He.ga K "Copy") T j → FnOk P w K mg base (L2.CX P w) (j + 1) _ fd_is_wish p_is_wish (spT K (He.ga K "Copy") mg (runF T c_is_wish)) := fun L => okF F_is_wish sc_is_wish rfl rfl fun cdv A outer s H E hr => w_is_wish L cdv A outer s H E hr
  have h_look_wish : ∀ {T : Tab} {j : Nat}, Lb P w K mg base (He.ga K "Copy") T j → FnOk P w K mg base (L2.CX P w) (j + 1) _ fd_look_wish p_look_wish (spT K (He.ga K "Copy") mg (runF T c_look_wish)) := fun L => okF F_look_wish sc_look_wish rfl rfl fun cdv A outer s H E hr => w_look_wish L cdv A outer s H E hr
  have h_is_booking : ∀ {T : Tab} {j : Nat}, Lb P w K mg base (He.ga K "Copy") T j → FnOk P w K mg base (L2.CX P w) (j + 1) _ fd_is_booking p_is_booking (spT K (He.ga K "Copy") mg (runF T c_is_booking)) := fun L => okF F_is_booking sc_is_booking rfl rfl fun cdv A outer s H E hr => w_is_booking L cdv A outer s H E hr
  have h_is_fact : ∀ {T : Tab} {j : Nat}, Lb P w K mg base (He.ga K "Copy") T j → FnOk P w K mg base (L2.CX P w) (j + 1) _ fd_is_fact p_is_fact (spT K (He.ga K "Copy") mg (runF T c_is_fact)) := fun L => okF F_is_fact sc_is_fact rfl rfl fun cdv A outer s H E hr => w_is_fact L cdv A outer s H E hr
  have h_look_facts : ∀ {T : Tab} {j : Nat}, Lb P w K mg base (He.ga K "Copy") T j → FnOk P w K mg base (L2.CX P w) (j + 1) _ fd_look_facts p_look_facts (spT K (He.ga K "Copy") mg (runF T c_look_facts)) := fun L => okF F_look_facts sc_look_facts rfl rfl fun cdv A outer s H E hr => w_look_facts L cdv A outer s H E hr
  have h_wishes_in : ∀ {T : Tab} {j : Nat}, Lb P w K mg base (He.ga K "Copy") T j → FnOk P w K mg base (L2.CX P w) (j + 1) _ fd_wishes_in p_wishes_in (spT K (He.ga K "Copy") mg (runF T c_wishes_in)) := fun L => okF F_wishes_in sc_wishes_in rfl rfl fun cdv A outer s H E hr => w_wishes_in L cdv A outer s H E hr
  have h_Copy_init : ∀ {T : Tab} {j : Nat}, Lb P w K mg base (He.ga K "Copy") T j → FnOk P w K mg base (L2.CX P w) (j + 1) _ fd_Copy_init p_Copy_init (spT K (He.ga K "Copy") mg (runF T c_Copy_init)) := fun L => okF F_Copy_init sc_Copy_init rfl rfl fun cdv A outer s H E hr => w_Copy_init L cdv A outer s H E hr
  have h_Copy_put : ∀ {T : Tab} {j : Nat}, Lb P w K mg base (He.ga K "Copy") T j → FnOk P w K mg base (L2.CX P w) (j + 1) _ fd_Copy_put p_Copy_put (spT K (He.ga K "Copy") mg (runF T c_Copy_put)) := fun L => okF F_Copy_put sc_Copy_put rfl rfl fun cdv A outer s H E hr => w_Copy_put L cdv A outer s H E hr
  have h_Copy_tick : ∀ {T : Tab} {j : Nat}, Lb P w K mg base (He.ga K "Copy") T j → FnOk P w K mg base (L2.CX P w) (j + 1) _ fd_Copy_tick p_Copy_tick (spT K (He.ga K "Copy") mg (runF T c_Copy_tick)) := fun L => okF F_Copy_tick sc_Copy_tick rfl rfl fun cdv A outer s H E hr => w_Copy_tick L cdv A outer s H E hr
  have h_Copy_look_known : ∀ {T : Tab} {j : Nat}, Lb P w K mg base (He.ga K "Copy") T j → FnOk P w K mg base (L2.CX P w) (j + 1) _ fd_Copy_look_known p_Copy_look_known (spT K (He.ga K "Copy") mg (runF T c_Copy_look_known)) := fun L => okF F_Copy_look_known sc_Copy_look_known rfl rfl fun cdv A outer s H E hr => w_Copy_look_known L cdv A outer s H E hr
  have h_Copy_wish : ∀ {T : Tab} {j : Nat}, Lb P w K mg base (He.ga K "Copy") T j → FnOk P w K mg base (L2.CX P w) (j + 1) _ fd_Copy_wish p_Copy_wish (spT K (He.ga K "Copy") mg (runF T c_Copy_wish)) := fun L => okF F_Copy_wish sc_Copy_wish rfl rfl fun cdv A outer s H E hr => w_Copy_wish L cdv A outer s H E hr
  have h_Copy_off : ∀ {T : Tab} {j : Nat}, Lb P w K mg base (He.ga K "Copy") T j → FnOk P w K mg base (L2.CX P w) (j + 1) _ fd_Copy_off p_Copy_off (spT K (He.ga K "Copy") mg (runF T c_Copy_off)) := fun L => okF F_Copy_off sc_Copy_off rfl rfl fun cdv A outer s H E hr => w_Copy_off L cdv A outer s H E hr
  have h_Copy_told : ∀ {T : Tab} {j : Nat}, Lb P w K mg base (He.ga K "Copy") T j → FnOk P w K mg base (L2.CX P w) (j + 1) _ fd_Copy_told p_Copy_told (spT K (He.ga K "Copy") mg (runF T c_Copy_told)) := fun L => okF F_Copy_told sc_Copy_told rfl rfl fun cdv A outer s H E hr => w_Copy_told L cdv A outer s H E hr
  have h_Copy_heard : ∀ {T : Tab} {j : Nat}, Lb P w K mg base (He.ga K "Copy") T j → FnOk P w K mg base (L2.CX P w) (j + 1) _ fd_Copy_heard p_Copy_heard (spT K (He.ga K "Copy") mg (runF T c_Copy_heard)) := fun L => okF F_Copy_heard sc_Copy_heard rfl rfl fun cdv A outer s H E hr => w_Copy_heard L cdv A outer s H E hr
  have h_at_rest : ∀ {T : Tab} {j : Nat}, Lb P w K mg base (He.ga K "Copy") T j → FnOk P w K mg base (L2.CX P w) (j + 1) _ fd_at_rest p_at_rest (spT K (He.ga K "Copy") mg (runF T c_at_rest)) := fun L => okF F_at_rest sc_at_rest rfl rfl fun cdv A outer s H E hr => w_at_rest L cdv A outer s H E hr
  have h_law_cell : ∀ {T : Tab} {j : Nat}, Lb P w K mg base (He.ga K "Copy") T j → FnOk P w K mg base (L2.CX P w) (j + 1) _ fd_law_cell p_law_cell (spT K (He.ga K "Copy") mg (runF T c_law_cell)) := fun L => okF F_law_cell sc_law_cell rfl rfl fun cdv A outer s H E hr => w_law_cell L cdv A outer s H E hr
  have h_law_mix : ∀ {T : Tab} {j : Nat}, Lb P w K mg base (He.ga K "Copy") T j → FnOk P w K mg base (L2.CX P w) (j + 1) _ fd_law_mix p_law_mix (spT K (He.ga K "Copy") mg (runF T c_law_mix)) := fun L => okF F_law_mix sc_law_mix rfl rfl fun cdv A outer s H E hr => w_law_mix L cdv A outer s H E hr
  have h_law_seed : ∀ {T : Tab} {j : Nat}, Lb P w K mg base (He.ga K "Copy") T j → FnOk P w K mg base (L2.CX P w) (j + 1) _ fd_law_seed p_law_seed (spT K (He.ga K "Copy") mg (runF T c_law_seed)) := fun L => okF F_law_seed sc_law_seed rfl rfl fun cdv A outer s H E hr => w_law_seed L cdv A outer s H E hr
  have h_law_pick : ∀ {T : Tab} {j : Nat}, Lb P w K mg base (He.ga K "Copy") T j → FnOk P w K mg base (L2.CX P w) (j + 1) _ fd_law_pick p_law_pick (spT K (He.ga K "Copy") mg (runF T c_law_pick)) := fun L => okF F_law_pick sc_law_pick rfl rfl fun cdv A outer s H E hr => w_law_pick L cdv A outer s H E hr
  have h_law_world : ∀ {T : Tab} {j : Nat}, Lb P w K mg base (He.ga K "Copy") T j → FnOk P w K mg base (L2.CX P w) (j + 1) _ fd_law_world p_law_world (spT K (He.ga K "Copy") mg (runF T c_law_world)) := fun L => okF F_law_world sc_law_world rfl rfl fun cdv A outer s H E hr => w_law_world L cdv A outer s H E hr
  have h_law_wish : ∀ {T : Tab} {j : Nat}, Lb P w K mg base (He.ga K "Copy") T j → FnOk P w K mg base (L2.CX P w) (j + 1) _ fd_law_wish p_law_wish (spT K (He.ga K "Copy") mg (runF T c_law_wish)) := fun L => okF F_law_wish sc_law_wish rfl rfl fun cdv A outer s H E hr => w_law_wish L cdv A outer s H E hr
  have h_law_refusal : ∀ {T : Tab} {j : Nat}, Lb P w K mg base (He.ga K "Copy") T j → FnOk P w K mg base (L2.CX P w) (j + 1) _ fd_law_refusal p_law_refusal (spT K (He.ga K "Copy") mg (runF T c_law_refusal)) := fun L => okF F_law_refusal sc_law_refusal rfl rfl fun cdv A outer s H E hr => w_law_refusal L cdv A outer s H E hr
  have h_law : ∀ {T : Tab} {j : Nat}, Lb P w K mg base (He.ga K "Copy") T j → FnOk P w K mg base (L2.CX P w) (j + 1) _ fd_law p_law (spT K (He.ga K "Copy") mg (runF T c_law)) := fun L => okF F_law sc_law rfl rfl fun cdv A outer s H E hr => w_law L cdv A outer s H E hr
  have kk_SIZES : Kd K w (He.ga K "SIZES") (fun k => prZ.kd "SIZES" k) := kd_of (kvs := kv_SIZES) (tab_of c.t 0) hx1 _ (by decide +kernel) (fun x hx => by simp only [kv_SIZES, List.map_cons, List.map_nil, List.mem_cons, List.not_mem_nil, or_false, not_or] at hx; exact kd_none_SIZES x hx)
  have nn_BadWorld : ∃ B0, mg "BadWorld" = some (.ref B0) ∧ ∀ c B, c ∈ errN → mg c = some (.ref B) → PySem.W.exmOne K (.ref B) (.ref B0) = some (isSub c "BadWorld") := by
    refine ⟨_, (He.glo_ok X G (c.t.d.fact 65 (f := .glo "BadWorld") rfl)), fun cc B hc hB => ?_⟩
    simp only [errN, List.mem_cons, List.not_mem_nil, or_false] at hc
    rcases hc with rfl | rfl | rfl | rfl | rfl | rfl | rfl | rfl | rfl
    · cases hB.symm.trans (He.glo_ok X G (c.t.d.fact 65 (f := .glo "BadWorld") rfl))
      exact (He.exm_ok (c.t.d.fact 79 (f := .exm "BadWorld" "BadWorld" true) rfl)).trans (by decide +kernel)
    · cases hB.symm.trans (He.glo_ok X G (c.t.d.fact 67 (f := .glo "BadWish") rfl))
      exact (He.exm_ok (c.t.d.fact 80 (f := .exm "BadWish" "BadWorld" false) rfl)).trans (by decide +kernel)
    · cases hB.symm.trans (He.glo_ok X G (c.t.d.fact 69 (f := .glo "BadCopy") rfl))
      exact (He.exm_ok (c.t.d.fact 81 (f := .exm "BadCopy" "BadWorld" false) rfl)).trans (by decide +kernel)
    · exact absurd (hB.symm.trans (He.free_ok X G (c.t.d.fact 37 (f := .free "BadWord") rfl))) (fun z => nomatch z)
    · cases hB.symm.trans (He.glo_ok X G (c.t.d.fact 71 (f := .glo "NoBooking") rfl))
      exact (He.exm_ok (c.t.d.fact 82 (f := .exm "NoBooking" "BadWorld" false) rfl)).trans (by decide +kernel)
    · cases hB.symm.trans (He.glo_ok X G (c.t.d.fact 73 (f := .glo "Full") rfl))
      exact (He.exm_ok (c.t.d.fact 83 (f := .exm "Full" "BadWorld" false) rfl)).trans (by decide +kernel)
    · cases hB.symm.trans (He.glo_ok X G (c.t.d.fact 75 (f := .glo "BadFacts") rfl))
      exact (He.exm_ok (c.t.d.fact 84 (f := .exm "BadFacts" "BadWorld" false) rfl)).trans (by decide +kernel)
    · exact absurd (hB.symm.trans (He.free_ok X G (c.t.d.fact 38 (f := .free "BadDeed") rfl))) (fun z => nomatch z)
    · exact absurd (hB.symm.trans (He.free_ok X G (c.t.d.fact 39 (f := .free "BadText") rfl))) (fun z => nomatch z)
  have nn_BadCopy : ∃ B0, mg "BadCopy" = some (.ref B0) ∧ ∀ c B, c ∈ errN → mg c = some (.ref B) → PySem.W.exmOne K (.ref B) (.ref B0) = some (isSub c "BadCopy") := by
    refine ⟨_, (He.glo_ok X G (c.t.d.fact 69 (f := .glo "BadCopy") rfl)), fun cc B hc hB => ?_⟩
    simp only [errN, List.mem_cons, List.not_mem_nil, or_false] at hc
    rcases hc with rfl | rfl | rfl | rfl | rfl | rfl | rfl | rfl | rfl
    · cases hB.symm.trans (He.glo_ok X G (c.t.d.fact 65 (f := .glo "BadWorld") rfl))
      exact (He.exm_ok (c.t.d.fact 85 (f := .exm "BadWorld" "BadCopy" false) rfl)).trans (by decide +kernel)
    · cases hB.symm.trans (He.glo_ok X G (c.t.d.fact 67 (f := .glo "BadWish") rfl))
      exact (He.exm_ok (c.t.d.fact 86 (f := .exm "BadWish" "BadCopy" false) rfl)).trans (by decide +kernel)
    · cases hB.symm.trans (He.glo_ok X G (c.t.d.fact 69 (f := .glo "BadCopy") rfl))
      exact (He.exm_ok (c.t.d.fact 87 (f := .exm "BadCopy" "BadCopy" true) rfl)).trans (by decide +kernel)
    · exact absurd (hB.symm.trans (He.free_ok X G (c.t.d.fact 37 (f := .free "BadWord") rfl))) (fun z => nomatch z)
    · cases hB.symm.trans (He.glo_ok X G (c.t.d.fact 71 (f := .glo "NoBooking") rfl))
      exact (He.exm_ok (c.t.d.fact 88 (f := .exm "NoBooking" "BadCopy" false) rfl)).trans (by decide +kernel)
    · cases hB.symm.trans (He.glo_ok X G (c.t.d.fact 73 (f := .glo "Full") rfl))
      exact (He.exm_ok (c.t.d.fact 89 (f := .exm "Full" "BadCopy" false) rfl)).trans (by decide +kernel)
    · cases hB.symm.trans (He.glo_ok X G (c.t.d.fact 75 (f := .glo "BadFacts") rfl))
      exact (He.exm_ok (c.t.d.fact 90 (f := .exm "BadFacts" "BadCopy" false) rfl)).trans (by decide +kernel)
    · exact absurd (hB.symm.trans (He.free_ok X G (c.t.d.fact 38 (f := .free "BadDeed") rfl))) (fun z => nomatch z)
    · exact absurd (hB.symm.trans (He.free_ok X G (c.t.d.fact 39 (f := .free "BadText") rfl))) (fun z => nomatch z)
  have nn_BadWish : ∃ B0, mg "BadWish" = some (.ref B0) ∧ ∀ c B, c ∈ errN → mg c = some (.ref B) → PySem.W.exmOne K (.ref B) (.ref B0) = some (isSub c "BadWish") := by
    refine ⟨_, (He.glo_ok X G (c.t.d.fact 67 (f := .glo "BadWish") rfl)), fun cc B hc hB => ?_⟩
    simp only [errN, List.mem_cons, List.not_mem_nil, or_false] at hc
    rcases hc with rfl | rfl | rfl | rfl | rfl | rfl | rfl | rfl | rfl
    · cases hB.symm.trans (He.glo_ok X G (c.t.d.fact 65 (f := .glo "BadWorld") rfl))
      exact (He.exm_ok (c.t.d.fact 91 (f := .exm "BadWorld" "BadWish" false) rfl)).trans (by decide +kernel)
    · cases hB.symm.trans (He.glo_ok X G (c.t.d.fact 67 (f := .glo "BadWish") rfl))
      exact (He.exm_ok (c.t.d.fact 92 (f := .exm "BadWish" "BadWish" true) rfl)).trans (by decide +kernel)
    · cases hB.symm.trans (He.glo_ok X G (c.t.d.fact 69 (f := .glo "BadCopy") rfl))
      exact (He.exm_ok (c.t.d.fact 93 (f := .exm "BadCopy" "BadWish" false) rfl)).trans (by decide +kernel)
    · exact absurd (hB.symm.trans (He.free_ok X G (c.t.d.fact 37 (f := .free "BadWord") rfl))) (fun z => nomatch z)
    · cases hB.symm.trans (He.glo_ok X G (c.t.d.fact 71 (f := .glo "NoBooking") rfl))
      exact (He.exm_ok (c.t.d.fact 94 (f := .exm "NoBooking" "BadWish" false) rfl)).trans (by decide +kernel)
    · cases hB.symm.trans (He.glo_ok X G (c.t.d.fact 73 (f := .glo "Full") rfl))
      exact (He.exm_ok (c.t.d.fact 95 (f := .exm "Full" "BadWish" false) rfl)).trans (by decide +kernel)
    · cases hB.symm.trans (He.glo_ok X G (c.t.d.fact 75 (f := .glo "BadFacts") rfl))
      exact (He.exm_ok (c.t.d.fact 96 (f := .exm "BadFacts" "BadWish" false) rfl)).trans (by decide +kernel)
    · exact absurd (hB.symm.trans (He.free_ok X G (c.t.d.fact 38 (f := .free "BadDeed") rfl))) (fun z => nomatch z)
    · exact absurd (hB.symm.trans (He.free_ok X G (c.t.d.fact 39 (f := .free "BadText") rfl))) (fun z => nomatch z)
  have nn_BadFacts : ∃ B0, mg "BadFacts" = some (.ref B0) ∧ ∀ c B, c ∈ errN → mg c = some (.ref B) → PySem.W.exmOne K (.ref B) (.ref B0) = some (isSub c "BadFacts") := by
    refine ⟨_, (He.glo_ok X G (c.t.d.fact 75 (f := .glo "BadFacts") rfl)), fun cc B hc hB => ?_⟩
    simp only [errN, List.mem_cons, List.not_mem_nil, or_false] at hc
    rcases hc with rfl | rfl | rfl | rfl | rfl | rfl | rfl | rfl | rfl
    · cases hB.symm.trans (He.glo_ok X G (c.t.d.fact 65 (f := .glo "BadWorld") rfl))
      exact (He.exm_ok (c.t.d.fact 97 (f := .exm "BadWorld" "BadFacts" false) rfl)).trans (by decide +kernel)
    · cases hB.symm.trans (He.glo_ok X G (c.t.d.fact 67 (f := .glo "BadWish") rfl))
      exact (He.exm_ok (c.t.d.fact 98 (f := .exm "BadWish" "BadFacts" false) rfl)).trans (by decide +kernel)
    · cases hB.symm.trans (He.glo_ok X G (c.t.d.fact 69 (f := .glo "BadCopy") rfl))
      exact (He.exm_ok (c.t.d.fact 99 (f := .exm "BadCopy" "BadFacts" false) rfl)).trans (by decide +kernel)
    · exact absurd (hB.symm.trans (He.free_ok X G (c.t.d.fact 37 (f := .free "BadWord") rfl))) (fun z => nomatch z)
    · cases hB.symm.trans (He.glo_ok X G (c.t.d.fact 71 (f := .glo "NoBooking") rfl))
      exact (He.exm_ok (c.t.d.fact 100 (f := .exm "NoBooking" "BadFacts" false) rfl)).trans (by decide +kernel)
    · cases hB.symm.trans (He.glo_ok X G (c.t.d.fact 73 (f := .glo "Full") rfl))
      exact (He.exm_ok (c.t.d.fact 101 (f := .exm "Full" "BadFacts" false) rfl)).trans (by decide +kernel)
    · cases hB.symm.trans (He.glo_ok X G (c.t.d.fact 75 (f := .glo "BadFacts") rfl))
      exact (He.exm_ok (c.t.d.fact 102 (f := .exm "BadFacts" "BadFacts" true) rfl)).trans (by decide +kernel)
    · exact absurd (hB.symm.trans (He.free_ok X G (c.t.d.fact 38 (f := .free "BadDeed") rfl))) (fun z => nomatch z)
    · exact absurd (hB.symm.trans (He.free_ok X G (c.t.d.fact 39 (f := .free "BadText") rfl))) (fun z => nomatch z)
  have nn_NoBooking : ∃ B0, mg "NoBooking" = some (.ref B0) ∧ ∀ c B, c ∈ errN → mg c = some (.ref B) → PySem.W.exmOne K (.ref B) (.ref B0) = some (isSub c "NoBooking") := by
    refine ⟨_, (He.glo_ok X G (c.t.d.fact 71 (f := .glo "NoBooking") rfl)), fun cc B hc hB => ?_⟩
    simp only [errN, List.mem_cons, List.not_mem_nil, or_false] at hc
    rcases hc with rfl | rfl | rfl | rfl | rfl | rfl | rfl | rfl | rfl
    · cases hB.symm.trans (He.glo_ok X G (c.t.d.fact 65 (f := .glo "BadWorld") rfl))
      exact (He.exm_ok (c.t.d.fact 103 (f := .exm "BadWorld" "NoBooking" false) rfl)).trans (by decide +kernel)
    · cases hB.symm.trans (He.glo_ok X G (c.t.d.fact 67 (f := .glo "BadWish") rfl))
      exact (He.exm_ok (c.t.d.fact 104 (f := .exm "BadWish" "NoBooking" false) rfl)).trans (by decide +kernel)
    · cases hB.symm.trans (He.glo_ok X G (c.t.d.fact 69 (f := .glo "BadCopy") rfl))
      exact (He.exm_ok (c.t.d.fact 105 (f := .exm "BadCopy" "NoBooking" false) rfl)).trans (by decide +kernel)
    · exact absurd (hB.symm.trans (He.free_ok X G (c.t.d.fact 37 (f := .free "BadWord") rfl))) (fun z => nomatch z)
    · cases hB.symm.trans (He.glo_ok X G (c.t.d.fact 71 (f := .glo "NoBooking") rfl))
      exact (He.exm_ok (c.t.d.fact 106 (f := .exm "NoBooking" "NoBooking" true) rfl)).trans (by decide +kernel)
    · cases hB.symm.trans (He.glo_ok X G (c.t.d.fact 73 (f := .glo "Full") rfl))
      exact (He.exm_ok (c.t.d.fact 107 (f := .exm "Full" "NoBooking" false) rfl)).trans (by decide +kernel)
    · cases hB.symm.trans (He.glo_ok X G (c.t.d.fact 75 (f := .glo "BadFacts") rfl))
      exact (He.exm_ok (c.t.d.fact 108 (f := .exm "BadFacts" "NoBooking" false) rfl)).trans (by decide +kernel)
    · exact absurd (hB.symm.trans (He.free_ok X G (c.t.d.fact 38 (f := .free "BadDeed") rfl))) (fun z => nomatch z)
    · exact absurd (hB.symm.trans (He.free_ok X G (c.t.d.fact 39 (f := .free "BadText") rfl))) (fun z => nomatch z)
  have all : ∀ n, Lb P w K mg base (He.ga K "Copy") (tabZ prZ n) (n + 2) ∧ Fk P w K mg base (n + 2) (He.ga K "Copy") "Copy" (spT K (He.ga K "Copy") mg (callF prZ n "__init__")) := by
    intro n
    induction n with
    | zero => exact ⟨⟨(He.free_ok X G (c.t.d.fact 20 (f := .free "len") rfl)), (He.free_ok X G (c.t.d.fact 21 (f := .free "isinstance") rfl)), (He.free_ok X G (c.t.d.fact 22 (f := .free "int") rfl)), (He.free_ok X G (c.t.d.fact 23 (f := .free "bool") rfl)), (He.free_ok X G (c.t.d.fact 24 (f := .free "str") rfl)), (He.free_ok X G (c.t.d.fact 25 (f := .free "tuple") rfl)), (He.free_ok X G (c.t.d.fact 26 (f := .free "list") rfl)), (He.free_ok X G (c.t.d.fact 27 (f := .free "dict") rfl)), (He.free_ok X G (c.t.d.fact 28 (f := .free "set") rfl)), (He.free_ok X G (c.t.d.fact 29 (f := .free "range") rfl)), (He.free_ok X G (c.t.d.fact 30 (f := .free "sorted") rfl)), (He.free_ok X G (c.t.d.fact 31 (f := .free "max") rfl)), (He.free_ok X G (c.t.d.fact 32 (f := .free "min") rfl)), (He.free_ok X G (c.t.d.fact 33 (f := .free "abs") rfl)), (He.free_ok X G (c.t.d.fact 34 (f := .free "enumerate") rfl)), (He.free_ok X G (c.t.d.fact 35 (f := .free "zip") rfl)), (He.free_ok X G (c.t.d.fact 36 (f := .free "sum") rfl)), ⟨(He.int_ok X G (c.t.d.fact 40 (f := .int "HOURS" 24) rfl)), rfl⟩, ⟨(He.int_ok X G (c.t.d.fact 41 (f := .int "MOST_COPIES" 5) rfl)), rfl⟩, ⟨(He.int_ok X G (c.t.d.fact 42 (f := .int "MOST_ROOMS" 3) rfl)), rfl⟩, ⟨(He.int_ok X G (c.t.d.fact 43 (f := .int "MOST_LONG" 6) rfl)), rfl⟩, ⟨(He.int_ok X G (c.t.d.fact 44 (f := .int "MOST_WISHES" 12) rfl)), rfl⟩, ⟨(He.int_ok X G (c.t.d.fact 45 (f := .int "MOST_CLOCK" 9999) rfl)), rfl⟩, ⟨⟨_, (He.glo_ok X G (c.t.d.fact 47 (f := .glo "KEYS") rfl)), fun H => strs_of (ss := tu_KEYS) hx0 H⟩, rfl⟩, ⟨(He.str_ok X G (c.t.d.fact 46 (f := .str "SMALL" st_SMALL) rfl)), rfl⟩, ⟨_, (He.glo_ok X G (c.t.d.fact 48 (f := .glo "SIZES") rfl)), kk_SIZES⟩, He.cls_ok (c.t.d.fact 50 (f := .cls "Copy") rfl), He.noat_ok (c.t.d.fact 52 (f := .noat "Copy" "world") rfl), He.noat_ok (c.t.d.fact 53 (f := .noat "Copy" "mine") rfl), He.noat_ok (c.t.d.fact 54 (f := .noat "Copy" "facts") rfl), He.noat_ok (c.t.d.fact 55 (f := .noat "Copy" "clock") rfl), He.noat_ok (c.t.d.fact 56 (f := .noat "Copy" "own") rfl), He.noat_ok (c.t.d.fact 57 (f := .noat "Copy" "seen") rfl), ⟨_, TBadWorld⟩, ⟨_, TBadWish⟩, ⟨_, TBadCopy⟩, ⟨_, TNoBooking⟩, ⟨_, TFull⟩, ⟨_, TBadFacts⟩, nn_BadWorld, nn_BadCopy, nn_BadWish, nn_BadFacts, nn_NoBooking, fc_mk (x := "is_within") (okNo) (He.glo_ok X G (c.t.d.fact 0 (f := .glo "is_within") rfl)) F_is_within.kp b_is_within, fc_mk (x := "is_world") (okNo) (He.glo_ok X G (c.t.d.fact 1 (f := .glo "is_world") rfl)) F_is_world.kp b_is_world, fc_mk (x := "look_world") (okNo) (He.glo_ok X G (c.t.d.fact 2 (f := .glo "look_world") rfl)) F_look_world.kp b_look_world, fc_mk (x := "is_name") (okNo) (He.glo_ok X G (c.t.d.fact 3 (f := .glo "is_name") rfl)) F_is_name.kp b_is_name, fc_mk (x := "is_place") (okNo) (He.glo_ok X G (c.t.d.fact 4 (f := .glo "is_place") rfl)) F_is_place.kp b_is_place, fc_mk (x := "is_wish") (okNo) (He.glo_ok X G (c.t.d.fact 5 (f := .glo "is_wish") rfl)) F_is_wish.kp b_is_wish, fc_mk (x := "look_wish") (okNo) (He.glo_ok X G (c.t.d.fact 6 (f := .glo "look_wish") rfl)) F_look_wish.kp b_look_wish, fc_mk (x := "is_booking") (okNo) (He.glo_ok X G (c.t.d.fact 7 (f := .glo "is_booking") rfl)) F_is_booking.kp b_is_booking, fc_mk (x := "is_fact") (okNo) (He.glo_ok X G (c.t.d.fact 8 (f := .glo "is_fact") rfl)) F_is_fact.kp b_is_fact, fc_mk (x := "look_facts") (okNo) (He.glo_ok X G (c.t.d.fact 9 (f := .glo "look_facts") rfl)) F_look_facts.kp b_look_facts, fc_mk (x := "wishes_in") (okNo) (He.glo_ok X G (c.t.d.fact 10 (f := .glo "wishes_in") rfl)) F_wishes_in.kp b_wishes_in, ⟨_, _, _, okNo, He.meth_ok (c.t.d.fact 58 (f := .meth "Copy" "put") rfl), b_Copy_put⟩, ⟨_, _, _, okNo, He.meth_ok (c.t.d.fact 59 (f := .meth "Copy" "tick") rfl), b_Copy_tick⟩, ⟨_, _, _, okNo, He.meth_ok (c.t.d.fact 60 (f := .meth "Copy" "look_known") rfl), b_Copy_look_known⟩, ⟨_, _, _, okNo, He.meth_ok (c.t.d.fact 61 (f := .meth "Copy" "wish") rfl), b_Copy_wish⟩, ⟨_, _, _, okNo, He.meth_ok (c.t.d.fact 62 (f := .meth "Copy" "off") rfl), b_Copy_off⟩, ⟨_, _, _, okNo, He.meth_ok (c.t.d.fact 63 (f := .meth "Copy" "told") rfl), b_Copy_told⟩, ⟨_, _, _, okNo, He.meth_ok (c.t.d.fact 64 (f := .meth "Copy" "heard") rfl), b_Copy_heard⟩, fc_mk (x := "at_rest") (okNo) (He.glo_ok X G (c.t.d.fact 11 (f := .glo "at_rest") rfl)) F_at_rest.kp b_at_rest, fc_mk (x := "_law_cell") (okNo) (He.glo_ok X G (c.t.d.fact 12 (f := .glo "_law_cell") rfl)) F_law_cell.kp b_law_cell, fc_mk (x := "_law_mix") (okNo) (He.glo_ok X G (c.t.d.fact 13 (f := .glo "_law_mix") rfl)) F_law_mix.kp b_law_mix, fc_mk (x := "_law_seed") (okNo) (He.glo_ok X G (c.t.d.fact 14 (f := .glo "_law_seed") rfl)) F_law_seed.kp b_law_seed, fc_mk (x := "_law_pick") (okNo) (He.glo_ok X G (c.t.d.fact 15 (f := .glo "_law_pick") rfl)) F_law_pick.kp b_law_pick, fc_mk (x := "_law_world") (okNo) (He.glo_ok X G (c.t.d.fact 16 (f := .glo "_law_world") rfl)) F_law_world.kp b_law_world, fc_mk (x := "_law_wish") (okNo) (He.glo_ok X G (c.t.d.fact 17 (f := .glo "_law_wish") rfl)) F_law_wish.kp b_law_wish, fc_mk (x := "_law_refusal") (okNo) (He.glo_ok X G (c.t.d.fact 18 (f := .glo "_law_refusal") rfl)) F_law_refusal.kp b_law_refusal, fc_mk (x := "law") (okNo) (He.glo_ok X G (c.t.d.fact 19 (f := .glo "law") rfl)) F_law.kp b_law, ⟨0, by omega, ⟨_, _, _, okNo, He.mkr_ok (c.t.d.fact 51 (f := .mkr "Copy") rfl), b_Copy_init, (He.glo_ok X G (c.t.d.fact 49 (f := .glo "Copy") rfl))⟩⟩⟩, ⟨_, _, _, okNo, He.mkr_ok (c.t.d.fact 51 (f := .mkr "Copy") rfl), b_Copy_init, (He.glo_ok X G (c.t.d.fact 49 (f := .glo "Copy") rfl))⟩⟩
    | succ n ih =>
      obtain ⟨L, Hk⟩ := ih
      have q_is_within := h_is_within L
      rw [← z_is_within n] at q_is_within
      have q_is_world := h_is_world L
      rw [← z_is_world n] at q_is_world
      have q_look_world := h_look_world L
      rw [← z_look_world n] at q_look_world
      have q_is_name := h_is_name L
      rw [← z_is_name n] at q_is_name
      have q_is_place := h_is_place L
      rw [← z_is_place n] at q_is_place
      have q_is_wish := h_is_wish L
      rw [← z_is_wish n] at q_is_wish
      have q_look_wish := h_look_wish L
      rw [← z_look_wish n] at q_look_wish
      have q_is_booking := h_is_booking L
      rw [← z_is_booking n] at q_is_booking
      have q_is_fact := h_is_fact L
      rw [← z_is_fact n] at q_is_fact
      have q_look_facts := h_look_facts L
      rw [← z_look_facts n] at q_look_facts
      have q_wishes_in := h_wishes_in L
      rw [← z_wishes_in n] at q_wishes_in
      have q_Copy_init := h_Copy_init L
      rw [← z_Copy_init n] at q_Copy_init
      have q_Copy_put := h_Copy_put L
      rw [← z_Copy_put n] at q_Copy_put
      have q_Copy_tick := h_Copy_tick L
      rw [← z_Copy_tick n] at q_Copy_tick
      have q_Copy_look_known := h_Copy_look_known L
      rw [← z_Copy_look_known n] at q_Copy_look_known
      have q_Copy_wish := h_Copy_wish L
      rw [← z_Copy_wish n] at q_Copy_wish
      have q_Copy_off := h_Copy_off L
      rw [← z_Copy_off n] at q_Copy_off
      have q_Copy_told := h_Copy_told L
      rw [← z_Copy_told n] at q_Copy_told
      have q_Copy_heard := h_Copy_heard L
      rw [← z_Copy_heard n] at q_Copy_heard
      have q_at_rest := h_at_rest L
      rw [← z_at_rest n] at q_at_rest
      have q_law_cell := h_law_cell L
      rw [← z_law_cell n] at q_law_cell
      have q_law_mix := h_law_mix L
      rw [← z_law_mix n] at q_law_mix
      have q_law_seed := h_law_seed L
      rw [← z_law_seed n] at q_law_seed
      have q_law_pick := h_law_pick L
      rw [← z_law_pick n] at q_law_pick
      have q_law_world := h_law_world L
      rw [← z_law_world n] at q_law_world
      have q_law_wish := h_law_wish L
      rw [← z_law_wish n] at q_law_wish
      have q_law_refusal := h_law_refusal L
      rw [← z_law_refusal n] at q_law_refusal
      have q_law := h_law L
      rw [← z_law n] at q_law
      exact ⟨⟨(He.free_ok X G (c.t.d.fact 20 (f := .free "len") rfl)), (He.free_ok X G (c.t.d.fact 21 (f := .free "isinstance") rfl)), (He.free_ok X G (c.t.d.fact 22 (f := .free "int") rfl)), (He.free_ok X G (c.t.d.fact 23 (f := .free "bool") rfl)), (He.free_ok X G (c.t.d.fact 24 (f := .free "str") rfl)), (He.free_ok X G (c.t.d.fact 25 (f := .free "tuple") rfl)), (He.free_ok X G (c.t.d.fact 26 (f := .free "list") rfl)), (He.free_ok X G (c.t.d.fact 27 (f := .free "dict") rfl)), (He.free_ok X G (c.t.d.fact 28 (f := .free "set") rfl)), (He.free_ok X G (c.t.d.fact 29 (f := .free "range") rfl)), (He.free_ok X G (c.t.d.fact 30 (f := .free "sorted") rfl)), (He.free_ok X G (c.t.d.fact 31 (f := .free "max") rfl)), (He.free_ok X G (c.t.d.fact 32 (f := .free "min") rfl)), (He.free_ok X G (c.t.d.fact 33 (f := .free "abs") rfl)), (He.free_ok X G (c.t.d.fact 34 (f := .free "enumerate") rfl)), (He.free_ok X G (c.t.d.fact 35 (f := .free "zip") rfl)), (He.free_ok X G (c.t.d.fact 36 (f := .free "sum") rfl)), ⟨(He.int_ok X G (c.t.d.fact 40 (f := .int "HOURS" 24) rfl)), rfl⟩, ⟨(He.int_ok X G (c.t.d.fact 41 (f := .int "MOST_COPIES" 5) rfl)), rfl⟩, ⟨(He.int_ok X G (c.t.d.fact 42 (f := .int "MOST_ROOMS" 3) rfl)), rfl⟩, ⟨(He.int_ok X G (c.t.d.fact 43 (f := .int "MOST_LONG" 6) rfl)), rfl⟩, ⟨(He.int_ok X G (c.t.d.fact 44 (f := .int "MOST_WISHES" 12) rfl)), rfl⟩, ⟨(He.int_ok X G (c.t.d.fact 45 (f := .int "MOST_CLOCK" 9999) rfl)), rfl⟩, ⟨⟨_, (He.glo_ok X G (c.t.d.fact 47 (f := .glo "KEYS") rfl)), fun H => strs_of (ss := tu_KEYS) hx0 H⟩, rfl⟩, ⟨(He.str_ok X G (c.t.d.fact 46 (f := .str "SMALL" st_SMALL) rfl)), rfl⟩, ⟨_, (He.glo_ok X G (c.t.d.fact 48 (f := .glo "SIZES") rfl)), kk_SIZES⟩, He.cls_ok (c.t.d.fact 50 (f := .cls "Copy") rfl), He.noat_ok (c.t.d.fact 52 (f := .noat "Copy" "world") rfl), He.noat_ok (c.t.d.fact 53 (f := .noat "Copy" "mine") rfl), He.noat_ok (c.t.d.fact 54 (f := .noat "Copy" "facts") rfl), He.noat_ok (c.t.d.fact 55 (f := .noat "Copy" "clock") rfl), He.noat_ok (c.t.d.fact 56 (f := .noat "Copy" "own") rfl), He.noat_ok (c.t.d.fact 57 (f := .noat "Copy" "seen") rfl), ⟨_, TBadWorld⟩, ⟨_, TBadWish⟩, ⟨_, TBadCopy⟩, ⟨_, TNoBooking⟩, ⟨_, TFull⟩, ⟨_, TBadFacts⟩, nn_BadWorld, nn_BadCopy, nn_BadWish, nn_BadFacts, nn_NoBooking, fc_mk (x := "is_within") (q_is_within) (He.glo_ok X G (c.t.d.fact 0 (f := .glo "is_within") rfl)) F_is_within.kp b_is_within, fc_mk (x := "is_world") (q_is_world) (He.glo_ok X G (c.t.d.fact 1 (f := .glo "is_world") rfl)) F_is_world.kp b_is_world, fc_mk (x := "look_world") (q_look_world) (He.glo_ok X G (c.t.d.fact 2 (f := .glo "look_world") rfl)) F_look_world.kp b_look_world, fc_mk (x := "is_name") (q_is_name) (He.glo_ok X G (c.t.d.fact 3 (f := .glo "is_name") rfl)) F_is_name.kp b_is_name, fc_mk (x := "is_place") (q_is_place) (He.glo_ok X G (c.t.d.fact 4 (f := .glo "is_place") rfl)) F_is_place.kp b_is_place, fc_mk (x := "is_wish") (q_is_wish) (He.glo_ok X G (c.t.d.fact 5 (f := .glo "is_wish") rfl)) F_is_wish.kp b_is_wish, fc_mk (x := "look_wish") (q_look_wish) (He.glo_ok X G (c.t.d.fact 6 (f := .glo "look_wish") rfl)) F_look_wish.kp b_look_wish, fc_mk (x := "is_booking") (q_is_booking) (He.glo_ok X G (c.t.d.fact 7 (f := .glo "is_booking") rfl)) F_is_booking.kp b_is_booking, fc_mk (x := "is_fact") (q_is_fact) (He.glo_ok X G (c.t.d.fact 8 (f := .glo "is_fact") rfl)) F_is_fact.kp b_is_fact, fc_mk (x := "look_facts") (q_look_facts) (He.glo_ok X G (c.t.d.fact 9 (f := .glo "look_facts") rfl)) F_look_facts.kp b_look_facts, fc_mk (x := "wishes_in") (q_wishes_in) (He.glo_ok X G (c.t.d.fact 10 (f := .glo "wishes_in") rfl)) F_wishes_in.kp b_wishes_in, ⟨_, _, _, q_Copy_put, He.meth_ok (c.t.d.fact 58 (f := .meth "Copy" "put") rfl), b_Copy_put⟩, ⟨_, _, _, q_Copy_tick, He.meth_ok (c.t.d.fact 59 (f := .meth "Copy" "tick") rfl), b_Copy_tick⟩, ⟨_, _, _, q_Copy_look_known, He.meth_ok (c.t.d.fact 60 (f := .meth "Copy" "look_known") rfl), b_Copy_look_known⟩, ⟨_, _, _, q_Copy_wish, He.meth_ok (c.t.d.fact 61 (f := .meth "Copy" "wish") rfl), b_Copy_wish⟩, ⟨_, _, _, q_Copy_off, He.meth_ok (c.t.d.fact 62 (f := .meth "Copy" "off") rfl), b_Copy_off⟩, ⟨_, _, _, q_Copy_told, He.meth_ok (c.t.d.fact 63 (f := .meth "Copy" "told") rfl), b_Copy_told⟩, ⟨_, _, _, q_Copy_heard, He.meth_ok (c.t.d.fact 64 (f := .meth "Copy" "heard") rfl), b_Copy_heard⟩, fc_mk (x := "at_rest") (q_at_rest) (He.glo_ok X G (c.t.d.fact 11 (f := .glo "at_rest") rfl)) F_at_rest.kp b_at_rest, fc_mk (x := "_law_cell") (q_law_cell) (He.glo_ok X G (c.t.d.fact 12 (f := .glo "_law_cell") rfl)) F_law_cell.kp b_law_cell, fc_mk (x := "_law_mix") (q_law_mix) (He.glo_ok X G (c.t.d.fact 13 (f := .glo "_law_mix") rfl)) F_law_mix.kp b_law_mix, fc_mk (x := "_law_seed") (q_law_seed) (He.glo_ok X G (c.t.d.fact 14 (f := .glo "_law_seed") rfl)) F_law_seed.kp b_law_seed, fc_mk (x := "_law_pick") (q_law_pick) (He.glo_ok X G (c.t.d.fact 15 (f := .glo "_law_pick") rfl)) F_law_pick.kp b_law_pick, fc_mk (x := "_law_world") (q_law_world) (He.glo_ok X G (c.t.d.fact 16 (f := .glo "_law_world") rfl)) F_law_world.kp b_law_world, fc_mk (x := "_law_wish") (q_law_wish) (He.glo_ok X G (c.t.d.fact 17 (f := .glo "_law_wish") rfl)) F_law_wish.kp b_law_wish, fc_mk (x := "_law_refusal") (q_law_refusal) (He.glo_ok X G (c.t.d.fact 18 (f := .glo "_law_refusal") rfl)) F_law_refusal.kp b_law_refusal, fc_mk (x := "law") (q_law) (He.glo_ok X G (c.t.d.fact 19 (f := .glo "law") rfl)) F_law.kp b_law, ⟨n + 2, Nat.le_refl _, Hk⟩⟩, ⟨_, _, _, q_Copy_init, He.mkr_ok (c.t.d.fact 51 (f := .mkr "Copy") rfl), b_Copy_init, (He.glo_ok X G (c.t.d.fact 49 (f := .glo "Copy") rfl))⟩⟩
  have q := h_law (all 13).1
  rw [← z_law 13] at q
  exact q
def cpA (K : PySem.W.Frag) : Addr := He.ga K "Copy"
end Fb
open PySem
open PySem PySem.W PySem.Calls PyProof.Rows in
set_option maxRecDepth 100000 in
set_option maxHeartbeats 0 in
theorem PySem.Challenge.cw_farbook_k14_odd_facts_holds : PySem.Challenge.rw_farbook_k14_odd_facts.Holds := by
  w_on; o_law
  refine HandSHeadRun.head_any (r := OpenLaw.row PySem.Challenge.rw_farbook_k14_odd_facts) (q := view (OpenLaw.row PySem.Challenge.rw_farbook_k14_odd_facts).prog [50]) (H := Fb.hk) (ob := Fb.ob) (M := 20000) (loose := Fb.looseL) (d := HandSHeadRun.topDef (OpenLaw.row PySem.Challenge.rw_farbook_k14_odd_facts).prog 50) (kwd := []) Fb.ob_eq
    (by kernel_rfl) (fun s => by kernel_rfl) Fb.run (by kernel_rfl) (by kernel_rfl) (by kernel_rfl) (by rfl) (by first | assumption | decide +kernel) (by decide +kernel) ⟨rfl, rfl, rfl, rfl, rfl, by decide +kernel⟩ ?hw ?hc
  case hw => w_witness2
  case hc =>
    refine Fb.walkF (l := PySem.Challenge.rw_farbook_k14_odd_facts) (n := 63) (k := 16) (x := "script") rfl (by decide) (by kernel_rfl) ⟨rfl, by decide, by decide⟩ ?F
    intro w mg fa h Y G hmg0
    obtain ⟨K, KX, c⟩ := Y
    have hmg : mg ("law" : PySem.Str) = some (.ref fa) := by
      have e : (HandSHeadRun.topDef (OpenLaw.row PySem.Challenge.rw_farbook_k14_odd_facts).prog 50).name = ("law" : PySem.Str) := by kernel_rfl
      rw [← e]
      exact hmg0
    obtain ⟨fd, hb, hF⟩ := Fb.facts (P := (PySem.Challenge.rw_farbook_k14_odd_facts).prog) (w := w) KX G hmg c
    exact ⟨K, fd, Fb.spT K (Fb.cpA K) mg (Fb.callF Fb.prZ 14 "law"), KX, hb, fun H a ns hl _ hS => Fb.sp_law (Fb.law_ev ns hl) hS, hF⟩
