import PyProof.Rows.All
import Wide.All
import OpenK.AllK
import Wide.FinOn
import HandS.ForMost
import HandS.ForExc
import HandS.TryMany
import HandS.Deep
import HandS.IsInst
import HandS.TupAny
import HandS.Conv
import HandS.Style
import HandS.Evl
import HandS.Flow
import HandS.Text
import HandS.More
import HandS.Strs
import HandS.Dict
import HandS.Iter
import KE.KDictPairs
import HandS.Sort
import KE.GoesEnum
import HandS.Codes
import KE.KStateDown
import HandS.Ends
import HandS.Defaults
import HandS.Head0
import HandS.Head1
import HandS.Head2
import HandS.HeadEnd
import HandS.HeadHook1
import HandS.HeadHook2
import HandS.HeadHook3
import HandS.HeadHook4
import HandS.SortRule
import KE.SortCalls
import KE.DataMinMax
import KE.KDictSum
import PySem.Challenge.RW_farbook_k09_refused
set_option Elab.async false
set_option linter.all false
set_option maxRecDepth 100000
set_option maxHeartbeats 4000000
/-! FbA: a layer of my own over HandS: every piece of syntax has one canonical reading (wE, wT, ..); what is pure is told by data alone: Pv X e r d: in an environment of data r the expression e gives the datum d, and the heap only grows. -/
namespace Fb
open PySem L2 Evl

/-! ### canonical readings -/
section
variable {X : Cx} {e : Expr} {es : List Expr} {st : Stmt} {sts : List Stmt} {s : L2.St} {H : Hp}
def wE (X : Cx) (e : Expr) : TE := fun σ H Q => ∀ (pins : List (Addr × Obj)) (s : Shared), L2.Inv X pins σ H s → wpAny (model X.prog X.w) X.A (eval e X.env) (EP X pins σ Q) X.xe s
def wT (X : Cx) (e : Expr) : TT := fun σ H Q => ∀ (pins : List (Addr × Obj)) (s : Shared), L2.Inv X pins σ H s → wpAny (model X.prog X.w) X.A (isTrue e X.env (eval e X.env)) (TP X pins σ Q) X.xe s
def wW (X : Cx) (e : Expr) : TT := fun σ H Q => ∀ (whole : Sem Value) (pins : List (Addr × Obj)) (s : Shared), L2.Inv X pins σ H s → wpAny (model X.prog X.w) X.A (isTrue e X.env whole) (TP X pins σ Q) X.xe s
def wA (X : Cx) (es : List Expr) : TA := fun σ H Q => ∀ (pos : Pos) (pins : List (Addr × Obj)) (s : Shared), L2.Inv X pins σ H s → wpAny (model X.prog X.w) X.A (spliced (backTo pos (starEach es X.env))) (AP X pins σ Q) X.xe s
def wS (X : Cx) (st : Stmt) : TS := fun D σ H => ∀ (pins : List (Addr × Obj)) (s : Shared), L2.Inv X pins σ H s → wpAny (model X.prog X.w) X.A (exec st X.env) (SP X pins D) X.xe s
def wSs (X : Cx) (sts : List Stmt) : TS := fun D σ H => ∀ (pins : List (Addr × Obj)) (s : Shared), L2.Inv X pins σ H s → wpAny (model X.prog X.w) X.A (execs sts X.env) (SP X pins D) X.xe s
theorem pe_w : PE X e (wE X e) := ⟨fun pins s _ _ _ I h => h pins s I⟩
theorem pt_w : PT X e (wT X e) := ⟨fun pins s _ _ _ I h => h pins s I⟩
theorem pw_w : PW X e (wW X e) := ⟨fun wh pins s _ _ _ I h => h wh pins s I⟩
theorem pa_w : PA X es (wA X es) := ⟨fun pos pins s _ _ _ I h => h pos pins s I⟩
theorem ps_w : PS X st (wS X st) := ⟨fun pins s _ _ _ I h => h pins s I⟩
theorem pss_w : PSs X sts (wSs X sts) := ⟨fun pins s _ _ _ I h => h pins s I⟩
theorem wE_of {t : TE} {Q : VK} (h : PE X e t) (q : t s H Q) : wE X e s H Q := fun pins sh I => h.run pins sh s H Q I q
theorem wT_of {t : TT} {Q : Bool → Hp → Prop} (h : PT X e t) (q : t s H Q) : wT X e s H Q := fun pins sh I => h.run pins sh s H Q I q
theorem wW_of {t : TT} {Q : Bool → Hp → Prop} (h : PW X e t) (q : t s H Q) : wW X e s H Q := fun wh pins sh I => h.run wh pins sh s H Q I q
theorem wA_of {t : TA} {Q : List V → Hp → Prop} (h : PA X es t) (q : t s H Q) : wA X es s H Q := fun pos pins sh I => h.run pos pins sh s H Q I q
theorem wS_of {t : TS} {D : Ends} (h : PS X st t) (q : t D s H) : wS X st D s H := fun pins sh I => h.run pins sh s H D I q
theorem wSs_of {t : TS} {D : Ends} (h : PSs X sts t) (q : t D s H) : wSs X sts D s H := fun pins sh I => h.run pins sh s H D I q
theorem wE_imp {Q Q' : VK} (h : wE X e s H Q) (k : ∀ v H', Q v H' → Q' v H') : wE X e s H Q' := fun pins sh I => thn (h pins sh I) fun _ _ ⟨v, H', I', r, q⟩ => ⟨v, H', I', r, k v H' q⟩
theorem wT_imp {Q Q' : Bool → Hp → Prop} (h : wT X e s H Q) (k : ∀ v H', Q v H' → Q' v H') : wT X e s H Q' := fun pins sh I => thn (h pins sh I) fun _ _ ⟨H', I', q⟩ => ⟨H', I', k _ H' q⟩
theorem wW_imp {Q Q' : Bool → Hp → Prop} (h : wW X e s H Q) (k : ∀ v H', Q v H' → Q' v H') : wW X e s H Q' := fun wh pins sh I => thn (h wh pins sh I) fun _ _ ⟨H', I', q⟩ => ⟨H', I', k _ H' q⟩
theorem wA_imp {Q Q' : List V → Hp → Prop} (h : wA X es s H Q) (k : ∀ v H', Q v H' → Q' v H') : wA X es s H Q' := fun pos pins sh I => thn (h pos pins sh I) fun _ _ ⟨v, H', I', r, q⟩ => ⟨v, H', I', r, k v H' q⟩
theorem wSs_imp {D D' : Ends} (h : wSs X sts D s H) (kn : ∀ σ H', D.nx σ H' → D'.nx σ H') (kr : ∀ v H', D.rt v H' → D'.rt v H') (kb : ∀ σ H', D.bk σ H' → D'.bk σ H') (kc : ∀ σ H', D.ct σ H' → D'.ct σ H') : wSs X sts D' s H := fun pins sh I =>
  thn (h pins sh I) fun f s1 q => by
    cases f with
    | next => obtain ⟨σ', H', I', z⟩ := q; exact ⟨σ', H', I', kn _ _ z⟩
    | brk => obtain ⟨σ', H', I', z⟩ := q; exact ⟨σ', H', I', kb _ _ z⟩
    | cont => obtain ⟨σ', H', I', z⟩ := q; exact ⟨σ', H', I', kc _ _ z⟩
    | ret u => obtain ⟨v, σ', H', I', r, z⟩ := q; exact ⟨v, σ', H', I', r, kr _ _ z⟩
end

/-! ### what a value tells -/
/-- an attribute: a datum, or a dict with tuple keys -/
inductive Fd where
  | d (x : PyData)
  | t (kvs : List (List Key × PyData))
/-- a datum; a dict with tuple keys; a dict with plain keys; that very value; the instance at p of the class at C and its attributes; the script -/
inductive Dn where
  | d (x : PyData)
  | t (kvs : List (List Key × PyData))
  | k (kvs : List (Key × PyData))
  | v (x : V)
  | ob (p C : Addr) (fs : List (Str × Fd))
  | sc (ns : List Int)
  | z (kvs : List (List Key × PyData))
def Fd.dn : Fd → Dn
  | .d x => .d x
  | .t kvs => .t kvs

def isStr0 : PyData → Bool
  | .str _ => true
  | _ => false
/-- a tuple: tracked, or a written one of texts alone -/
def TupAt (K : PySem.W.Frag) (H : Hp) (a : Addr) (xs : List V) (ds : List PyData) : Prop := H a = some (.tup xs) ∨ (SqT K H a xs ∧ ds.all isStr0 = true)
theorem TupAt.sq {K : PySem.W.Frag} {H : Hp} {a : Addr} {xs : List V} {ds : List PyData} (h : TupAt K H a xs ds) : SqT K H a xs := h.elim st_of (·.1)
theorem TupAt.up {K : PySem.W.Frag} {H H' : Hp} (e : Ex H H') {a : Addr} {xs : List V} {ds : List PyData} (h : TupAt K H a xs ds) : TupAt K H' a xs ds := h.imp (e _ _) fun z => ⟨ex_t e z.1, z.2⟩
mutual
/-- a datum that stands in the heap: lists are tracked or locked, tuples may be written ones too -/
inductive Dp (K : PySem.W.Frag) (H : Hp) : V → PyData → Prop
  | non : Dp K H .non .none
  | bl (b : Bool) : Dp K H (.bl b) (.bool b)
  | int (i : Int) : Dp K H (.int i) (.int i)
  | str (x : Str) : Dp K H (.str x) (.str x)
  | lst {a : Addr} {xs : List V} {ds : List PyData} : Rd H a (.lst xs) → DpAll K H xs ds → Dp K H (.ref a) (.list ds)
  | tup {a : Addr} {xs : List V} {ds : List PyData} : TupAt K H a xs ds → DpAll K H xs ds → Dp K H (.ref a) (.tuple ds)
inductive DpAll (K : PySem.W.Frag) (H : Hp) : List V → List PyData → Prop
  | nil : DpAll K H [] []
  | cons {v : V} {vs : List V} {d : PyData} {ds : List PyData} : Dp K H v d → DpAll K H vs ds → DpAll K H (v :: vs) (d :: ds)
end
section
variable {K : PySem.W.Frag} {H H' : Hp}
mutual
theorem Dp.l2 : ∀ (d : PyData) (v : V), Dp K H v d → L2.Dp K H v d
  | .none, _, h => by cases h; exact .non
  | .bool _, _, h => by cases h; exact .bl _
  | .int _, _, h => by cases h; exact .int _
  | .str _, _, h => by cases h; exact .str _
  | .list ds, _, h => by
    cases h with
    | lst h1 h2 => exact .lst (.inl h1) (DpAll.l2 ds _ h2)
  | .tuple ds, _, h => by
    cases h with
    | tup h1 h2 => exact .tup h1.sq (DpAll.l2 ds _ h2)
  | .dict _, _, h => nomatch h
theorem DpAll.l2 : ∀ (ds : List PyData) (vs : List V), DpAll K H vs ds → L2.DpAll K H vs ds
  | [], _, h => by cases h; exact .nil
  | d :: ds, _, h => by
    cases h with
    | cons h1 h2 => exact .cons (Dp.l2 d _ h1) (DpAll.l2 ds _ h2)
end
mutual
theorem dp_up (e : Ex H H') : ∀ (d : PyData) (v : V), Dp K H v d → Dp K H' v d
  | .none, _, h => by cases h; exact .non
  | .bool _, _, h => by cases h; exact .bl _
  | .int _, _, h => by cases h; exact .int _
  | .str _, _, h => by cases h; exact .str _
  | .list ds, _, h => by
    cases h with
    | lst h1 h2 => exact .lst (ex_rd e h1) (dpAll_up e ds _ h2)
  | .tuple ds, _, h => by
    cases h with
    | tup h1 h2 => exact .tup (h1.up e) (dpAll_up e ds _ h2)
  | .dict _, _, h => nomatch h
theorem dpAll_up (e : Ex H H') : ∀ (ds : List PyData) (vs : List V), DpAll K H vs ds → DpAll K H' vs ds
  | [], _, h => by cases h; exact .nil
  | d :: ds, _, h => by
    cases h with
    | cons h1 h2 => exact .cons (dp_up e d _ h1) (dpAll_up e ds _ h2)
end

theorem DpAll.len : ∀ {vs : List V} {ds : List PyData}, DpAll K H vs ds → vs.length = ds.length
  | _, _, .nil => rfl
  | _, _, .cons _ t => by rw [List.length_cons, List.length_cons, DpAll.len t]
theorem DpAll.get : ∀ {vs : List V} {ds : List PyData} {i : Nat} {d : PyData}, DpAll K H vs ds → ds[i]? = some d → ∃ v, vs[i]? = some v ∧ Dp K H v d
  | _, _, _, _, .nil, e => by simp at e
  | _, _, 0, _, .cons h _, e => by simp at e; subst e; exact ⟨_, rfl, h⟩
  | _, _, i + 1, d, .cons _ t, e => by
    obtain ⟨v, h1, h2⟩ := DpAll.get (i := i) (d := d) t (by simpa using e)
    exact ⟨v, by simpa using h1, h2⟩
theorem DpAll.back : ∀ {vs : List V} {ds : List PyData} {i : Nat} {v : V}, DpAll K H vs ds → vs[i]? = some v → ∃ d, ds[i]? = some d ∧ Dp K H v d
  | _, _, _, _, .nil, e => by simp at e
  | _, _, 0, _, .cons h _, e => by simp at e; subst e; exact ⟨_, rfl, h⟩
  | _, _, i + 1, v, .cons _ t, e => by
    obtain ⟨d, h1, h2⟩ := DpAll.back (i := i) (v := v) t (by simpa using e)
    exact ⟨d, by simpa using h1, h2⟩
theorem DpAll.app : ∀ {vs ws : List V} {ds es : List PyData}, DpAll K H vs ds → DpAll K H ws es → DpAll K H (vs ++ ws) (ds ++ es)
  | _, _, _, _, .nil, s => s
  | _, _, _, _, .cons h t, s => .cons h (DpAll.app t s)
theorem DpAll.take : ∀ {vs : List V} {ds : List PyData} (n : Nat), DpAll K H vs ds → DpAll K H (vs.take n) (ds.take n)
  | _, _, 0, _ => .nil
  | _, _, _ + 1, .nil => .nil
  | _, _, n + 1, .cons h t => .cons h (DpAll.take n t)
theorem DpAll.drop : ∀ {vs : List V} {ds : List PyData} (n : Nat), DpAll K H vs ds → DpAll K H (vs.drop n) (ds.drop n)
  | _, _, 0, r => r
  | _, _, _ + 1, .nil => .nil
  | _, _, n + 1, .cons _ t => DpAll.drop n t

def DenF (K : PySem.W.Frag) (H : Hp) (x : V) : Fd → Prop
  | .d y => Dp K H x y
  | .t kvs => ∃ a ws, x = .ref a ∧ Rd H a (.dT ws) ∧ Paired (fun (p : List Key × V) (q : List Key × PyData) => p.1 = q.1 ∧ Dp K H p.2 q.2) ws kvs
theorem DenF.up (e : Ex H H') {x : V} : ∀ {d : Fd}, DenF K H x d → DenF K H' x d
  | .d y, h => dp_up e y x h
  | .t kvs, ⟨a, ws, h1, h2, h3⟩ => ⟨a, ws, h1, ex_rd e h2, L2.Paired.mapP h3 fun _ _ z => ⟨z.1, dp_up e _ _ z.2⟩⟩
def Den (K : PySem.W.Frag) (H : Hp) (x : V) : Dn → Prop
  | .d y => Dp K H x y
  | .t kvs => ∃ a ws, x = .ref a ∧ Rd H a (.dT ws) ∧ Paired (fun (p : List Key × V) (q : List Key × PyData) => p.1 = q.1 ∧ Dp K H p.2 q.2) ws kvs
  | .ob p C fs => ∃ dx ws, x = .ref p ∧ H p = some (.ins C dx ws) ∧ Paired (fun (p : Str × V) (q : Str × Fd) => p.1 = q.1 ∧ DenF K H p.2 q.2) ws fs
  | .k kvs => ∃ a ws, x = .ref a ∧ Rd H a (.dK ws) ∧ Paired (fun (p : Key × V) (q : Key × PyData) => p.1 = q.1 ∧ Dp K H p.2 q.2) ws kvs
  | .v y => x = y
  | .sc ns => ∃ a, x = .ref a ∧ SqL K H a (ns.map V.int)
  | .z kvs => ∃ a o ws, x = .ref a ∧ H a = some (.frz o (.dT ws)) ∧ Paired (fun (p : List Key × V) (q : List Key × PyData) => p.1 = q.1 ∧ Dp K H p.2 q.2) ws kvs
theorem Den.up (e : Ex H H') {x : V} : ∀ {d : Dn}, Den K H x d → Den K H' x d
  | .d y, h => dp_up e y x h
  | .t kvs, ⟨a, ws, h1, h2, h3⟩ => ⟨a, ws, h1, ex_rd e h2, L2.Paired.mapP h3 fun _ _ z => ⟨z.1, dp_up e _ _ z.2⟩⟩
  | .k kvs, ⟨a, ws, h1, h2, h3⟩ => ⟨a, ws, h1, ex_rd e h2, L2.Paired.mapP h3 fun _ _ z => ⟨z.1, dp_up e _ _ z.2⟩⟩
  | .v y, h => h
  | .sc ns, ⟨a, h1, h2⟩ => ⟨a, h1, ex_l e h2⟩
  | .z kvs, ⟨a, o, ws, h1, h2, h3⟩ => ⟨a, o, ws, h1, e _ _ h2, L2.Paired.mapP h3 fun _ _ z => ⟨z.1, dp_up e _ _ z.2⟩⟩
  | .ob p C fs, ⟨dx, ws, h1, h2, h3⟩ => ⟨dx, ws, h1, e _ _ h2, L2.Paired.mapP h3 fun _ _ z => ⟨z.1, DenF.up e z.2⟩⟩
abbrev Dens (K : PySem.W.Frag) (H : Hp) : List V → List Dn → Prop := Paired (Den K H)
theorem Dens.up (e : Ex H H') {vs : List V} {ds : List Dn} (h : Dens K H vs ds) : Dens K H' vs ds := L2.Paired.mapP h fun _ _ z => Den.up e z
theorem Dens.dp : ∀ {vs : List V} {ds : List PyData}, Dens K H vs (ds.map Dn.d) → DpAll K H vs ds
  | _, [], h => by cases h; exact .nil
  | _, d :: ds, h => by
    cases h with
    | cons h1 h2 => exact .cons h1 (Dens.dp h2)
theorem Dens.of : ∀ {vs : List V} {ds : List PyData}, DpAll K H vs ds → Dens K H vs (ds.map Dn.d)
  | _, _, .nil => .nil
  | _, _, .cons h t => .cons h (Dens.of t)
end

/-! ### the environment: what each slot tells -/
abbrev Rho := List (Option Dn)
structure En (K : PySem.W.Frag) (H : Hp) (σ : L2.St) (r : Rho) : Prop where
  len : σ.length = r.length
  at_ : ∀ (i : Nat) (d : Dn), r[i]? = some (some d) → ∃ v, σ[i]? = some (some v) ∧ Den K H v d
section
variable {K : PySem.W.Frag} {H H' : Hp} {σ : L2.St} {r : Rho}
theorem En.up (e : Ex H H') (n : En K H σ r) : En K H' σ r := ⟨n.len, fun i d h => let ⟨v, a, b⟩ := n.at_ i d h; ⟨v, a, b.up e⟩⟩
theorem En.set (n : En K H σ r) (i : Nat) {v : V} {d : Dn} (h : Den K H v d) : En K H (σ.set i (some v)) (r.set i (some d)) := by
  refine ⟨by rw [List.length_set, List.length_set]; exact n.len, fun j e hj => ?_⟩
  by_cases hij : i = j
  · subst hij
    have hl : i < r.length := by
      obtain ⟨q, _⟩ := List.getElem?_eq_some_iff.mp hj
      simpa using q
    rw [List.getElem?_set_self hl] at hj
    cases hj
    exact ⟨v, List.getElem?_set_self (by rw [n.len]; exact hl), h⟩
  · rw [List.getElem?_set_ne hij] at hj
    obtain ⟨u, a, b⟩ := n.at_ j e hj
    exact ⟨u, by rw [List.getElem?_set_ne hij]; exact a, b⟩
/-- a slot's word forgotten -/
theorem En.drop (n : En K H σ r) (i : Nat) (o : Option V) : En K H (σ.set i o) (r.set i none) := by
  refine ⟨by rw [List.length_set, List.length_set]; exact n.len, fun j e hj => ?_⟩
  by_cases hij : i = j
  · subst hij
    by_cases hl : i < r.length
    · rw [List.getElem?_set_self hl] at hj
      cases hj
    · rw [List.getElem?_eq_none (by simpa using hl)] at hj
      cases hj
  · rw [List.getElem?_set_ne hij] at hj
    obtain ⟨u, a, b⟩ := n.at_ j e hj
    exact ⟨u, by rw [List.getElem?_set_ne hij]; exact a, b⟩
def wipeR (r : Rho) : List Nat → Rho
  | [] => r
  | v :: vs => (wipeR r vs).set v none
theorem En.wipe (n : En K H σ r) : ∀ vs : List Nat, En K H (L2.wipe σ vs) (wipeR r vs)
  | [] => n
  | v :: vs => (En.wipe n vs).drop v none
theorem En.start {N : List Str} {vs : List V} {ds : List Dn} (h : Dens K H vs ds) : En K H (L2.start N vs) (ds.map some ++ List.replicate (N.length - vs.length) none) := by
  have hl := Paired.length h
  refine ⟨?_, fun i d hi => ?_⟩
  · unfold L2.start
    simp [hl]
  · unfold L2.start
    by_cases hlt : i < ds.length
    · rw [List.getElem?_append_left (by simpa using hlt), List.getElem?_map] at hi
      rw [List.getElem?_append_left (by simp; omega), List.getElem?_map]
      have : ∀ {vs : List V} {ds : List Dn} (i : Nat) (d : Dn), Dens K H vs ds → ds[i]? = some d → ∃ v, vs[i]? = some v ∧ Den K H v d := by
        intro vs ds i d h
        induction h generalizing i with
        | nil => intro e; simp at e
        | cons h1 _ ih =>
          cases i with
          | zero => intro e; simp at e; subst e; exact ⟨_, rfl, h1⟩
          | succ i => intro e; obtain ⟨v, a, b⟩ := ih i (by simpa using e); exact ⟨v, by simpa using a, b⟩
      cases hd : ds[i]? with
      | none => rw [hd] at hi; cases hi
      | some d' =>
        rw [hd] at hi
        cases hi
        obtain ⟨v, a, b⟩ := this i d h hd
        exact ⟨v, by rw [a]; rfl, b⟩
    · rw [List.getElem?_append_right (by simp; omega)] at hi
      rw [List.getElem?_replicate] at hi
      split at hi <;> cases hi
end

/-! ### the judgements by data: G is the part of the heap that the environment leans on, H the whole; both grow, and what is new in G is new in H -/
/-- nothing stands there, or a tuple -/
def Fr (H : Hp) (a : Addr) : Prop := ∀ o, H a = some o → ∃ xs, o = .tup xs
theorem Fr.of {H : Hp} {a : Addr} (h : H a = none) : Fr H a := fun o q => by rw [h] at q; cases q
theorem Fr.back {H H' : Hp} {a : Addr} (e : Ex H H') (h : Fr H' a) : Fr H a := fun o q => h o (e _ _ q)
/-- something stands there that is no tuple -/
def NT (H : Hp) (a : Addr) : Prop := ∃ o, H a = some o ∧ ∀ xs, o ≠ .tup xs
theorem some_nt {H : Hp} {a : Addr} {o : HO} (h : H a = some o) (ho : ∀ xs, o ≠ .tup xs := by intro xs z; nomatch z) : NT H a := ⟨o, h, ho⟩
theorem NT.no {H : Hp} {a : Addr} (h : NT H a) (f : Fr H a) : False := let ⟨o, h1, h2⟩ := h; let ⟨xs, e⟩ := f o h1; h2 xs e
theorem NT.up {H H' : Hp} {a : Addr} (e : Ex H H') (h : NT H a) : NT H' a := let ⟨o, h1, h2⟩ := h; ⟨o, e _ _ h1, h2⟩
structure Gr (G H G2 H2 : Hp) : Prop where
  g : Ex G G2
  s : Ex G2 H2
  h : Ex H H2
  f : ∀ a, G a = none → G2 a ≠ none → Fr H a
section
variable {G H G1 H1 G2 H2 : Hp}
theorem Gr.refl (e : Ex G H) : Gr G H G H := ⟨Ex.refl G, e, Ex.refl H, fun a h1 h2 => absurd h1 h2⟩
theorem Gr.trans (a : Gr G H G1 H1) (b : Gr G1 H1 G2 H2) : Gr G H G2 H2 := ⟨a.g.trans b.g, b.s, a.h.trans b.h, fun x h1 h2 => by
  cases q : G1 x with
  | none => exact (b.f x q h2).back a.h
  | some o => exact a.f x h1 (by rw [q]; exact fun z => nomatch z)⟩
theorem Gr.new {p : Addr} {o : HO} (e : Ex G H) (hp : H p = none) : Gr G H (upd G p o) (upd H p o) := by
  refine ⟨Ex.new (fresh_back e hp), fun a u h => ?_, Ex.new hp, fun a h1 h2 => ?_⟩
  · by_cases ha : a = p
    · subst ha; rw [upd_same] at h ⊢; exact h
    · rw [upd_ne ha] at h ⊢; exact e a u h
  · by_cases ha : a = p
    · rw [ha]; exact .of hp
    · rw [upd_ne ha] at h2; exact absurd h1 h2
/-- a tuple that stands is leaned on -/
theorem Gr.tup {p : Addr} {xs : List V} (e : Ex G H) (hp : H p = some (.tup xs)) : ∃ G2, Gr G H G2 H ∧ G2 p = some (.tup xs) := by
  cases q : G p with
  | some o =>
    have := e _ _ q
    rw [hp] at this
    cases this
    exact ⟨G, Gr.refl e, q⟩
  | none =>
    refine ⟨upd G p (.tup xs), ⟨Ex.new q, fun a u h => ?_, Ex.refl H, fun a h1 h2 => ?_⟩, upd_same⟩
    · by_cases ha : a = p
      · subst ha; rw [upd_same] at h; rw [hp]; exact h
      · rw [upd_ne ha] at h; exact e a u h
    · by_cases ha : a = p
      · subst ha
        intro o ho
        rw [hp] at ho
        cases ho
        exact ⟨_, rfl⟩
      · rw [upd_ne ha] at h2; exact absurd h1 h2
end
/-- e tells d -/
def Pv (X : Cx) (e : Expr) (r : Rho) (d : Dn) : Prop := ∀ σ G H, Ex G H → En X.K G σ r → wE X e σ H fun v H2 => ∃ G2, Gr G H G2 H2 ∧ Den X.K G2 v d
def Pt (X : Cx) (e : Expr) (r : Rho) (b : Bool) : Prop := ∀ σ G H, Ex G H → En X.K G σ r → wT X e σ H fun c H2 => ∃ G2, Gr G H G2 H2 ∧ c = b
def Pw (X : Cx) (e : Expr) (r : Rho) (b : Bool) : Prop := ∀ σ G H, Ex G H → En X.K G σ r → wW X e σ H fun c H2 => ∃ G2, Gr G H G2 H2 ∧ c = b
def Pa (X : Cx) (es : List Expr) (r : Rho) (ds : List Dn) : Prop := ∀ σ G H, Ex G H → En X.K G σ r → wA X es σ H fun vs H2 => ∃ G2, Gr G H G2 H2 ∧ Dens X.K G2 vs ds

section
variable {X : Cx} {a b c e : Expr} {es : List Expr} {r : Rho} {d d1 d2 d3 : Dn} {pos : Pos}
theorem Pv.is (h : Pv X e r d) {d' : Dn} (q : d = d') : Pv X e r d' := q ▸ h
theorem Pt.is {b b' : Bool} (h : Pt X e r b) (q : b = b') : Pt X e r b' := q ▸ h
theorem Pw.is {b b' : Bool} (h : Pw X e r b) (q : b = b') : Pw X e r b' := q ▸ h
theorem Pw.pt {b : Bool} (h : Pw X e r b) : Pt X e r b := fun σ G H g n => fun pins s I => h σ G H g n _ pins s I

/-! #### names and constants -/
theorem pv_var (i : Nat) {x : Str} (hN : X.N[i]? = some x := by rfl) (hv : Vis X.env.scope x := by first | exact Or.inl rfl | exact Or.inr (Or.inl rfl) | exact Or.inr (Or.inr rfl)) (h : r[i]? = some (some d) := by rfl)
    (hd : (x == ("__debug__" : Str)) = false := by decide) (hcd : (x == ("__classdict__" : Str)) = false := by decide) : Pv X (.Name x pos) r d := fun σ G H g n =>
  let ⟨v, a, q⟩ := n.at_ i d h
  wE_of (pe_var hN hv hd hcd) ⟨v, a, G, Gr.refl g, q⟩
theorem pv_int {i : Int} {j : Nat} : Pv X (.Constant (.int i) j pos) r (.d (.int i)) := fun σ G H g _ => wE_of pe_int ⟨G, Gr.refl g, Dp.int i⟩
theorem pv_bool {i : Bool} {j : Nat} : Pv X (.Constant (.bool i) j pos) r (.d (.bool i)) := fun σ G H g _ => wE_of pe_bl ⟨G, Gr.refl g, Dp.bl i⟩
theorem pv_none {j : Nat} : Pv X (.Constant .none j pos) r (.d .none) := fun σ G H g _ => wE_of pe_non ⟨G, Gr.refl g, Dp.non⟩
theorem pv_str {i : Str} {j : Nat} : Pv X (.Constant (.str i) j pos) r (.d (.str i)) := fun σ G H g _ => wE_of pe_str ⟨G, Gr.refl g, Dp.str i⟩
theorem pv_glob {x : Str} {v : V} {u : Value} (hm : X.mg x = some u) (rv : RelV v u) (hd : ∀ H, Den X.K H v d) (hg : Gl X x := by rfl) (hdb : (x == ("__debug__" : Str)) = false := by decide) : Pv X (.Name x pos) r d := fun σ G H g _ =>
  wE_of (pe_glob hg hm rv hdb) ⟨G, Gr.refl g, hd G⟩

/-! #### arguments -/
theorem pa_nil : Pa X [] r [] := fun σ G H g _ => wA_of L2.pa_nil ⟨G, Gr.refl g, .nil⟩
theorem pa_cons {ds : List Dn} (ha : Pv X e r d) (hr : Pa X es r ds) (hs : starEach (e :: es) X.env = (false, eval e X.env) :: starEach es X.env := by rfl) : Pa X (e :: es) r (d :: ds) := fun σ G H g n =>
  wA_of (L2.pa_cons pe_w pa_w hs) (wE_imp (ha σ G H g n) fun v H1 ⟨G1, k1, q1⟩ => wA_imp (hr σ G1 H1 k1.s (n.up k1.g)) fun vs H2 ⟨G2, k2, q2⟩ => ⟨G2, k1.trans k2, .cons (q1.up k2.g) q2⟩)

/-! #### operators -/
/-- an operation by data -/
abbrev Op2 (K : PySem.W.Frag) (f : R2) (d1 d2 d : Dn) : Prop := ∀ x y G H (Q : VK), Ex G H → Den K G x d1 → Den K G y d2 → (∀ v G' H', Gr G H G' H' → Den K G' v d → Q v H') → f x y H Q
theorem pv_bin {op : Operator} {f : R2} (ho : OpR X (binaryOp op) f) (ha : Pv X a r d1) (hb : Pv X b r d2) (hr : Op2 X.K f d1 d2 d) : Pv X (.BinOp a op b pos) r d := fun σ G H g n =>
  wE_of (pe_op ho pe_w pe_w) (wE_imp (ha σ G H g n) fun x H1 ⟨G1, k1, q1⟩ => wE_imp (hb σ G1 H1 k1.s (n.up k1.g)) fun y H2 ⟨G2, k2, q2⟩ => hr x y G2 H2 _ k2.s (q1.up k2.g) q2 fun v G3 H3 k3 q3 => ⟨G3, (k1.trans k2).trans k3, q3⟩)
theorem pv_cmp {op : CmpOp} {f : R2} (ho : OpR X (compareOp op) f) (ha : Pv X a r d1) (hb : Pv X b r d2) (hr : Op2 X.K f d1 d2 d) (hm : behindInMarks op b = false) : Pv X (.Compare a [op] [b] pos) r d := fun σ G H g n =>
  wE_of (pe_cmpR ho pe_w pe_w hm) (wE_imp (ha σ G H g n) fun x H1 ⟨G1, k1, q1⟩ => wE_imp (hb σ G1 H1 k1.s (n.up k1.g)) fun y H2 ⟨G2, k2, q2⟩ => hr x y G2 H2 _ k2.s (q1.up k2.g) q2 fun v G3 H3 k3 q3 => ⟨G3, (k1.trans k2).trans k3, q3⟩)
theorem pt_cmp {op : CmpOp} {f : R2} {k : Bool} (ho : OpR X (compareOp op) f) (ha : Pv X a r d1) (hb : Pv X b r d2) (hr : Op2 X.K f d1 d2 (.d (.bool k))) (hm : behindInMarks op b = false) : Pt X (.Compare a [op] [b] pos) r k := fun σ G H g n =>
  wT_of (pt_cmpR ho pe_w pe_w hm) (wE_imp (ha σ G H g n) fun x H1 ⟨G1, k1, q1⟩ => wE_imp (hb σ G1 H1 k1.s (n.up k1.g)) fun y H2 ⟨G2, k2, q2⟩ => hr x y G2 H2 _ k2.s (q1.up k2.g) q2 fun v G3 H3 k3 q3 => by
    cases q3
    exact ⟨_, rfl, G3, (k1.trans k2).trans k3, rfl⟩)
theorem pv_un {op : UnaryOp} {f : V → Hp → VK → Prop} (ho : UnR X (unaryOp op) f) (ha : Pv X a r d1) (hr : ∀ x G H (Q : VK), Ex G H → Den X.K G x d1 → (∀ v G' H', Gr G H G' H' → Den X.K G' v d → Q v H') → f x H Q) : Pv X (.UnaryOp op a pos) r d := fun σ G H g n =>
  wE_of (pe_un ho pe_w) (wE_imp (ha σ G H g n) fun x H1 ⟨G1, k1, q1⟩ => hr x G1 H1 _ k1.s q1 fun v G3 H3 k3 q3 => ⟨G3, k1.trans k3, q3⟩)
theorem den_int {K : PySem.W.Frag} {H : Hp} {x : V} {i : Int} (h : Den K H x (.d (.int i))) : x = .int i := by cases h; rfl
theorem den_bool {K : PySem.W.Frag} {H : Hp} {x : V} {i : Bool} (h : Den K H x (.d (.bool i))) : x = .bl i := by cases h; rfl
theorem den_str {K : PySem.W.Frag} {H : Hp} {x : V} {i : Str} (h : Den K H x (.d (.str i))) : x = .str i := by cases h; rfl
theorem den_none {K : PySem.W.Frag} {H : Hp} {x : V} (h : Den K H x (.d .none)) : x = .non := by cases h; rfl
section
variable {i j : Int}
theorem binI {op : Operator} {C : Int → Int → Prop} {g : Int → Int → Int} (ho : OpR X (binaryOp op) (rI C fun i j => .int (g i j))) (hc : C i j) (ha : Pv X a r (.d (.int i))) (hb : Pv X b r (.d (.int j))) : Pv X (.BinOp a op b pos) r (.d (.int (g i j))) :=
  pv_bin ho ha hb fun x y G H Q e h1 h2 k => ⟨i, j, den_int h1, den_int h2, hc, k _ G H (Gr.refl e) (Dp.int _)⟩
theorem binI0 {op : Operator} {g : Int → Int → Int} (ho : OpR X (binaryOp op) (rI0 fun i j => .int (g i j))) (ha : Pv X a r (.d (.int i))) (hb : Pv X b r (.d (.int j))) : Pv X (.BinOp a op b pos) r (.d (.int (g i j))) :=
  pv_bin ho ha hb fun x y G H Q e h1 h2 k => ⟨i, j, den_int h1, den_int h2, k _ G H (Gr.refl e) (Dp.int _)⟩
theorem pv_add (ha : Pv X a r (.d (.int i))) (hb : Pv X b r (.d (.int j))) : Pv X (.BinOp a .Add b pos) r (.d (.int (i + j))) := binI0 op_add ha hb
theorem pv_sub (ha : Pv X a r (.d (.int i))) (hb : Pv X b r (.d (.int j))) : Pv X (.BinOp a .Sub b pos) r (.d (.int (i - j))) := binI0 op_sub ha hb
theorem pv_mul (hc : CMul i j) (ha : Pv X a r (.d (.int i))) (hb : Pv X b r (.d (.int j))) : Pv X (.BinOp a .Mult b pos) r (.d (.int (i * j))) := binI op_mul hc ha hb
theorem pv_fdiv (hc : CDiv i j) (ha : Pv X a r (.d (.int i))) (hb : Pv X b r (.d (.int j))) : Pv X (.BinOp a .FloorDiv b pos) r (.d (.int (i / j))) := binI op_fdiv hc ha hb
theorem pv_mod (hc : 0 < j) (ha : Pv X a r (.d (.int i))) (hb : Pv X b r (.d (.int j))) : Pv X (.BinOp a .Mod b pos) r (.d (.int (i % j))) := binI op_mod hc ha hb
theorem pv_pow (hc : CPow i j) (ha : Pv X a r (.d (.int i))) (hb : Pv X b r (.d (.int j))) : Pv X (.BinOp a .Pow b pos) r (.d (.int (i ^ j.toNat))) := binI op_pow hc ha hb
theorem pv_neg (ha : Pv X a r (.d (.int i))) : Pv X (.UnaryOp .USub a pos) r (.d (.int (-i))) := pv_un un_neg ha fun x G H Q e h k => ⟨i, den_int h, k _ G H (Gr.refl e) (Dp.int _)⟩
/-- comparisons of ints, as values, as tests -/
theorem cmpI {op : CmpOp} {g : Int → Int → Bool} (ho : OpR X (compareOp op) (rI0 fun i j => .bl (g i j))) (ha : Pv X a r (.d (.int i))) (hb : Pv X b r (.d (.int j))) (hm : behindInMarks op b = false) : Pv X (.Compare a [op] [b] pos) r (.d (.bool (g i j))) :=
  pv_cmp ho ha hb (fun x y G H Q e h1 h2 k => ⟨i, j, den_int h1, den_int h2, k _ G H (Gr.refl e) (Dp.bl _)⟩) hm
theorem tcmpI {op : CmpOp} {g : Int → Int → Bool} (ho : OpR X (compareOp op) (rI0 fun i j => .bl (g i j))) (ha : Pv X a r (.d (.int i))) (hb : Pv X b r (.d (.int j))) (hm : behindInMarks op b = false) : Pt X (.Compare a [op] [b] pos) r (g i j) :=
  pt_cmp ho ha hb (fun x y G H Q e h1 h2 k => ⟨i, j, den_int h1, den_int h2, k _ G H (Gr.refl e) (Dp.bl _)⟩) hm
theorem pv_lt (ha : Pv X a r (.d (.int i))) (hb : Pv X b r (.d (.int j))) : Pv X (.Compare a [.Lt] [b] pos) r (.d (.bool (decide (i < j)))) := cmpI op_lt ha hb (nomark _)
theorem pv_le (ha : Pv X a r (.d (.int i))) (hb : Pv X b r (.d (.int j))) : Pv X (.Compare a [.LtE] [b] pos) r (.d (.bool (decide (i ≤ j)))) := cmpI op_le ha hb (nomark _)
theorem pv_gt (ha : Pv X a r (.d (.int i))) (hb : Pv X b r (.d (.int j))) : Pv X (.Compare a [.Gt] [b] pos) r (.d (.bool (decide (j < i)))) := cmpI op_gt ha hb (nomark _)
theorem pv_ge (ha : Pv X a r (.d (.int i))) (hb : Pv X b r (.d (.int j))) : Pv X (.Compare a [.GtE] [b] pos) r (.d (.bool (decide (j ≤ i)))) := cmpI op_ge ha hb (nomark _)
theorem pt_lt (ha : Pv X a r (.d (.int i))) (hb : Pv X b r (.d (.int j))) : Pt X (.Compare a [.Lt] [b] pos) r (decide (i < j)) := tcmpI op_lt ha hb (nomark _)
theorem pt_le (ha : Pv X a r (.d (.int i))) (hb : Pv X b r (.d (.int j))) : Pt X (.Compare a [.LtE] [b] pos) r (decide (i ≤ j)) := tcmpI op_le ha hb (nomark _)
theorem pt_gt (ha : Pv X a r (.d (.int i))) (hb : Pv X b r (.d (.int j))) : Pt X (.Compare a [.Gt] [b] pos) r (decide (j < i)) := tcmpI op_gt ha hb (nomark _)
theorem pt_ge (ha : Pv X a r (.d (.int i))) (hb : Pv X b r (.d (.int j))) : Pt X (.Compare a [.GtE] [b] pos) r (decide (j ≤ i)) := tcmpI op_ge ha hb (nomark _)
end
/-! #### == of data -/
section
variable {x y : PyData}
theorem pv_eq (hu : X.A.units + 64 < cLine) (ha : Pv X a r (.d x)) (hb : Pv X b r (.d y)) (h1 : SeqAt.shaped x = true) (h2 : SeqAt.shaped y = true) : Pv X (.Compare a [.Eq] [b] pos) r (.d (.bool (PyData.eqv x y))) :=
  pv_cmp (op_eqD hu) ha hb (fun v w G H Q e q1 q2 k => ⟨x, y, Dp.l2 _ _ (dp_up e _ _ q1), Dp.l2 _ _ (dp_up e _ _ q2), h1, h2, k _ G H (Gr.refl e) (Dp.bl _)⟩) (nomark _)
theorem pv_ne (hu : X.A.units + 64 < cLine) (ha : Pv X a r (.d x)) (hb : Pv X b r (.d y)) (h1 : SeqAt.shaped x = true) (h2 : SeqAt.shaped y = true) : Pv X (.Compare a [.NotEq] [b] pos) r (.d (.bool (!PyData.eqv x y))) :=
  pv_cmp (op_neD hu) ha hb (fun v w G H Q e q1 q2 k => ⟨x, y, Dp.l2 _ _ (dp_up e _ _ q1), Dp.l2 _ _ (dp_up e _ _ q2), h1, h2, k _ G H (Gr.refl e) (Dp.bl _)⟩) (nomark _)
theorem pt_eq (hu : X.A.units + 64 < cLine) (ha : Pv X a r (.d x)) (hb : Pv X b r (.d y)) (h1 : SeqAt.shaped x = true) (h2 : SeqAt.shaped y = true) : Pt X (.Compare a [.Eq] [b] pos) r (PyData.eqv x y) :=
  pt_cmp (op_eqD hu) ha hb (fun v w G H Q e q1 q2 k => ⟨x, y, Dp.l2 _ _ (dp_up e _ _ q1), Dp.l2 _ _ (dp_up e _ _ q2), h1, h2, k _ G H (Gr.refl e) (Dp.bl _)⟩) (nomark _)
theorem pt_ne (hu : X.A.units + 64 < cLine) (ha : Pv X a r (.d x)) (hb : Pv X b r (.d y)) (h1 : SeqAt.shaped x = true) (h2 : SeqAt.shaped y = true) : Pt X (.Compare a [.NotEq] [b] pos) r (!PyData.eqv x y) :=
  pt_cmp (op_neD hu) ha hb (fun v w G H Q e q1 q2 k => ⟨x, y, Dp.l2 _ _ (dp_up e _ _ q1), Dp.l2 _ _ (dp_up e _ _ q2), h1, h2, k _ G H (Gr.refl e) (Dp.bl _)⟩) (nomark _)
end
end
end Fb

/-! FbB: truth, items, slices, displays, walks, comprehensions, by data. -/
namespace Fb
open PySem L2 Evl
section
variable {X : Cx} {a b c e : Expr} {es rest : List Expr} {r : Rho} {d d1 d2 d3 : Dn} {pos : Pos}

/-! #### and, or, not -/
theorem pv_one {op} (h : Pv X a r d) : Pv X (.BoolOp op [a] pos) r d := fun σ G H g n => wE_of (pe_one pe_w) (h σ G H g n)
theorem pv_and {p q : Bool} (ha : Pv X a r (.d (.bool p))) (hb : p = true → Pv X (.BoolOp .And (b :: rest) pos) r (.d (.bool q))) : Pv X (.BoolOp .And (a :: b :: rest) pos) r (.d (.bool (p && q))) := fun σ G H g n =>
  wE_of (pe_and pe_w pe_w) (wE_imp (ha σ G H g n) fun x H1 ⟨G1, k1, q1⟩ => ⟨p, den_bool q1, by
    cases p with
    | true => exact wE_imp (hb rfl σ G1 H1 k1.s (n.up k1.g)) fun v H2 ⟨G2, k2, q2⟩ => ⟨G2, k1.trans k2, q2⟩
    | false => exact ⟨G1, k1, Dp.bl false⟩⟩)
theorem pv_or {p q : Bool} (ha : Pv X a r (.d (.bool p))) (hb : p = false → Pv X (.BoolOp .Or (b :: rest) pos) r (.d (.bool q))) : Pv X (.BoolOp .Or (a :: b :: rest) pos) r (.d (.bool (p || q))) := fun σ G H g n =>
  wE_of (pe_or pe_w pe_w) (wE_imp (ha σ G H g n) fun x H1 ⟨G1, k1, q1⟩ => ⟨p, den_bool q1, by
    cases p with
    | false => exact wE_imp (hb rfl σ G1 H1 k1.s (n.up k1.g)) fun v H2 ⟨G2, k2, q2⟩ => ⟨G2, k1.trans k2, q2⟩
    | true => exact ⟨G1, k1, Dp.bl true⟩⟩)
theorem pv_not {p : Bool} (ha : Pv X a r (.d (.bool p))) : Pv X (.UnaryOp .Not a pos) r (.d (.bool (!p))) := fun σ G H g n =>
  wE_of (pe_not pe_w) (wE_imp (ha σ G H g n) fun x H1 ⟨G1, k1, q1⟩ => ⟨p, den_bool q1, G1, k1, Dp.bl _⟩)
theorem pw_and1 {p : Bool} (ha : Pt X a r p) : Pw X (.BoolOp .And [a] pos) r p := fun σ G H g n => wW_of (L2.pw_and1 pt_w) (ha σ G H g n)
theorem pw_or1 {p : Bool} (ha : Pt X a r p) : Pw X (.BoolOp .Or [a] pos) r p := fun σ G H g n => wW_of (L2.pw_or1 pt_w) (ha σ G H g n)
theorem pw_and {p q : Bool} (ha : Pt X a r p) (hb : p = true → Pw X (.BoolOp .And (b :: rest) pos) r q) : Pw X (.BoolOp .And (a :: b :: rest) pos) r (p && q) := fun σ G H g n =>
  wW_of (L2.pw_and pt_w pw_w) (wT_imp (ha σ G H g n) fun x H1 ⟨G1, k1, q1⟩ => by
    subst q1
    cases x with
    | true => exact wW_imp (hb rfl σ G1 H1 k1.s (n.up k1.g)) fun v H2 ⟨G2, k2, q2⟩ => ⟨G2, k1.trans k2, q2⟩
    | false => exact ⟨G1, k1, rfl⟩)
theorem pw_or {p q : Bool} (ha : Pt X a r p) (hb : p = false → Pw X (.BoolOp .Or (b :: rest) pos) r q) : Pw X (.BoolOp .Or (a :: b :: rest) pos) r (p || q) := fun σ G H g n =>
  wW_of (L2.pw_or pt_w pw_w) (wT_imp (ha σ G H g n) fun x H1 ⟨G1, k1, q1⟩ => by
    subst q1
    cases x with
    | false => exact wW_imp (hb rfl σ G1 H1 k1.s (n.up k1.g)) fun v H2 ⟨G2, k2, q2⟩ => ⟨G2, k1.trans k2, q2⟩
    | true => exact ⟨G1, k1, rfl⟩)
theorem pw_orT (ha : Pt X a r true) : Pw X (.BoolOp .Or (a :: b :: rest) pos) r true := pw_or (q := true) ha fun h => nomatch h
theorem pw_orF {q : Bool} (ha : Pt X a r false) (hb : Pw X (.BoolOp .Or (b :: rest) pos) r q) : Pw X (.BoolOp .Or (a :: b :: rest) pos) r q := pw_or ha fun _ => hb
theorem pw_andF (ha : Pt X a r false) : Pw X (.BoolOp .And (a :: b :: rest) pos) r false := pw_and (q := true) ha fun h => nomatch h
theorem pw_andT {q : Bool} (ha : Pt X a r true) (hb : Pw X (.BoolOp .And (b :: rest) pos) r q) : Pw X (.BoolOp .And (a :: b :: rest) pos) r q := pw_and ha fun _ => hb
theorem pv_orT (ha : Pv X a r (.d (.bool true))) : Pv X (.BoolOp .Or (a :: b :: rest) pos) r (.d (.bool true)) := pv_or (q := true) ha fun h => nomatch h
theorem pv_orF {q : Bool} (ha : Pv X a r (.d (.bool false))) (hb : Pv X (.BoolOp .Or (b :: rest) pos) r (.d (.bool q))) : Pv X (.BoolOp .Or (a :: b :: rest) pos) r (.d (.bool q)) := pv_or ha fun _ => hb
theorem pv_andF (ha : Pv X a r (.d (.bool false))) : Pv X (.BoolOp .And (a :: b :: rest) pos) r (.d (.bool false)) := pv_and (q := true) ha fun h => nomatch h
theorem pv_andT {q : Bool} (ha : Pv X a r (.d (.bool true))) (hb : Pv X (.BoolOp .And (b :: rest) pos) r (.d (.bool q))) : Pv X (.BoolOp .And (a :: b :: rest) pos) r (.d (.bool q)) := pv_and ha fun _ => hb
theorem pt_not {p : Bool} (ha : Pt X a r p) : Pt X (.UnaryOp .Not a pos) r (!p) := fun σ G H g n =>
  wT_of (L2.pt_not pt_w) (wT_imp (ha σ G H g n) fun x H1 ⟨G1, k1, q1⟩ => ⟨G1, k1, by rw [q1]⟩)
theorem pt_val {p : Bool} (ha : Pv X a r (.d (.bool p))) (he : ∀ whole, isTrue a X.env whole = (do let v ← whole; standAt a.pos; holding [v] (truthy v)) := by intro _; rfl) : Pt X a r p := fun σ G H g n =>
  wT_of (L2.pt_val pe_w he) (wE_imp (ha σ G H g n) fun x H1 ⟨G1, k1, q1⟩ => ⟨p, den_bool q1, G1, k1, rfl⟩)
/-- truth of a datum -/
def truD : PyData → Bool
  | .none => false
  | .bool b => b
  | .int i => i != 0
  | .str y => (y.length : Int) != 0
  | .list xs => !xs.isEmpty
  | .tuple xs => !xs.isEmpty
  | .dict _ => false
def strOk : PyData → Prop
  | .str y => y.length ≤ sizeLine
  | _ => True
theorem truV_of {K : PySem.W.Frag} {H : Hp} {x : V} {y : PyData} (h : Dp K H x y) (hs : strOk y) : TruV K x H (truD y) := by
  cases h with
  | non => rfl
  | bl b => rfl
  | int i => rfl
  | str z => exact ⟨hs, rfl⟩
  | lst h1 h2 => exact .inl ⟨_, .inl h1, by have := DpAll.len h2; cases h2 <;> rfl⟩
  | tup h1 h2 => exact .inr (.inl ⟨_, h1.sq, by have := DpAll.len h2; cases h2 <;> rfl⟩)
theorem pt_truth {y : PyData} (ha : Pv X a r (.d y)) (hs : strOk y := by trivial) (he : ∀ whole, isTrue a X.env whole = (do let v ← whole; standAt a.pos; holding [v] (truthy v)) := by intro _; rfl) : Pt X a r (truD y) := fun σ G H g n =>
  wT_of (L2.pt_truth pe_w he) (wE_imp (ha σ G H g n) fun x H1 ⟨G1, k1, q1⟩ => ⟨_, truV_of (dp_up k1.s _ _ q1) hs, G1, k1, rfl⟩)
theorem pv_notT {y : PyData} (ha : Pv X a r (.d y)) (hs : strOk y := by trivial) : Pv X (.UnaryOp .Not a pos) r (.d (.bool (!truD y))) := fun σ G H g n =>
  wE_of (pe_notT pe_w) (wE_imp (ha σ G H g n) fun x H1 ⟨G1, k1, q1⟩ => ⟨_, truV_of (dp_up k1.s _ _ q1) hs, G1, k1, Dp.bl _⟩)
theorem pv_if {p : Bool} (hc : Pt X c r p) (ha : p = true → Pv X a r d) (hb : p = false → Pv X b r d) : Pv X (.IfExp c a b pos) r d := fun σ G H g n =>
  wE_of (pe_ifExp pt_w pe_w pe_w) (wT_imp (hc σ G H g n) fun x H1 ⟨G1, k1, q1⟩ => by
    subst q1
    cases x with
    | true => exact wE_imp (ha rfl σ G1 H1 k1.s (n.up k1.g)) fun v H2 ⟨G2, k2, q2⟩ => ⟨G2, k1.trans k2, q2⟩
    | false => exact wE_imp (hb rfl σ G1 H1 k1.s (n.up k1.g)) fun v H2 ⟨G2, k2, q2⟩ => ⟨G2, k1.trans k2, q2⟩)
/-- a <= b <= c of ints -/
theorem chainI {op op' : CmpOp} {g g' : Int → Int → Bool} {i j k : Int} (ho : OpR X (compareOp op) (rI0 fun i j => .bl (g i j))) (ho' : OpR X (compareOp op') (rI0 fun i j => .bl (g' i j)))
    (ha : Pv X a r (.d (.int i))) (hb : Pv X b r (.d (.int j))) (hc : Pv X c r (.d (.int k))) (hm : lastMarks [op, op'] [b, c] = false := by rfl) : Pv X (.Compare a [op, op'] [b, c] pos) r (.d (.bool (g i j && g' j k))) := fun σ G H gg n =>
  wE_of (pe_chain ho ho' pe_w pe_w pe_w hm) (wE_imp (ha σ G H gg n) fun x H1 ⟨G1, k1, q1⟩ => wE_imp (hb σ G1 H1 k1.s (n.up k1.g)) fun y H2 ⟨G2, k2, q2⟩ => ⟨i, j, den_int q1, den_int q2, g i j, rfl, by
    cases hg : g i j with
    | true => exact wE_imp (hc σ G2 H2 k2.s ((n.up k1.g).up k2.g)) fun z H3 ⟨G3, k3, q3⟩ => ⟨j, k, den_int q2, den_int q3, G3, (k1.trans k2).trans k3, Dp.bl _⟩
    | false => exact ⟨G2, k1.trans k2, Dp.bl _⟩⟩)
theorem tchainI {op op' : CmpOp} {g g' : Int → Int → Bool} {i j k : Int} (ho : OpR X (compareOp op) (rI0 fun i j => .bl (g i j))) (ho' : OpR X (compareOp op') (rI0 fun i j => .bl (g' i j)))
    (ha : Pv X a r (.d (.int i))) (hb : Pv X b r (.d (.int j))) (hc : Pv X c r (.d (.int k))) (hm : lastMarks [op, op'] [b, c] = false := by rfl) : Pt X (.Compare a [op, op'] [b, c] pos) r (g i j && g' j k) := fun σ G H gg n =>
  wT_of (pt_chain ho ho' pe_w pe_w pe_w hm) (wE_imp (ha σ G H gg n) fun x H1 ⟨G1, k1, q1⟩ => wE_imp (hb σ G1 H1 k1.s (n.up k1.g)) fun y H2 ⟨G2, k2, q2⟩ => ⟨i, j, den_int q1, den_int q2, g i j, rfl, by
    cases hg : g i j with
    | true => exact wE_imp (hc σ G2 H2 k2.s ((n.up k1.g).up k2.g)) fun z H3 ⟨G3, k3, q3⟩ => ⟨j, k, den_int q2, den_int q3, _, rfl, G3, (k1.trans k2).trans k3, by simp⟩
    | false => exact ⟨_, rfl, G2, k1.trans k2, rfl⟩⟩)
theorem pv_le_le {i j k : Int} (ha : Pv X a r (.d (.int i))) (hb : Pv X b r (.d (.int j))) (hc : Pv X c r (.d (.int k))) (hm : lastMarks [.LtE, .LtE] [b, c] = false := by rfl) : Pv X (.Compare a [.LtE, .LtE] [b, c] pos) r (.d (.bool (decide (i ≤ j) && decide (j ≤ k)))) := chainI op_le op_le ha hb hc hm
theorem pt_le_le {i j k : Int} (ha : Pv X a r (.d (.int i))) (hb : Pv X b r (.d (.int j))) (hc : Pv X c r (.d (.int k))) (hm : lastMarks [.LtE, .LtE] [b, c] = false := by rfl) : Pt X (.Compare a [.LtE, .LtE] [b, c] pos) r (decide (i ≤ j) && decide (j ≤ k)) := tchainI op_le op_le ha hb hc hm
/-- is None, is not None -/
def isNoneD : PyData → Bool
  | .none => true
  | _ => false
theorem isN_dec {K : PySem.W.Frag} {H : Hp} {x : V} {y : PyData} (h : Dp K H x y) : decide (x = V.non) = isNoneD y := by cases h <;> simp [isNoneD]
theorem pv_isN {y : PyData} {j : Nat} {p' : Pos} (ha : Pv X a r (.d y)) : Pv X (.Compare a [.Is] [.Constant .none j p'] pos) r (.d (.bool (isNoneD y))) :=
  pv_cmp op_isN ha pv_none (fun x y' G H Q e h1 h2 k => ⟨den_none h2, k _ G H (Gr.refl e) (by rw [isN_dec h1]; exact Dp.bl _)⟩) (nomark _)
theorem pv_notN {y : PyData} {j : Nat} {p' : Pos} (ha : Pv X a r (.d y)) : Pv X (.Compare a [.IsNot] [.Constant .none j p'] pos) r (.d (.bool (!isNoneD y))) :=
  pv_cmp op_notN ha pv_none (fun x y' G H Q e h1 h2 k => ⟨den_none h2, k _ G H (Gr.refl e) (by rw [isN_dec h1]; exact Dp.bl _)⟩) (nomark _)
theorem pt_isN {y : PyData} {j : Nat} {p' : Pos} (ha : Pv X a r (.d y)) : Pt X (.Compare a [.Is] [.Constant .none j p'] pos) r (isNoneD y) :=
  pt_cmp op_isN ha pv_none (fun x y' G H Q e h1 h2 k => ⟨den_none h2, k _ G H (Gr.refl e) (by rw [isN_dec h1]; exact Dp.bl _)⟩) (nomark _)
theorem pt_notN {y : PyData} {j : Nat} {p' : Pos} (ha : Pv X a r (.d y)) : Pt X (.Compare a [.IsNot] [.Constant .none j p'] pos) r (!isNoneD y) :=
  pt_cmp op_notN ha pv_none (fun x y' G H Q e h1 h2 k => ⟨den_none h2, k _ G H (Gr.refl e) (by rw [isN_dec h1]; exact Dp.bl _)⟩) (nomark _)

/-! #### items and slices -/
theorem atI_dp {K : PySem.W.Frag} {H : Hp} {vs : List V} {ds : List PyData} {i : Int} {y : PyData} (h : DpAll K H vs ds) (e : atI ds i = some y) : ∃ v, atI vs i = some v ∧ Dp K H v y := by
  unfold atI at e ⊢
  rw [DpAll.len h]
  cases q : ixN ds.length i with
  | none => rw [q] at e; cases e
  | some j =>
    rw [q] at e
    obtain ⟨v, a, b⟩ := DpAll.get h (show ds[j]? = some y from e)
    exact ⟨v, a, b⟩
def ixD : PyData → Int → Option PyData
  | .tuple ds, i => atI ds i
  | .list ds, i => atI ds i
  | _, _ => none
theorem pv_ix {y z : PyData} {i : Int} (ha : Pv X a r (.d y)) (hb : Pv X b r (.d (.int i))) (hi : ixD y i = some z) (hs : PlainIx b := by exact fun _ _ => rfl) : Pv X (.Subscript a b pos) r (.d z) := fun σ G H g n =>
  wE_of (pe_ix ix_seq pe_w pe_w hs) (wE_imp (ha σ G H g n) fun x H1 ⟨G1, k1, q1⟩ => wE_imp (hb σ G1 H1 k1.s (n.up k1.g)) fun u H2 ⟨G2, k2, q2⟩ => by
    have q1' := Den.up k2.g q1
    cases y with
    | tuple ds =>
      cases q1' with
      | tup h1 h2 =>
        obtain ⟨v, hv, hd⟩ := atI_dp h2 hi
        exact .inr (.inl ⟨_, _, i, v, rfl, den_int q2, ex_t k2.s h1.sq, hv, G2, k1.trans k2, hd⟩)
    | list ds =>
      cases q1' with
      | lst h1 h2 =>
        obtain ⟨v, hv, hd⟩ := atI_dp h2 hi
        exact .inl ⟨_, _, i, v, rfl, den_int q2, .inl (ex_rd k2.s h1), hv, G2, k1.trans k2, hd⟩
    | _ => cases hi)
/-- a slice's part -/
def Po (X : Cx) (oe : Option Expr) (r : Rho) (o : Option Int) : Prop := ∃ t, PO X oe t ∧ ∀ σ G H, Ex G H → En X.K G σ r → ∀ Q : Option Int → Hp → Prop, (∀ G2 H2, Gr G H G2 H2 → Q o H2) → t σ H Q
theorem po_none : Po X none r none := ⟨_, L2.po_none, fun σ G H g _ Q q => q G H (Gr.refl g)⟩
theorem po_some {i : Int} (h : Pv X e r (.d (.int i))) : Po X (some e) r (some i) := ⟨_, L2.po_some pe_w, fun σ G H g n Q q => wE_imp (h σ G H g n) fun v H1 ⟨G1, k1, q1⟩ => ⟨i, den_int q1, q G1 H1 k1⟩⟩
def cutD (xs : List PyData) (lo hi : Option Int) : List PyData := (xs.drop (HT.sIx xs.length 0 lo)).take (HT.sIx xs.length xs.length hi - HT.sIx xs.length 0 lo)
theorem cut_dp {K : PySem.W.Frag} {H : Hp} {vs : List V} {ds : List PyData} (h : DpAll K H vs ds) (lo hi : Option Int) : DpAll K H (cutV vs lo hi) (cutD ds lo hi) := by
  unfold cutV cutD
  rw [DpAll.len h]
  exact DpAll.take _ (DpAll.drop _ h)
theorem cutD_whole {ds : List PyData} {lo hi : Option Int} (h : HT.sIx ds.length 0 lo = 0 ∧ HT.sIx ds.length ds.length hi = ds.length) : cutD ds lo hi = ds := by
  unfold cutD
  rw [h.1, h.2]
  simp
theorem pv_sliceT {ds : List PyData} {lo hi : Option Expr} {l u : Option Int} {p2 : Pos} (ha : Pv X a r (.d (.tuple ds))) (hl : Po X lo r l) (hu : Po X hi r u) : Pv X (.Subscript a (.Slice lo hi none p2) pos) r (.d (.tuple (cutD ds l u))) := by
  obtain ⟨t1, p1, f1⟩ := hl
  obtain ⟨t2, p2', f2⟩ := hu
  intro σ G H g n
  refine wE_of (pe_slice sl_tupA pe_w p1 p2') (wE_imp (ha σ G H g n) fun x H1 ⟨G1, k1, q1⟩ => f1 σ G1 H1 k1.s (n.up k1.g) _ fun G2 H2 k2 => f2 σ G2 H2 k2.s ((n.up k1.g).up k2.g) _ fun G3 H3 k3 => ?_)
  have q := Den.up (k2.g.trans k3.g) q1
  cases q with
  | tup h1 h2 =>
    have hl := DpAll.len h2
    refine ⟨_, _, rfl, ex_t k3.s h1.sq, fun hw => ⟨G3, (k1.trans k2).trans k3, ?_⟩, fun _ p hp => ⟨_, ((k1.trans k2).trans k3).trans (Gr.new k3.s hp), ?_⟩⟩
    · rw [cutD_whole (by rw [← hl]; exact hw)]
      exact Dp.tup h1 h2
    · exact Dp.tup (.inl upd_same) (dpAll_up (Ex.new (fresh_back k3.s hp)) _ _ (cut_dp h2 l u))
theorem pv_sliceL {ds : List PyData} {lo hi : Option Expr} {l u : Option Int} {p2 : Pos} (ha : Pv X a r (.d (.list ds))) (hl : Po X lo r l) (hu : Po X hi r u) : Pv X (.Subscript a (.Slice lo hi none p2) pos) r (.d (.list (cutD ds l u))) := by
  obtain ⟨t1, p1, f1⟩ := hl
  obtain ⟨t2, p2', f2⟩ := hu
  intro σ G H g n
  refine wE_of (pe_slice sl_list pe_w p1 p2') (wE_imp (ha σ G H g n) fun x H1 ⟨G1, k1, q1⟩ => f1 σ G1 H1 k1.s (n.up k1.g) _ fun G2 H2 k2 => f2 σ G2 H2 k2.s ((n.up k1.g).up k2.g) _ fun G3 H3 k3 => ?_)
  have q := Den.up (k2.g.trans k3.g) q1
  cases q with
  | lst h1 h2 => exact ⟨_, _, rfl, .inl (ex_rd k3.s h1), fun p hp => ⟨_, ((k1.trans k2).trans k3).trans (Gr.new k3.s hp), Dp.lst (.inl upd_same) (dpAll_up (Ex.new (fresh_back k3.s hp)) _ _ (cut_dp h2 l u))⟩⟩

/-! #### displays -/
def Pd (X : Cx) (es : List Expr) (r : Rho) (xs : List PyData) : Prop := Pa X es r (xs.map Dn.d)
theorem pd_nil : Pd X [] r [] := pa_nil
theorem pd_cons {x : PyData} {xs : List PyData} (ha : Pv X e r (.d x)) (hr : Pd X es r xs) (hs : starEach (e :: es) X.env = (false, eval e X.env) :: starEach es X.env := by rfl) : Pd X (e :: es) r (x :: xs) := pa_cons ha hr hs
theorem pv_tup {xs : List PyData} {x1} (h : Pd X es r xs) (hl : xs.length ≤ 100000 := by simp) : Pv X (.Tuple es x1 pos) r (.d (.tuple xs)) := fun σ G H g n =>
  wE_of (pe_tup pa_w) (wA_imp (h σ G H g n) fun vs H1 ⟨G1, k1, q1⟩ => by
    have q := Dens.dp q1
    have hlen := DpAll.len q
    exact ⟨sz_of (by omega), fun p hp => ⟨_, k1.trans (Gr.new k1.s hp), Dp.tup (.inl upd_same) (dpAll_up (Ex.new (fresh_back k1.s hp)) _ _ q)⟩⟩)
theorem pv_lst {xs : List PyData} (h : Pd X es r xs) (hl : xs.length ≤ 100000 := by simp) : Pv X (.List es pos) r (.d (.list xs)) := fun σ G H g n =>
  wE_of (pe_lst pa_w) (wA_imp (h σ G H g n) fun vs H1 ⟨G1, k1, q1⟩ => by
    have q := Dens.dp q1
    have hlen := DpAll.len q
    exact ⟨sz_of (by omega), fun p hp => ⟨_, k1.trans (Gr.new k1.s hp), Dp.lst (.inl upd_same) (dpAll_up (Ex.new (fresh_back k1.s hp)) _ _ q)⟩⟩)

/-! #### + of tuples -/
theorem pv_catT {xs ys : List PyData} (ha : Pv X a r (.d (.tuple xs))) (hb : Pv X b r (.d (.tuple ys))) (hl : xs.length + ys.length ≤ 100000) : Pv X (.BinOp a .Add b pos) r (.d (.tuple (xs ++ ys))) :=
  pv_bin op_catA ha hb fun x y G H Q e h1 h2 k => by
    cases h1 with
    | tup s1 t1 =>
      cases h2 with
      | tup s2 t2 =>
        have l1 := DpAll.len t1
        have l2 := DpAll.len t2
        refine ⟨_, _, _, _, rfl, rfl, ex_t e s1.sq, ex_t e s2.sq, sz_of (by omega), fun hx => k _ G H (Gr.refl e) ?_, fun _ hy => k _ G H (Gr.refl e) ?_, fun _ _ p hp => k _ _ _ (Gr.new e hp) (Dp.tup (.inl upd_same) (dpAll_up (Ex.new (fresh_back e hp)) _ _ (DpAll.app t1 t2)))⟩
        · subst hx
          cases t1
          exact Dp.tup s2 t2
        · subst hy
          cases t2
          rw [List.append_nil]
          exact Dp.tup s1 t1

/-! #### what is walked -/
/-- iter, walked with the target tg, tells the data ds one after another -/
def Wk (X : Cx) (tg iter : Expr) (r : Rho) (ds : List Dn) : Prop := ∃ wi : TI, PI X tg iter wi ∧ ∀ σ G H, Ex G H → En X.K G σ r → ∀ R : It → Hp → Prop,
  (∀ J G1 H1, Gr G H G1 H1 → (∀ i H2, Ex G1 H2 → i < ds.length → J.go i H2) → (∀ i G2 H2 x H3, Ex G1 G2 → Ex G2 H2 → J.yld i H2 x H3 → ∀ d, ds[i]? = some d → ∃ G3, Gr G2 H2 G3 H3 ∧ Den X.K G3 x d) → (∀ i H2, Ex G1 H2 → ds.length ≤ i → J.stop i H2) → R J H1) → wi σ H R
theorem wk_list {tg : Expr} {xs : List PyData} (h : Pv X e r (.d (.list xs))) : Wk X tg e r (xs.map Dn.d) := ⟨_, pi_list pe_w, fun σ G H g n R k => wE_imp (h σ G H g n) fun v H1 ⟨G1, k1, q1⟩ => by
  cases q1 with
  | @lst p vs _ h1 h2 =>
    have hl := DpAll.len h2
    refine ⟨p, rfl, ⟨vs, .inl (ex_rd k1.s h1)⟩, k _ G1 H1 k1 (fun i H2 e2 hi => ?_) (fun i G2 H2 x H3 e2 s2 y d hd => ?_) (fun i H2 e2 hi => ⟨vs, .inl (ex_rd e2 h1), by rw [hl]; simpa using hi⟩)⟩
    · rw [List.length_map, ← hl] at hi
      exact ⟨vs, vs[i], .inl (ex_rd e2 h1), List.getElem?_eq_getElem hi⟩
    · obtain ⟨rfl, y⟩ := y
      have hx := y vs (.inl (ex_rd (e2.trans s2) h1))
      obtain ⟨d', q1, q2⟩ := DpAll.back h2 hx
      rw [List.getElem?_map, q1] at hd
      cases hd
      exact ⟨G2, Gr.refl s2, Den.up (d := .d d') e2 q2⟩⟩
theorem wk_tup {tg : Expr} {xs : List PyData} (h : Pv X e r (.d (.tuple xs))) : Wk X tg e r (xs.map Dn.d) := ⟨_, pi_tup pe_w, fun σ G H g n R k => wE_imp (h σ G H g n) fun v H1 ⟨G1, k1, q1⟩ => by
  cases q1 with
  | @tup p vs _ h1 h2 =>
    have hl := DpAll.len h2
    refine ⟨p, rfl, ⟨vs, ex_t k1.s h1.sq⟩, k _ G1 H1 k1 (fun i H2 e2 hi => ?_) (fun i G2 H2 x H3 e2 s2 y d hd => ?_) (fun i H2 e2 hi => ⟨vs, ex_t e2 h1.sq, by rw [hl]; simpa using hi⟩)⟩
    · rw [List.length_map, ← hl] at hi
      exact ⟨vs, vs[i], ex_t e2 h1.sq, List.getElem?_eq_getElem hi⟩
    · obtain ⟨rfl, y⟩ := y
      have hx := y vs (ex_t (e2.trans s2) h1.sq)
      obtain ⟨d', q1, q2⟩ := DpAll.back h2 hx
      rw [List.getElem?_map, q1] at hd
      cases hd
      exact ⟨G2, Gr.refl s2, Den.up (d := .d d') e2 q2⟩⟩
theorem wk_str {tg : Expr} {x : Str} (h : Pv X e r (.d (.str x))) : Wk X tg e r (x.cps.toList.map fun c => Dn.d (.str ⟨#[c]⟩)) := ⟨_, pi_str pe_w, fun σ G H g n R k => wE_imp (h σ G H g n) fun v H1 ⟨G1, k1, q1⟩ => by
  refine ⟨x, den_str q1, k _ G1 H1 k1 (fun i H2 e2 hi => ?_) (fun i G2 H2 v H3 e2 s2 y d hd => ?_) (fun i H2 e2 hi => ?_)⟩
  · show i < x.cps.size
    simpa using hi
  · obtain ⟨rfl, c, hc, rfl⟩ := y
    rw [List.getElem?_map] at hd
    have : x.cps.toList[i]? = some c := by simpa using hc
    rw [this] at hd
    cases hd
    exact ⟨G2, Gr.refl s2, Dp.str _⟩
  · show x.cps.size ≤ i
    simpa using hi⟩
/-- the ints lo, lo + 1, .. -/
def upto (lo : Int) (n : Nat) : List Int := (List.range n).map fun (i : Nat) => lo + (i : Int)
theorem upto_len (lo : Int) (n : Nat) : (upto lo n).length = n := by simp [upto]
theorem upto_get {lo : Int} {n i : Nat} {d : Dn} (hd : ((upto lo n).map fun i => Dn.d (.int i))[i]? = some d) : d = Dn.d (.int (lo + (i : Int))) := by
  unfold upto at hd
  rw [List.getElem?_map, List.getElem?_map] at hd
  cases hr : (List.range n)[i]? with
  | none => rw [hr] at hd; cases hd
  | some i' =>
    rw [hr] at hd
    obtain ⟨_, q⟩ := List.getElem?_eq_some_iff.mp hr
    rw [List.getElem_range] at q
    subst q
    cases hd
    rfl
theorem wk_range1 {tg : Expr} {p : Pos} {j : Int} (hm : X.mg "range" = none) (h : Pv X e r (.d (.int j))) (hj : -(2 ^ 62) ≤ j ∧ j < 2 ^ 62) (hg : Gl X "range" := by rfl) (hs : starEach [e] X.env = [(false, eval e X.env)] := by rfl) :
    Wk X tg (.Call (.Name "range" p) [e] [] pos) r ((upto 0 j.toNat).map fun i => Dn.d (.int i)) := ⟨_, pi_range1 hg hm pa_w hs, fun σ G H g n R k => wA_imp (pa_cons h pa_nil hs σ G H g n) fun vs H1 ⟨G1, k1, q1⟩ => by
  cases q1 with
  | cons a1 a2 =>
    cases a2
    refine ⟨j, by rw [den_int a1], hj.1, hj.2, k _ G1 H1 k1 (fun i H2 e2 hi => ?_) (fun i G2 H2 v H3 e2 s2 y d hd => ?_) (fun i H2 e2 hi => ?_)⟩
    · rw [List.length_map, upto_len] at hi
      exact hi
    · obtain ⟨rfl, rfl⟩ := y
      rw [upto_get hd]
      exact ⟨G2, Gr.refl s2, Dp.int _⟩
    · rw [List.length_map, upto_len] at hi
      exact hi⟩
theorem wk_range2 {tg : Expr} {p : Pos} {i0 j : Int} (hm : X.mg "range" = none) (ha : Pv X a r (.d (.int i0))) (hb : Pv X b r (.d (.int j))) (hj : -(2 ^ 62) ≤ i0 ∧ i0 < 2 ^ 62 ∧ -(2 ^ 62) ≤ j ∧ j < 2 ^ 62) (hg : Gl X "range" := by rfl)
    (hs : starEach [a, b] X.env = [(false, eval a X.env), (false, eval b X.env)] := by rfl) (hs2 : starEach [b] X.env = [(false, eval b X.env)] := by rfl) :
    Wk X tg (.Call (.Name "range" p) [a, b] [] pos) r ((upto i0 (j - i0).toNat).map fun i => Dn.d (.int i)) := ⟨_, pi_range2 hg hm pa_w hs hs2, fun σ G H g n R k => wA_imp (pa_cons ha (pa_cons hb pa_nil hs2) (by rw [hs, hs2]) σ G H g n) fun vs H1 ⟨G1, k1, q1⟩ => by
  cases q1 with
  | cons a1 a2 =>
    cases a2 with
    | cons a2 a3 =>
      cases a3
      refine ⟨i0, j, by rw [den_int a1, den_int a2], hj, k _ G1 H1 k1 (fun i H2 e2 hi => ?_) (fun i G2 H2 v H3 e2 s2 y d hd => ?_) (fun i H2 e2 hi => ?_)⟩
      · rw [List.length_map, upto_len] at hi
        exact hi
      · obtain ⟨rfl, rfl⟩ := y
        rw [upto_get hd]
        exact ⟨G2, Gr.refl s2, Dp.int _⟩
      · rw [List.length_map, upto_len] at hi
        exact hi⟩

/-! #### targets -/
def wG (X : Cx) (tg : Expr) : TG := fun v σ H Q => ∀ (pins : List (Addr × Obj)) (s : Shared) (u : Value), L2.Inv X pins σ H s → RelV v u → wpAny (model X.prog X.w) X.A (assign tg X.env u) (fun _ s' => ∃ σ' H', L2.Inv X pins σ' H' s' ∧ Q σ' H') X.xe s
theorem pg_w {tg : Expr} : PG X tg (wG X tg) := ⟨fun pins s σ H v u Q I rv h => h pins s u I rv⟩
theorem wG_of {tg : Expr} {t : TG} {v : V} {σ : L2.St} {H : Hp} {Q : L2.St → Hp → Prop} (h : PG X tg t) (q : t v σ H Q) : wG X tg v σ H Q := fun pins s u I rv => h.run pins s σ H v u Q I rv q
theorem wG_imp {tg : Expr} {v : V} {σ : L2.St} {H : Hp} {Q Q' : L2.St → Hp → Prop} (h : wG X tg v σ H Q) (k : ∀ σ' H', Q σ' H' → Q' σ' H') : wG X tg v σ H Q' := fun pins s u I rv => thn (h pins s u I rv) fun _ _ ⟨σ', H', I', q⟩ => ⟨σ', H', I', k _ _ q⟩
/-- tg = a datum d: the environment r becomes r2, only the slots js are turned; the heap stays -/
def Pg (X : Cx) (tg : Expr) (r : Rho) (d : Dn) (r2 : Rho) (js : List Nat) : Prop := ∀ σ G H v, Ex G H → En X.K G σ r → Den X.K G v d → wG X tg v σ H fun σ2 H2 => H2 = H ∧ En X.K G σ2 r2 ∧ ∀ i, i ∉ js → σ2[i]? = σ[i]?
theorem pg_name (j : Nat) {x : Str} (hN : X.N.Nodup) (hi : X.N[j]? = some x := by rfl) (hx : Loc X.env.scope x := by first | exact Or.inl rfl | exact Or.inr rfl) (hf : X.fn x = true ∨ X.env.scope.names.lookup x = some .local := by first | exact .inl rfl | exact .inr rfl) :
    Pg X (.Name x pos) r d (r.set j (some d)) [j] := fun σ G H v g n q => wG_of (L2.pg_name hN hi hx hf) ⟨rfl, n.set j q, fun i hi => List.getElem?_set_ne (by simpa using fun z => hi (by simp [z]))⟩
/-- targets one after another -/
def wGs (X : Cx) (ts : List Expr) : TGs := fun vs σ H Q => ∀ (pins : List (Addr × Obj)) (s : Shared) (us : List Value), L2.Inv X pins σ H s → Vals vs us → wpAny (model X.prog X.w) X.A (assignInOrder ((assignEach ts X.env).map (·.2)) us) (fun _ s' => ∃ σ' H', L2.Inv X pins σ' H' s' ∧ Q σ' H') X.xe s
theorem pgs_w {ts : List Expr} : PGs X ts (wGs X ts) := ⟨fun pins s σ H vs us Q I rv h => h pins s us I rv⟩
theorem wGs_of {ts : List Expr} {t : TGs} {vs : List V} {σ : L2.St} {H : Hp} {Q : L2.St → Hp → Prop} (h : PGs X ts t) (q : t vs σ H Q) : wGs X ts vs σ H Q := fun pins s us I rv => h.run pins s σ H vs us Q I rv q
theorem wGs_imp {ts : List Expr} {vs : List V} {σ : L2.St} {H : Hp} {Q Q' : L2.St → Hp → Prop} (h : wGs X ts vs σ H Q) (k : ∀ σ' H', Q σ' H' → Q' σ' H') : wGs X ts vs σ H Q' := fun pins s us I rv => thn (h pins s us I rv) fun _ _ ⟨σ', H', I', q⟩ => ⟨σ', H', I', k _ _ q⟩
def Pgs (X : Cx) (ts : List Expr) (r : Rho) (ds : List Dn) (r2 : Rho) (js : List Nat) : Prop := ∀ σ G H vs, Ex G H → En X.K G σ r → Dens X.K G vs ds → wGs X ts vs σ H fun σ2 H2 => H2 = H ∧ En X.K G σ2 r2 ∧ ∀ i, i ∉ js → σ2[i]? = σ[i]?
theorem pgs_nil : Pgs X [] r [] r [] := fun σ G H vs g n q => by
  cases q
  exact wGs_of L2.pgs_nil ⟨rfl, rfl, n, fun _ _ => rfl⟩
theorem pgs_cons {ts : List Expr} {ds : List Dn} {r2 r3 : Rho} {js ks : List Nat} (h1 : Pg X e r d r2 js) (h2 : Pgs X ts r2 ds r3 ks) (hs : (assignEach (e :: ts) X.env).map (·.2) = assign e X.env :: (assignEach ts X.env).map (·.2) := by rfl) : Pgs X (e :: ts) r (d :: ds) r3 (js ++ ks) := fun σ G H vs g n q => by
  cases q with
  | cons q1 q2 =>
    refine wGs_of (L2.pgs_cons pg_w pgs_w hs) ⟨_, _, rfl, wG_imp (h1 σ G H _ g n q1) fun σ1 H1 ⟨e1, n1, k1⟩ => ?_⟩
    subst e1
    refine wGs_imp (h2 σ1 G H1 _ g n1 q2) fun σ2 H2 ⟨e2, n2, k2⟩ => ⟨e2, n2, fun i hi => ?_⟩
    rw [List.mem_append, not_or] at hi
    exact (k2 i hi.2).trans (k1 i hi.1)
theorem pg_tup {ts : List Expr} {k : Nat} {xs : List PyData} {r2 : Rho} {js : List Nat} (hc : X.calm = true) (h : Pgs X ts r (xs.map Dn.d) r2 js) (hn : (assignEach ts X.env).length = xs.length := by rfl) (hst : (assignEach ts X.env).findIdx? (·.1) = none := by rfl) :
    Pg X (.Tuple ts k pos) r (.d (.tuple xs)) r2 js := fun σ G H v g n q => by
  cases q with
  | tup h1 h2 => exact wG_of (L2.pg_tup hc pgs_w hn hst) ⟨_, _, rfl, ex_t g h1.sq, DpAll.len h2, h σ G H _ g n (Dens.of h2)⟩

/-! #### list comprehensions -/
def wTs (X : Cx) (ifs : List Expr) : TT := fun σ H Q => ∀ (pins : List (Addr × Obj)) (s : Shared), L2.Inv X pins σ H s →
  wpAny (model X.prog X.w) X.A (forIn ifs true fun c r => if r = true then do let ok ← isTrue c X.env (eval c X.env); pure (ForInStep.yield ok) else pure (ForInStep.yield r)) (TP X pins σ Q) X.xe s
theorem wTs_of {ifs : List Expr} {t : TT} {σ : L2.St} {H : Hp} {Q : Bool → Hp → Prop} (h : PTs X ifs t) (q : t σ H Q) : wTs X ifs σ H Q := fun pins s I => h.run pins s σ H Q I q
theorem wTs_imp {ifs : List Expr} {σ : L2.St} {H : Hp} {Q Q' : Bool → Hp → Prop} (h : wTs X ifs σ H Q) (k : ∀ v H', Q v H' → Q' v H') : wTs X ifs σ H Q' := fun pins sh I => thn (h pins sh I) fun _ _ ⟨H', I', q⟩ => ⟨H', I', k _ H' q⟩
def Pts (X : Cx) (ifs : List Expr) (r : Rho) (b : Bool) : Prop := ∀ σ G H, Ex G H → En X.K G σ r → wTs X ifs σ H fun c H2 => ∃ G2, Gr G H G2 H2 ∧ c = b
theorem pts_nil : Pts X [] r true := fun σ G H g n => wTs_of L2.pts_nil ⟨G, Gr.refl g, rfl⟩
theorem pts_one {p : Bool} (h : Pt X c r p) : Pts X [c] r p := fun σ G H g n => wTs_of (L2.pts_one pt_w) (h σ G H g n)
theorem wipe_in {σ : L2.St} {i : Nat} : ∀ {vs : List Nat}, i ∈ vs → (wipe σ vs)[i]? = if i < σ.length then some none else none
  | v :: vs, h => by
    unfold wipe
    by_cases hv : v = i
    · subst hv
      by_cases hl : v < σ.length
      · rw [if_pos hl, List.getElem?_set_self (by rw [wipe_length]; exact hl)]
      · rw [if_neg hl, List.getElem?_eq_none (by rw [List.length_set, wipe_length]; omega)]
    · rw [List.getElem?_set_ne hv]
      exact wipe_in (by rcases List.mem_cons.mp h with e | e; exact absurd e.symm hv; exact e)
theorem wipe_eq {σ σ2 : L2.St} {vs : List Nat} (hl : σ2.length = σ.length) (h : ∀ i, i ∉ vs → σ2[i]? = (wipe σ vs)[i]?) : wipe σ2 vs = wipe σ vs := by
  refine List.ext_getElem? fun i => ?_
  by_cases hi : i ∈ vs
  · rw [wipe_in hi, wipe_in hi, hl]
  · rw [wipe_out hi]
    exact h i hi
theorem take_succ {al : Type} : ∀ {l : List al} {i : Nat} {x : al}, l[i]? = some x → l.take (i + 1) = l.take i ++ [x]
  | [], i, x, h => by simp at h
  | a :: l, 0, x, h => by
    have e : a = x := Option.some.inj h
    subst e
    rfl
  | a :: l, i + 1, x, h => by
    have ih := take_succ (l := l) (i := i) (x := x) h
    show a :: l.take (i + 1) = a :: l.take i ++ [x]
    rw [ih]
    rfl
/-- a comprehension's block, whatever it starts at -/
abbrev Blk (X : Cx) (scope : Scope) (P : Cx → Prop) : Prop := ∀ (s : Shared) (H : Hp) (C : Addr) (cl : List (Str × Addr)) (fp : List Addr), P (X.blk s H scope (compEnvC scope cl C X.env) fp)
/-- the comprehension's own readings, whatever block it runs in -/
def bG (X : Cx) (scope : Scope) (tg : Expr) : TG := fun v σ H Q => ∀ (s0 : Shared) (H0 : Hp) (C : Addr) (cl : List (Str × Addr)) (fp : List Addr), wG (X.blk s0 H0 scope (compEnvC scope cl C X.env) fp) tg v σ H Q
def bTs (X : Cx) (scope : Scope) (ifs : List Expr) : TT := fun σ H Q => ∀ (s0 : Shared) (H0 : Hp) (C : Addr) (cl : List (Str × Addr)) (fp : List Addr), wTs (X.blk s0 H0 scope (compEnvC scope cl C X.env) fp) ifs σ H Q
def bE (X : Cx) (scope : Scope) (elt : Expr) : TE := fun σ H Q => ∀ (s0 : Shared) (H0 : Hp) (C : Addr) (cl : List (Str × Addr)) (fp : List Addr), wE (X.blk s0 H0 scope (compEnvC scope cl C X.env) fp) elt σ H Q
theorem bG_ok {scope : Scope} {tg : Expr} (s0 : Shared) (H0 : Hp) (C : Addr) (cl : List (Str × Addr)) (fp : List Addr) : PG (X.blk s0 H0 scope (compEnvC scope cl C X.env) fp) tg (bG X scope tg) := ⟨fun pins s σ H v u Q I rv h => h s0 H0 C cl fp pins s u I rv⟩
theorem bTs_ok {scope : Scope} {ifs : List Expr} (s0 : Shared) (H0 : Hp) (C : Addr) (cl : List (Str × Addr)) (fp : List Addr) : PTs (X.blk s0 H0 scope (compEnvC scope cl C X.env) fp) ifs (bTs X scope ifs) := ⟨fun pins s σ H Q I h => h s0 H0 C cl fp pins s I⟩
theorem bE_ok {scope : Scope} {elt : Expr} (s0 : Shared) (H0 : Hp) (C : Addr) (cl : List (Str × Addr)) (fp : List Addr) : PE (X.blk s0 H0 scope (compEnvC scope cl C X.env) fp) elt (bE X scope elt) := ⟨fun pins s σ H Q I h => h s0 H0 C cl fp pins s I⟩
theorem lc_data {al : Type} {elt tg : Expr} {ifs : List Expr} {scope : Scope} {own : List (Str × Nat)} {js : List Nat} {xs : List al} {enc : al → Dn} {p : al → Bool} {f : al → PyData} {r2 : al → Rho} {wi : TI}
    (hwi : ∀ σ G H, Ex G H → En X.K G σ r → ∀ R : It → Hp → Prop, (∀ J G1 H1, Gr G H G1 H1 → (∀ i H2, Ex G1 H2 → i < (xs.map enc).length → J.go i H2) → (∀ i G2 H2 x H3, Ex G1 G2 → Ex G2 H2 → J.yld i H2 x H3 → ∀ d, (xs.map enc)[i]? = some d → ∃ G3, Gr G2 H2 G3 H3 ∧ Den X.K G3 x d) → (∀ i H2, Ex G1 H2 → (xs.map enc).length ≤ i → J.stop i H2) → R J H1) → wi σ H R)
    (hg : ∀ x, x ∈ xs → Blk X scope fun Y => Pg Y tg (wipeR r (own.map (·.2))) (enc x) (r2 x) js) (ht : ∀ x, x ∈ xs → Blk X scope fun Y => Pts Y ifs (r2 x) (p x)) (he : ∀ x, x ∈ xs → p x = true → Blk X scope fun Y => Pv Y elt (r2 x) (.d (f x)))
    (hl : xs.length ≤ 100000) (hj : ∀ j, j ∈ js → j ∈ own.map (·.2)) (hlen : ∀ x, x ∈ xs → (r2 x).length = r.length) {σ : L2.St} {G H : Hp} (g : Ex G H) (n : En X.K G σ r) {Q : VK} (hQ : ∀ v G2 H2, Gr G H G2 H2 → Den X.K G2 v (.d (.list ((xs.filter p).map f))) → Q v H2) :
    tLc wi (bG X scope tg) (bTs X scope ifs) (bE X scope elt) (own.map (·.2)) σ H Q := by
  refine hwi σ G H g n _ fun J G1 H1 k1 hgo hyl hst => fun D hD => ?_
  have hDG : G1 D = none := fresh_back k1.s hD
  rw [List.length_map] at hgo hst
  -- the invariant: behind i turns the list at D, which G2 does not know
  refine ⟨fun i m H2 => m = xs.length - i ∧ i ≤ xs.length ∧ Ex H1 H2 ∧ ∃ G2 vs, Ex G1 G2 ∧ Ex G2 H2 ∧ G2 D = none ∧ (∀ a, G1 a = none → G2 a ≠ none → Fr H1 a) ∧ H2 D = some (.lst vs) ∧ DpAll X.K G2 vs (((xs.take i).filter p).map f),
    ⟨xs.length, by simp, Nat.zero_le _, Ex.new hD, G1, [], Ex.refl _, k1.s.trans (Ex.new hD), hDG, fun a h1 h2 => absurd h1 h2, upd_same, .nil⟩, ?_⟩
  rintro i m H2 ⟨rfl, hi2, e12, G2, vs, e1, s2, d2, f2, hD2, hv⟩
  by_cases hlt : i < xs.length
  · obtain ⟨x, hx⟩ : ∃ x, xs[i]? = some x := ⟨xs[i], List.getElem?_eq_getElem hlt⟩
    have hmem : x ∈ xs := List.mem_of_getElem? hx
    refine .inr ⟨hgo i H2 (e1.trans s2) hlt, fun H' => Ex H1 H' ∧ ∃ G3 vs', Ex G1 G3 ∧ Ex G3 H' ∧ G3 D = none ∧ (∀ a, G1 a = none → G3 a ≠ none → Fr H1 a) ∧ H' D = some (.lst vs') ∧ DpAll X.K G3 vs' (((xs.take (i + 1)).filter p).map f), fun H' ⟨q0, q⟩ => ⟨xs.length - (i + 1), by omega, rfl, hlt, q0, q⟩, fun v H3 yl => ?_⟩
    obtain ⟨G3, k3, q3⟩ := hyl i G2 H2 v H3 e1 s2 yl (enc x) (by rw [List.getElem?_map, hx]; rfl)
    have hN3 : En X.K G3 σ r := n.up ((k1.g.trans e1).trans k3.g)
    have frD : ∀ {A B A' B' : Hp}, Gr A B A' B' → A D = none → NT B D → A' D = none := fun {A B A' B'} k hA hB => by
      cases q : A' D with
      | none => rfl
      | some o => exact (hB.no (k.f D hA (by rw [q]; exact fun z => nomatch z))).elim
    have d3 : G3 D = none := frD k3 d2 (some_nt hD2)
    have hD3 : H3 D = some (.lst vs) := k3.h D _ hD2
    have f3 : ∀ a, G1 a = none → G3 a ≠ none → Fr H1 a := fun a h1 h2 => by
      cases q : G2 a with
      | none => exact (k3.f a q h2).back e12
      | some o => exact f2 a h1 (by rw [q]; exact fun z => nomatch z)
    have hv3 : DpAll X.K G3 vs (((xs.take i).filter p).map f) := dpAll_up k3.g _ _ hv
    have ht1 : xs.take (i + 1) = xs.take i ++ [x] := take_succ hx
    intro s0 H0 C cl fp
    refine wG_imp (hg x hmem s0 H0 C cl fp (wipe σ (own.map (·.2))) G3 H3 v k3.s (hN3.wipe _) q3) fun σ2 H4 ⟨e4, n4, keep4⟩ => ?_
    subst e4
    refine ⟨wipe_eq (by rw [n4.len, hlen x hmem, n.len]) fun j hj' => keep4 j fun z => hj' (hj j z), fun s0 H0 C cl fp => ?_⟩
    refine wTs_imp (ht x hmem s0 H0 C cl fp σ2 G3 H4 k3.s n4) fun bb H5 ⟨G5, k5, q5⟩ => ?_
    subst q5
    have d5 : G5 D = none := frD k5 d3 (some_nt hD3)
    have hD5 : H5 D = some (.lst vs) := k5.h D _ hD3
    have f5 : ∀ a, G1 a = none → G5 a ≠ none → Fr H1 a := fun a h1 h2 => by
      cases q : G3 a with
      | none => exact (k5.f a q h2).back (e12.trans k3.h)
      | some o => exact f3 a h1 (by rw [q]; exact fun z => nomatch z)
    cases hp : p x with
    | false =>
      show _ ∧ _
      rw [ht1, List.filter_append, List.filter_cons, if_neg (by rw [hp]; decide)]
      refine ⟨(e12.trans k3.h).trans k5.h, G5, vs, (e1.trans k3.g).trans k5.g, k5.s, d5, f5, hD5, ?_⟩
      rw [List.filter_nil, List.append_nil]
      exact dpAll_up k5.g _ _ hv3
    | true =>
      show bE X scope elt _ _ _
      intro s0 H0 C cl fp
      refine wE_imp (he x hmem hp s0 H0 C cl fp σ2 G5 H5 k5.s (n4.up k5.g)) fun y H6 ⟨G6, k6, q6⟩ => ?_
      have d6 : G6 D = none := frD k6 d5 (some_nt hD5)
      have hD6 : H6 D = some (.lst vs) := k6.h D _ hD5
      have hvl := DpAll.len hv3
      refine ⟨vs, hD6, sz_lt ?_, fun a o ha => ?_, G6, vs ++ [y], ((e1.trans k3.g).trans k5.g).trans k6.g, k6.s.mut d6, d6, fun a h1 h2 => ?_, upd_same, ?_⟩
      · rw [hvl, List.length_map]
        have := List.length_filter_le p (xs.take i)
        rw [List.length_take] at this
        omega
      · have hne : a ≠ D := fun z => by rw [z, hD] at ha; cases ha
        rw [upd_ne hne]
        exact k6.h a o (k5.h a o (k3.h a o (e12 a o ha)))
      · cases q : G5 a with
        | none => exact (k6.f a q h2).back ((e12.trans k3.h).trans k5.h)
        | some o => exact f5 a h1 (by rw [q]; exact fun z => nomatch z)
      · rw [ht1, List.filter_append, List.filter_cons, if_pos hp, List.filter_nil, List.map_append]
        exact DpAll.app (dpAll_up (k5.g.trans k6.g) _ _ hv3) (.cons q6 .nil)
  · have hi3 : i = xs.length := by omega
    subst hi3
    rw [List.take_length] at hv
    refine .inl ⟨hst _ H2 (e1.trans s2) (Nat.le_refl _), hQ _ (upd G2 D (.lst vs)) _ ⟨(k1.g.trans e1).trans (Ex.new d2), fun a o h => ?_, k1.h.trans e12, fun a h1 h2 => ?_⟩ (Dp.lst (.inl upd_same) (dpAll_up (Ex.new d2) _ _ hv))⟩
    · by_cases ha : a = D
      · subst ha
        rw [upd_same] at h
        rw [hD2]
        exact h
      · rw [upd_ne ha] at h
        exact s2 a o h
    · by_cases ha : a = D
      · rw [ha]
        exact .of (fresh_back k1.h hD)
      · rw [upd_ne ha] at h2
        cases q : G1 a with
        | none => exact (f2 a q h2).back k1.h
        | some o => exact k1.f a h1 (by rw [q]; exact fun z => nomatch z)
theorem pv_lc {al : Type} {elt tg iter : Expr} {ifs : List Expr} {scope : Scope} (own : List (Str × Nat)) {js : List Nat} {xs : List al} {enc : al → Dn} (p : al → Bool) (f : al → PyData) (r2 : al → Rho) (hc : X.calm = true) (hN : X.N.Nodup) (hw : Wk X tg iter r (xs.map enc)) (ok : BlkOk X.N X.env.scope scope own)
    (hg : ∀ x, x ∈ xs → Blk X scope fun Y => Pg Y tg (wipeR r (own.map (·.2))) (enc x) (r2 x) js) (ht : ∀ x, x ∈ xs → Blk X scope fun Y => Pts Y ifs (r2 x) (p x)) (he : ∀ x, x ∈ xs → p x = true → Blk X scope fun Y => Pv Y elt (r2 x) (.d (f x)))
    (hl : xs.length ≤ 100000) (hj : ∀ j, j ∈ js → j ∈ own.map (·.2)) (hlen : ∀ x, x ∈ xs → (r2 x).length = r.length) (hs : ∀ x, foldedSetIterable iter X.env x = pure x := by intro _; rfl) : Pv X (.ListComp elt [⟨tg, iter, ifs, 0⟩] scope pos) r (.d (.list ((xs.filter p).map f))) := by
  obtain ⟨wi, hi, hwi⟩ := hw
  intro σ G H g n
  exact wE_of (pe_lc hc hN hi ok bG_ok bTs_ok bE_ok hs) (lc_data hwi hg ht he hl hj hlen g n fun v G2 H2 k q => ⟨G2, k, q⟩)
end
end Fb

/-! FbC: calls (own defs, built-ins) and statements, by data. -/
namespace Fb
open PySem L2 Evl
section
variable {X : Cx} {a b c e o : Expr} {es rest : List Expr} {r : Rho} {d d1 d2 d3 : Dn} {pos p : Pos}

/-! #### built-ins -/
abbrev CallD (K : PySem.W.Frag) (f : List V → Hp → VK → Prop) (ds : List Dn) (d : Dn) : Prop := ∀ vs G H (Q : VK), Ex G H → Dens K G vs ds → (∀ v G' H', Gr G H G' H' → Den K G' v d → Q v H') → f vs H Q
theorem pv_callB {x : Str} {id : String} {f : List V → Hp → VK → Prop} {ds : List Dn} (hc : CallR X (.builtin id) f) (hg : Gl X x) (hm : X.mg x = none) (hv : bootBuiltins x = some (.builtin id)) (ha : Pa X (e :: es) r ds) (hr : CallD X.K f ds d)
    (hn : x ≠ "__name__" := by decide) (hdb : (x == ("__debug__" : Str)) = false := by decide) (he : starEach (e :: es) X.env = (false, eval e X.env) :: starEach es X.env := by rfl) (hpl : (backTo pos (starEach es X.env)).any (·.1) = false := by rfl) :
    Pv X (.Call (.Name x p) (e :: es) [] pos) r d := fun σ G H g n =>
  wE_of (pe_callB hc hg hm hv pa_w hn hdb he hpl) (wA_imp (ha σ G H g n) fun vs H1 ⟨G1, k1, q1⟩ => hr vs G1 H1 _ k1.s q1 fun v G2 H2 k2 q2 => ⟨G2, k1.trans k2, q2⟩)
theorem pv_callTy {x : Str} {T : String} {f : List V → Hp → VK → Prop} {ds : List Dn} (hc : CallR X (.type T) f) (hg : Gl X x) (hm : X.mg x = none) (hv : bootBuiltins x = some (.type T)) (ha : Pa X (e :: es) r ds) (hr : CallD X.K f ds d)
    (hn : x ≠ "__name__" := by decide) (hdb : (x == ("__debug__" : Str)) = false := by decide) (he : starEach (e :: es) X.env = (false, eval e X.env) :: starEach es X.env := by rfl) (hpl : (backTo pos (starEach es X.env)).any (·.1) = false := by rfl) :
    Pv X (.Call (.Name x p) (e :: es) [] pos) r d := fun σ G H g n =>
  wE_of (pe_callTy hc hg hm hv pa_w hn hdb he hpl) (wA_imp (ha σ G H g n) fun vs H1 ⟨G1, k1, q1⟩ => hr vs G1 H1 _ k1.s q1 fun v G2 H2 k2 q2 => ⟨G2, k1.trans k2, q2⟩)
theorem dens1 {K : PySem.W.Frag} {H : Hp} {vs : List V} (h : Dens K H vs [d]) : ∃ v, vs = [v] ∧ Den K H v d := by
  cases h with
  | cons h1 h2 => cases h2; exact ⟨_, rfl, h1⟩
theorem dens2 {K : PySem.W.Frag} {H : Hp} {vs : List V} (h : Dens K H vs [d, d1]) : ∃ v w, vs = [v, w] ∧ Den K H v d ∧ Den K H w d1 := by
  cases h with
  | cons h1 h2 =>
    obtain ⟨w, rfl, h3⟩ := dens1 h2
    exact ⟨_, w, rfl, h1, h3⟩
/-- len -/
def lenD : PyData → Option Nat
  | .str y => some y.length
  | .list xs => some xs.length
  | .tuple xs => some xs.length
  | _ => none
theorem lenV_of {K : PySem.W.Frag} {H : Hp} {x : V} {y : PyData} {n : Nat} (h : Dp K H x y) (hs : strOk y) (hn : lenD y = some n) : LenV K x H n := by
  cases h with
  | str z => cases hn; exact ⟨hs, rfl⟩
  | lst h1 h2 => cases hn; exact .inl ⟨_, .inl h1, (DpAll.len h2).symm⟩
  | tup h1 h2 => cases hn; exact .inr ⟨_, h1.sq, (DpAll.len h2).symm⟩
  | _ => cases hn
theorem pv_len {y : PyData} {n : Nat} (hm : X.mg "len" = none) (ha : Pv X a r (.d y)) (hn : lenD y = some n) (hs : strOk y := by trivial) (hg : Gl X "len" := by rfl) (he : starEach [a] X.env = (false, eval a X.env) :: starEach [] X.env := by rfl) (hpl : (backTo pos (starEach [] X.env)).any (·.1) = false := by rfl) :
    Pv X (.Call (.Name "len" p) [a] [] pos) r (.d (.int n)) :=
  pv_callB call_len hg hm PySem.boot_len (pa_cons ha pa_nil he) (fun vs G H Q g hd k => by
    obtain ⟨v, rfl, hv⟩ := dens1 hd
    exact ⟨v, n, rfl, lenV_of (dp_up g _ _ hv) hs hn, k _ G H (Gr.refl g) (Dp.int _)⟩) (he := he) (hpl := hpl)
/-- isinstance with a built-in class -/
def tyD : PyData → String
  | .none => "NoneType"
  | .bool _ => "bool"
  | .int _ => "int"
  | .str _ => "str"
  | .list _ => "list"
  | .tuple _ => "tuple"
  | .dict _ => "dict"
theorem tyX_of {K : PySem.W.Frag} {H : Hp} {x : V} {y : PyData} (h : Dp K H x y) : TyX K H x (.type (tyD y)) := by
  cases h with
  | non => exact .base .non
  | bl b => exact .base (.bl b)
  | int i => exact .base (.int i)
  | str z => exact .base (.str z)
  | lst h1 h2 =>
    rcases h1 with h1 | ⟨o, h1⟩
    · exact .base (.lst h1)
    · exact .base (.frz h1)
  | tup h1 h2 =>
    rcases h1.sq with (h1 | ⟨o, h1⟩) | ⟨o, its, n, hk, hc, _⟩
    · exact .base (.tup h1)
    · exact .fTuple h1
    · exact .kTuple hk hc
theorem pv_ty {x : Str} {T : String} (hm : X.mg x = none) (hv : bootBuiltins x = some (.type T)) (hg : Gl X x := by rfl) (hn : x ≠ "__name__" := by decide) (hd : (x == ("__debug__" : Str)) = false := by decide) : Pv X (.Name x pos) r (.v (.ty T)) := fun σ G H g _ =>
  wE_of (pe_bltn hg hm hv (v := .ty T) rfl hn hd) ⟨G, Gr.refl g, rfl⟩
theorem pv_isi {y : PyData} {T : String} {k : Bool} (hm : X.mg "isinstance" = none) (ha : Pv X a r (.d y)) (hb : Pv X b r (.v (.ty T))) (hk : kitB (tyD y) T = some k)
    (hg : Gl X "isinstance" := by rfl) (he : starEach [a, b] X.env = (false, eval a X.env) :: starEach [b] X.env := by rfl) (he2 : starEach [b] X.env = (false, eval b X.env) :: starEach [] X.env := by rfl) (hpl : (backTo pos (starEach [b] X.env)).any (·.1) = false := by rfl) :
    Pv X (.Call (.Name "isinstance" p) [a, b] [] pos) r (.d (.bool k)) :=
  pv_callB call_isi hg hm PyProof.Rows.boot_isinstance (pa_cons ha (pa_cons hb pa_nil he2) he) (fun vs G H Q g hd kk => by
    obtain ⟨v, w, rfl, hv, hw⟩ := dens2 hd
    have hw' : w = .ty T := hw
    subst hw'
    exact ⟨v, _, _, _, k, rfl, .ty T, tyX_of (dp_up g _ _ hv), kit_ty hk, kk _ G H (Gr.refl g) (Dp.bl _)⟩) (he := he) (hpl := hpl)
def isTup : PyData → Bool
  | .tuple _ => true
  | _ => false
def isStr : PyData → Bool
  | .str _ => true
  | _ => false
def isBool : PyData → Bool
  | .bool _ => true
  | _ => false
def isInt : PyData → Bool
  | .int _ => true
  | .bool _ => true
  | _ => false
def isList : PyData → Bool
  | .list _ => true
  | _ => false
theorem kit_tup : ∀ y : PyData, kitB (tyD y) "tuple" = some (isTup y)
  | .none => (by decide +kernel : kitB "NoneType" "tuple" = some false)
  | .bool _ => (by decide +kernel : kitB "bool" "tuple" = some false)
  | .int _ => (by decide +kernel : kitB "int" "tuple" = some false)
  | .str _ => (by decide +kernel : kitB "str" "tuple" = some false)
  | .list _ => (by decide +kernel : kitB "list" "tuple" = some false)
  | .tuple _ => (by decide +kernel : kitB "tuple" "tuple" = some true)
  | .dict _ => (by decide +kernel : kitB "dict" "tuple" = some false)
theorem kit_str : ∀ y : PyData, kitB (tyD y) "str" = some (isStr y)
  | .none => (by decide +kernel : kitB "NoneType" "str" = some false)
  | .bool _ => (by decide +kernel : kitB "bool" "str" = some false)
  | .int _ => (by decide +kernel : kitB "int" "str" = some false)
  | .str _ => (by decide +kernel : kitB "str" "str" = some true)
  | .list _ => (by decide +kernel : kitB "list" "str" = some false)
  | .tuple _ => (by decide +kernel : kitB "tuple" "str" = some false)
  | .dict _ => (by decide +kernel : kitB "dict" "str" = some false)
theorem kit_bool : ∀ y : PyData, kitB (tyD y) "bool" = some (isBool y)
  | .none => (by decide +kernel : kitB "NoneType" "bool" = some false)
  | .bool _ => (by decide +kernel : kitB "bool" "bool" = some true)
  | .int _ => (by decide +kernel : kitB "int" "bool" = some false)
  | .str _ => (by decide +kernel : kitB "str" "bool" = some false)
  | .list _ => (by decide +kernel : kitB "list" "bool" = some false)
  | .tuple _ => (by decide +kernel : kitB "tuple" "bool" = some false)
  | .dict _ => (by decide +kernel : kitB "dict" "bool" = some false)
theorem kit_int : ∀ y : PyData, kitB (tyD y) "int" = some (isInt y)
  | .none => (by decide +kernel : kitB "NoneType" "int" = some false)
  | .bool _ => (by decide +kernel : kitB "bool" "int" = some true)
  | .int _ => (by decide +kernel : kitB "int" "int" = some true)
  | .str _ => (by decide +kernel : kitB "str" "int" = some false)
  | .list _ => (by decide +kernel : kitB "list" "int" = some false)
  | .tuple _ => (by decide +kernel : kitB "tuple" "int" = some false)
  | .dict _ => (by decide +kernel : kitB "dict" "int" = some false)
theorem kit_list : ∀ y : PyData, kitB (tyD y) "list" = some (isList y)
  | .none => (by decide +kernel : kitB "NoneType" "list" = some false)
  | .bool _ => (by decide +kernel : kitB "bool" "list" = some false)
  | .int _ => (by decide +kernel : kitB "int" "list" = some false)
  | .str _ => (by decide +kernel : kitB "str" "list" = some false)
  | .list _ => (by decide +kernel : kitB "list" "list" = some true)
  | .tuple _ => (by decide +kernel : kitB "tuple" "list" = some false)
  | .dict _ => (by decide +kernel : kitB "dict" "list" = some false)
/-- abs, max, min of two ints, int of a truth value -/
theorem pv_abs {i : Int} (hm : X.mg "abs" = none) (ha : Pv X a r (.d (.int i))) (hg : Gl X "abs" := by rfl) (he : starEach [a] X.env = (false, eval a X.env) :: starEach [] X.env := by rfl) (hpl : (backTo pos (starEach [] X.env)).any (·.1) = false := by rfl) :
    Pv X (.Call (.Name "abs" p) [a] [] pos) r (.d (.int (if i < 0 then -i else i))) :=
  pv_callB call_abs hg hm PyProof.Rows.boot_abs (pa_cons ha pa_nil he) (fun vs G H Q g hd k => by
    obtain ⟨v, rfl, hv⟩ := dens1 hd
    exact ⟨i, by rw [den_int hv], k _ G H (Gr.refl g) (Dp.int _)⟩) (he := he) (hpl := hpl)
theorem pv_max2 {i j : Int} (hm : X.mg "max" = none) (ha : Pv X a r (.d (.int i))) (hb : Pv X b r (.d (.int j)))
    (hc : X.calm = true := by rfl) (hg : Gl X "max" := by rfl) (he : starEach [a, b] X.env = (false, eval a X.env) :: starEach [b] X.env := by rfl) (he2 : starEach [b] X.env = (false, eval b X.env) :: starEach [] X.env := by rfl) (hpl : (backTo pos (starEach [b] X.env)).any (·.1) = false := by rfl) :
    Pv X (.Call (.Name "max" p) [a, b] [] pos) r (.d (.int (if j > i then j else i))) :=
  pv_callB (call_max2 hc) hg hm PyProof.Rows.boot_max (pa_cons ha (pa_cons hb pa_nil he2) he) (fun vs G H Q g hd k => by
    obtain ⟨v, w, rfl, hv, hw⟩ := dens2 hd
    exact ⟨i, j, by rw [den_int hv, den_int hw], k _ G H (Gr.refl g) (Dp.int _)⟩) (he := he) (hpl := hpl)
theorem pv_min2 {i j : Int} (hm : X.mg "min" = none) (ha : Pv X a r (.d (.int i))) (hb : Pv X b r (.d (.int j)))
    (hc : X.calm = true := by rfl) (hg : Gl X "min" := by rfl) (he : starEach [a, b] X.env = (false, eval a X.env) :: starEach [b] X.env := by rfl) (he2 : starEach [b] X.env = (false, eval b X.env) :: starEach [] X.env := by rfl) (hpl : (backTo pos (starEach [b] X.env)).any (·.1) = false := by rfl) :
    Pv X (.Call (.Name "min" p) [a, b] [] pos) r (.d (.int (if j < i then j else i))) :=
  pv_callB (call_min2 hc) hg hm PyProof.Rows.boot_min (pa_cons ha (pa_cons hb pa_nil he2) he) (fun vs G H Q g hd k => by
    obtain ⟨v, w, rfl, hv, hw⟩ := dens2 hd
    exact ⟨i, j, by rw [den_int hv, den_int hw], k _ G H (Gr.refl g) (Dp.int _)⟩) (he := he) (hpl := hpl)
theorem pv_intb {i : Bool} (hm : X.mg "int" = none) (ha : Pv X a r (.d (.bool i))) (hg : Gl X "int" := by rfl) (he : starEach [a] X.env = (false, eval a X.env) :: starEach [] X.env := by rfl) (hpl : (backTo pos (starEach [] X.env)).any (·.1) = false := by rfl) :
    Pv X (.Call (.Name "int" p) [a] [] pos) r (.d (.int (if i then 1 else 0))) :=
  pv_callTy call_int1 hg hm PyProof.Rows.boot_int (pa_cons ha pa_nil he) (fun vs G H Q g hd k => by
    obtain ⟨v, rfl, hv⟩ := dens1 hd
    exact .inr ⟨i, by rw [den_bool hv], k _ G H (Gr.refl g) (Dp.int _)⟩) (he := he) (hpl := hpl)
/-- tuple(list), list(tuple or list) -/
theorem pv_tupleL {xs : List PyData} (hm : X.mg "tuple" = none) (ha : Pv X a r (.d (.list xs))) (hg : Gl X "tuple" := by rfl) (he : starEach [a] X.env = (false, eval a X.env) :: starEach [] X.env := by rfl) (hpl : (backTo pos (starEach [] X.env)).any (·.1) = false := by rfl) :
    Pv X (.Call (.Name "tuple" p) [a] [] pos) r (.d (.tuple xs)) :=
  pv_callTy call_tuple_of hg hm PyProof.Rows.boot_tuple (pa_cons ha pa_nil he) (fun vs G H Q g hd k => by
    obtain ⟨v, rfl, hv⟩ := dens1 hd
    cases hv with
    | lst h1 h2 => exact ⟨_, _, rfl, .inl ⟨.inl (ex_rd g h1), fun l hl => k _ _ _ (Gr.new g hl) (Dp.tup (.inl upd_same) (dpAll_up (Ex.new (fresh_back g hl)) _ _ h2))⟩⟩) (he := he) (hpl := hpl)
theorem pv_tupleT {xs : List PyData} (hm : X.mg "tuple" = none) (ha : Pv X a r (.d (.tuple xs))) (hg : Gl X "tuple" := by rfl) (he : starEach [a] X.env = (false, eval a X.env) :: starEach [] X.env := by rfl) (hpl : (backTo pos (starEach [] X.env)).any (·.1) = false := by rfl) :
    Pv X (.Call (.Name "tuple" p) [a] [] pos) r (.d (.tuple xs)) :=
  pv_callTy call_tuple_of hg hm PyProof.Rows.boot_tuple (pa_cons ha pa_nil he) (fun vs G H Q g hd k => by
    obtain ⟨v, rfl, hv⟩ := dens1 hd
    cases hv with
    | tup h1 h2 => exact ⟨_, _, rfl, .inr ⟨ex_t g h1.sq, k _ _ _ (Gr.refl g) (Dp.tup h1 h2)⟩⟩) (he := he) (hpl := hpl)
theorem pv_list {xs : List PyData} {y : PyData} (hy : y = .list xs ∨ y = .tuple xs) (hm : X.mg "list" = none) (ha : Pv X a r (.d y)) (hg : Gl X "list" := by rfl) (he : starEach [a] X.env = (false, eval a X.env) :: starEach [] X.env := by rfl) (hpl : (backTo pos (starEach [] X.env)).any (·.1) = false := by rfl) :
    Pv X (.Call (.Name "list" p) [a] [] pos) r (.d (.list xs)) :=
  pv_callTy call_list_of hg hm PyProof.Rows.boot_list (pa_cons ha pa_nil he) (fun vs G H Q g hd k => by
    obtain ⟨v, rfl, hv⟩ := dens1 hd
    rcases hy with rfl | rfl
    · cases hv with
      | lst h1 h2 => exact ⟨_, _, rfl, .inl (.inl (ex_rd g h1)), fun l hl => k _ _ _ (Gr.new g hl) (Dp.lst (.inl upd_same) (dpAll_up (Ex.new (fresh_back g hl)) _ _ h2))⟩
    · cases hv with
      | tup h1 h2 => exact ⟨_, _, rfl, .inr (ex_t g h1.sq), fun l hl => k _ _ _ (Gr.new g hl) (Dp.lst (.inl upd_same) (dpAll_up (Ex.new (fresh_back g hl)) _ _ h2))⟩) (he := he) (hpl := hpl)

/-! #### + and * of lists -/
theorem lstR {pins : List (Addr × Obj)} {σ : L2.St} {H : Hp} {s : Shared} {l : Addr} {xs : List V} (I : L2.Inv X pins σ H s) (hH : Rd H l (.lst xs)) : xs.length ≤ sizeLine ∧ ∃ (its : List Value) (n : Nat), Vals xs its ∧ xs.length = its.length ∧ s.heap.get? l = some { cls := .type "list", data := .seq its.toArray n } := by
  obtain ⟨z, its, n, rr, e⟩ := hH.ok I.hok
  exact ⟨z, its, n, rr, rr.length, e⟩
def rCatR : R2 := fun x y H Q => ∃ l b xs zs, x = .ref l ∧ y = .ref b ∧ Rd H l (.lst xs) ∧ Rd H b (.lst zs) ∧ xs.length + zs.length ≤ sizeLine ∧ ∀ p, H p = none → Q (.ref p) (upd H p (.lst (xs ++ zs)))
theorem op_catR : OpR X (binaryOp .Add) rCatR := by
  intro pins s σ H x y v u Q I rx ry h
  obtain ⟨l, b, xs, zs, rfl, rfl, hH, hB, hz, q⟩ := h
  cases rx
  cases ry
  obtain ⟨z, its, n, rr, hl, e⟩ := lstR I hH
  obtain ⟨z2, its2, n2, r2, hl2, e2⟩ := lstR I hB
  refine PySem.P.add_list e e2 ?_ (by rw [List.size_toArray, List.size_toArray]; omega)
  have ea : its.toArray ++ its2.toArray = (its ++ its2).toArray := by simp
  rw [ea]
  exact ⟨.ref _, _, I.lnew (t' := s.toks) (rr.append r2) (by rw [List.length_append]; omega), rfl, q _ I.fresh⟩
theorem pv_catL {xs ys : List PyData} (ha : Pv X a r (.d (.list xs))) (hb : Pv X b r (.d (.list ys))) (hl : xs.length + ys.length ≤ 100000) : Pv X (.BinOp a .Add b pos) r (.d (.list (xs ++ ys))) :=
  pv_bin op_catR ha hb fun x y G H Q e h1 h2 k => by
    cases h1 with
    | lst s1 t1 =>
      cases h2 with
      | lst s2 t2 =>
        have l1 := DpAll.len t1
        have l2 := DpAll.len t2
        exact ⟨_, _, _, _, rfl, rfl, ex_rd e s1, ex_rd e s2, sz_of (by omega), fun p hp => k _ _ _ (Gr.new e hp) (Dp.lst (.inl upd_same) (dpAll_up (Ex.new (fresh_back e hp)) _ _ (DpAll.app t1 t2)))⟩
theorem dpAll_rep {K : PySem.W.Frag} {H : Hp} {vs : List V} {ds : List PyData} (h : DpAll K H vs ds) : ∀ n : Nat, DpAll K H (List.replicate n vs).flatten (List.replicate n ds).flatten
  | 0 => .nil
  | n + 1 => by
    rw [List.replicate_succ, List.replicate_succ, List.flatten_cons, List.flatten_cons]
    exact DpAll.app h (dpAll_rep h n)
/-- [..] * k, the list just written -/
theorem pv_repL {xs : List PyData} {k : Int} (ha : Pd X es r xs) (hb : Pv X b r (.d (.int k))) (hk : -(2 ^ 63) ≤ k ∧ k < 2 ^ 63) (hl : xs.length * k.toNat ≤ 100000) (hl1 : xs.length ≤ 100000 := by simp) {p2 : Pos} : Pv X (.BinOp (.List es p2) .Mult b pos) r (.d (.list (List.replicate k.toNat xs).flatten)) := fun σ G H g n =>
  wE_of (pe_op op_rep (pe_lst pa_w) pe_w) (wA_imp (ha σ G H g n) fun vs H1 ⟨G1, k1, q1⟩ => by
    have q := Dens.dp q1
    have hlen := DpAll.len q
    refine ⟨sz_of (by omega), fun p hp => ?_⟩
    have kn := Gr.new (o := .lst vs) k1.s hp
    refine wE_imp (hb σ _ _ kn.s ((n.up k1.g).up kn.g)) fun y H2 ⟨G2, k2, q2⟩ => ?_
    refine ⟨p, k, vs, rfl, den_int q2, k2.h _ _ upd_same, hk.1, hk.2, sz_of (by rw [hlen]; exact hl), fun l hl2 => ⟨_, ((k1.trans kn).trans k2).trans (Gr.new k2.s hl2), Dp.lst (.inl upd_same) (dpAll_up (kn.g.trans (k2.g.trans (Ex.new (fresh_back k2.s hl2)))) _ _ (dpAll_rep q _))⟩⟩)

/-! #### in, not in -/
/-- a text (or another flat thing) in a tuple, a list of flat things -/
def flatD : PyData → Bool
  | .none => true
  | .bool _ => true
  | .int _ => true
  | .str _ => true
  | _ => false
theorem pv_inD {x : PyData} {xs : List PyData} (hu : X.A.units + 65 < cLine) (ha : Pv X a r (.d x)) (hb : Pv X b r (.d (.list xs))) (h1 : SeqAt.shaped x = true) (h2 : SeqAt.shaped (.list xs) = true) (hm : behindInMarks .In b = false := by rfl) : Pv X (.Compare a [.In] [b] pos) r (.d (.bool (xs.any fun z => PyData.eqv z x))) :=
  pv_cmp (op_inD hu) ha hb (fun v w G H Q e q1 q2 k => ⟨x, xs, Dp.l2 _ _ (dp_up e _ _ q1), Dp.l2 _ _ (dp_up e _ _ q2), h1, h2, k _ G H (Gr.refl e) (Dp.bl _)⟩) hm
theorem pt_inD {x : PyData} {xs : List PyData} (hu : X.A.units + 65 < cLine) (ha : Pv X a r (.d x)) (hb : Pv X b r (.d (.list xs))) (h1 : SeqAt.shaped x = true) (h2 : SeqAt.shaped (.list xs) = true) (hm : behindInMarks .In b = false := by rfl) : Pt X (.Compare a [.In] [b] pos) r (xs.any fun z => PyData.eqv z x) :=
  pt_cmp (op_inD hu) ha hb (fun v w G H Q e q1 q2 k => ⟨x, xs, Dp.l2 _ _ (dp_up e _ _ q1), Dp.l2 _ _ (dp_up e _ _ q2), h1, h2, k _ G H (Gr.refl e) (Dp.bl _)⟩) hm
theorem pv_ninD {x : PyData} {xs : List PyData} (hu : X.A.units + 65 < cLine) (ha : Pv X a r (.d x)) (hb : Pv X b r (.d (.list xs))) (h1 : SeqAt.shaped x = true) (h2 : SeqAt.shaped (.list xs) = true) (hm : behindInMarks .NotIn b = false := by rfl) : Pv X (.Compare a [.NotIn] [b] pos) r (.d (.bool (!xs.any fun z => PyData.eqv z x))) :=
  pv_cmp (op_notInD hu) ha hb (fun v w G H Q e q1 q2 k => ⟨x, xs, Dp.l2 _ _ (dp_up e _ _ q1), Dp.l2 _ _ (dp_up e _ _ q2), h1, h2, k _ G H (Gr.refl e) (Dp.bl _)⟩) hm
theorem pt_ninD {x : PyData} {xs : List PyData} (hu : X.A.units + 65 < cLine) (ha : Pv X a r (.d x)) (hb : Pv X b r (.d (.list xs))) (h1 : SeqAt.shaped x = true) (h2 : SeqAt.shaped (.list xs) = true) (hm : behindInMarks .NotIn b = false := by rfl) : Pt X (.Compare a [.NotIn] [b] pos) r (!xs.any fun z => PyData.eqv z x) :=
  pt_cmp (op_notInD hu) ha hb (fun v w G H Q e q1 q2 k => ⟨x, xs, Dp.l2 _ _ (dp_up e _ _ q1), Dp.l2 _ _ (dp_up e _ _ q2), h1, h2, k _ G H (Gr.refl e) (Dp.bl _)⟩) hm
/-- a text in a tuple of texts -/
theorem strs_flat {K : PySem.W.Frag} {H : Hp} : ∀ {vs : List V} {ss : List Str}, DpAll K H vs (ss.map PyData.str) → vs = ss.map V.str
  | _, [], h => by cases h; rfl
  | _, s :: ss, h => by
    cases h with
    | cons h1 h2 =>
      cases h1
      rw [strs_flat h2]
      rfl
theorem inV_strs (x : Str) : ∀ ss : List Str, inV (.str x) (ss.map V.str) = ss.contains x
  | [] => rfl
  | s :: ss => by
    have ih := inV_strs x ss
    unfold inV at ih ⊢
    rw [List.map_cons, List.any_cons, ih, List.contains_cons]
    congr 1
    show (s == x) = (x == s)
    rw [Bool.eq_iff_iff, beq_iff_eq, beq_iff_eq]
    exact eq_comm
theorem flat_strs : ∀ ss : List Str, (ss.map V.str).all flatV = true
  | [] => rfl
  | s :: ss => by rw [List.map_cons, List.all_cons, flat_strs ss]; rfl
theorem inS_op {x : Str} {ss : List Str} {neg : Bool} : Op2 X.K (rIn X.K neg) (.d (.str x)) (.d (.tuple (ss.map PyData.str))) (.d (.bool (if neg then !ss.contains x else ss.contains x))) := fun v w G H Q e q1 q2 k => by
  cases q2 with
  | tup s1 t1 =>
    have := strs_flat t1
    subst this
    refine ⟨_, _, rfl, .inr (ex_t e s1.sq), by rw [den_str q1]; rfl, flat_strs ss, k _ G H (Gr.refl e) ?_⟩
    rw [den_str q1, inV_strs]
    exact Dp.bl _
theorem pt_ninS {x : Str} {ss : List Str} (ha : Pv X a r (.d (.str x))) (hb : Pv X b r (.d (.tuple (ss.map PyData.str)))) (hm : behindInMarks .NotIn b = false := by rfl) : Pt X (.Compare a [.NotIn] [b] pos) r (!ss.contains x) := pt_cmp op_notIn_seq ha hb (inS_op (neg := true)) hm
theorem pt_inS {x : Str} {ss : List Str} (ha : Pv X a r (.d (.str x))) (hb : Pv X b r (.d (.tuple (ss.map PyData.str)))) (hm : behindInMarks .In b = false := by rfl) : Pt X (.Compare a [.In] [b] pos) r (ss.contains x) := pt_cmp op_in_seq ha hb (inS_op (neg := false)) hm
/-- one sign in a text -/
theorem pt_nin1 {c : Nat} {z : Str} (ha : Pv X a r (.d (.str ⟨#[c]⟩))) (hb : Pv X b r (.d (.str z))) (hm : behindInMarks .NotIn b = false := by rfl) : Pt X (.Compare a [.NotIn] [b] pos) r (!decide (c ∈ z.cps.toList)) :=
  pt_cmp op_notIn_sign ha hb (fun v w G H Q e q1 q2 k => ⟨c, z, den_str q1, den_str q2, k _ G H (Gr.refl e) (Dp.bl _)⟩) hm

/-! #### calls of own defs -/
/-- at x stands a def that keeps the promise sp, at the level k -/
structure Fc (P : Program) (w : World) (K : PySem.W.Frag) (mg : Str → Option Value) (base : Heap) (k : Nat) (x : Str) (sp : Sp) : Prop where
  ex : ∃ f fd ps, FnOk P w K mg base (L2.CX P w) k f fd ps sp ∧ mg x = some (.ref f) ∧ PySem.W.keepIn K (.ref f) = true ∧ Binds K fd ps []
/-- the promise of a pure def: R of the arguments' data and the answer's; or, B, an error of the class at C -/
def spR (K : PySem.W.Frag) (R : List Dn → Dn → Prop) (B : List Dn → Addr → Prop) : Sp := fun vs H Q E => ∃ ds G, Ex G H ∧ Dens K G vs ds ∧
  ((∃ d, R ds d ∧ ∀ v G' H', Gr G H G' H' → Den K G' v d → Q v H') ∨ (∃ C, B ds C ∧ ∀ G' H', Gr G H G' H' → E (.ref C) none H'))
abbrev noB : List Dn → Addr → Prop := fun _ _ => False
theorem pv_call {x : Str} {k j : Nat} {R : List Dn → Dn → Prop} {B : List Dn → Addr → Prop} {ds : List Dn} (F : Fc X.prog X.w X.K X.mg X.base k x (spR X.K R B)) (hr : Room j X.A) (ha : Pa X (e :: es) r ds) (hR : R ds d) (hk : k ≤ j := by decide) (hg : Gl X x := by rfl)
    (hdb : (x == ("__debug__" : Str)) = false := by decide) (he : starEach (e :: es) X.env = (false, eval e X.env) :: starEach es X.env := by rfl) (hpl : (backTo pos (starEach es X.env)).any (·.1) = false := by rfl) :
    Pv X (.Call (.Name x p) (e :: es) [] pos) r d := fun σ G H g n => by
  obtain ⟨f, fd, ps, F, hm, hkp, hb⟩ := F.ex
  refine wE_of (pe_call F (hr.mono hk) hg hm hkp hb .nil passL pa_w hdb he hpl) (wA_imp (ha σ G H g n) fun vs H1 ⟨G1, k1, q1⟩ => ?_)
  rw [List.append_nil]
  exact ⟨ds, G1, k1.s, q1, .inl ⟨d, hR, fun v G2 H2 k2 q2 => ⟨G2, k1.trans k2, q2⟩⟩⟩
end

/-! ### statements -/
/-- from the environment r, G grown from G0 as H from H0, the block sts comes to D -/
def Go (X : Cx) (sts : List Stmt) (D : Ends) (G0 H0 : Hp) (r : Rho) : Prop := ∀ σ G H, Gr G0 H0 G H → En X.K G σ r → wSs X sts D σ H
/-- behind a statement: the environment r -/
def Nx (K : PySem.W.Frag) (G0 H0 : Hp) (r : Rho) : L2.St → Hp → Prop := fun σ H => ∃ G, Gr G0 H0 G H ∧ En K G σ r
section
variable {X : Cx} {a b c e o : Expr} {st : Stmt} {sts ss rest : List Stmt} {r : Rho} {d d1 d2 d3 : Dn} {pos p : Pos} {D : Ends} {G0 H0 : Hp}
theorem go_in {N : List Str} {vs : List V} {ds : List Dn} {G H : Hp} (g : Ex G H) (hd : Dens X.K G vs ds) (h : Go X sts D G H (ds.map some ++ List.replicate (N.length - vs.length) none)) : wSs X sts D (L2.start N vs) H := h _ G H (Gr.refl g) (En.start hd)
theorem go_nil (h : ∀ σ H, Nx X.K G0 H0 r σ H → D.nx σ H) : Go X [] D G0 H0 r := fun σ G H g n => wSs_of pss_nil (h σ H ⟨G, g, n⟩)
theorem go_back (h : Go X rest D G0 H0 r) : ∀ σ H, Nx X.K G0 H0 r σ H → wSs X rest D σ H := fun σ H ⟨G, g, n⟩ => h σ G H g n
theorem go_set (i : Nat) {x : Str} {p' : Pos} (h : Pv X e r d) (k : Go X rest D G0 H0 (r.set i (some d))) (hN : X.N.Nodup) (hi : X.N[i]? = some x := by rfl) (hx : Loc X.env.scope x := by first | exact Or.inl rfl | exact Or.inr rfl)
    (hs : swapsWith e (some (.Name x p')) pos.line X.env = pure false := by rfl) (hf : X.fn x = true ∨ X.env.scope.names.lookup x = some .local := by first | exact .inl rfl | exact .inr rfl) : Go X (.Assign [.Name x p'] e pos :: rest) D G0 H0 r := fun σ G H g n =>
  wSs_of (pss_cons (ps_set hN hi hx pe_w hs hf) pss_w) (wE_imp (h σ G H g.s n) fun v H1 ⟨G1, k1, q1⟩ => k _ G1 H1 (g.trans k1) ((n.up k1.g).set i q1))
/-- y = [..], a local -/
theorem go_setLc {al : Type} (i : Nat) {y : Str} {py pl : Pos} {elt tg iter : Expr} {ifs : List Expr} {scope : Scope} (own : List (Str × Nat)) {js : List Nat} {xs : List al} {enc : al → Dn} (f0 : al → Bool) (f : al → PyData) (r2 : al → Rho) (hc : X.calm = true) (hN : X.N.Nodup) (hw : Wk X tg iter r (xs.map enc)) (ok : BlkOk X.N X.env.scope scope own)
    (hg : ∀ x, x ∈ xs → Blk X scope fun Y => Pg Y tg (wipeR r (own.map (·.2))) (enc x) (r2 x) js) (ht : ∀ x, x ∈ xs → Blk X scope fun Y => Pts Y ifs (r2 x) (f0 x)) (he : ∀ x, x ∈ xs → f0 x = true → Blk X scope fun Y => Pv Y elt (r2 x) (.d (f x)))
    (hl : xs.length ≤ 100000) (hj : ∀ j, j ∈ js → j ∈ own.map (·.2)) (hlen : ∀ x, x ∈ xs → (r2 x).length = r.length) (k : Go X rest D G0 H0 (r.set i (some (.d (.list ((xs.filter f0).map f))))))
    (hsw : swapsWith (.ListComp elt [⟨tg, iter, ifs, 0⟩] scope pl) (some (.Name y py)) pos.line X.env = pure true) (hi : X.N[i]? = some y := by rfl) (hyl : X.env.scope.names.lookup y = some .local := by rfl) (hs : ∀ x, foldedSetIterable iter X.env x = pure x := by intro _; rfl) :
    Go X (.Assign [.Name y py] (.ListComp elt [⟨tg, iter, ifs, 0⟩] scope pl) pos :: rest) D G0 H0 r := by
  obtain ⟨wi, hi', hwi⟩ := hw
  intro σ G H g n
  exact wSs_of (pss_cons (ps_setLc hc hN hi hyl hsw hi' ok bG_ok bTs_ok bE_ok hs) pss_w) (lc_data hwi hg ht he hl hj hlen g.s n fun v G2 H2 k2 q2 => k _ G2 H2 (g.trans k2) ((n.up k2.g).set i q2))
/-- a, b = e -/
theorem go_unp {tg : Expr} {r2 : Rho} {js : List Nat} (h : Pv X e r d) (hg : Pg X tg r d r2 js) (k : Go X rest D G0 H0 r2) (hs : swapsWithSole [tg] e pos.line X.env = pure false := by rfl) (hw : swappedStores [tg] e X.env = pure none := by rfl) (h1 : (assignEach [tg] X.env).map (·.2) = [assign tg X.env] := by rfl) : Go X (.Assign [tg] e pos :: rest) D G0 H0 r := fun σ G H g n =>
  wSs_of (pss_cons (ps_asg pe_w pg_w hs hw h1) pss_w) (wE_imp (h σ G H g.s n) fun v H1 ⟨G1, k1, q1⟩ => wG_imp (hg σ G1 H1 v k1.s (n.up k1.g) q1) fun σ2 H2 ⟨e2, n2, _⟩ => by
    subst e2
    exact k _ G1 H2 (g.trans k1) n2)
theorem go_ret (h : Pv X e r d) (k : ∀ v G' H', Gr G0 H0 G' H' → Den X.K G' v d → D.rt v H') : Go X (.Return (some e) pos :: rest) D G0 H0 r := fun σ G H g n =>
  wSs_of (pss_cons (ps_ret pe_w) pss_w) (wE_imp (h σ G H g.s n) fun v H1 ⟨G1, k1, q1⟩ => k v G1 H1 (g.trans k1) q1)
theorem go_if {q : Bool} (h : Pt X c r q) (h1 : q = true → Go X ss { D with nx := wSs X rest D } G0 H0 r) (h2 : q = false → Go X sts { D with nx := wSs X rest D } G0 H0 r) : Go X (.If c ss sts pos :: rest) D G0 H0 r := fun σ G H g n =>
  wSs_of (pss_cons (ps_if pt_w pss_w pss_w) pss_w) (wT_imp (h σ G H g.s n) fun b H1 ⟨G1, k1, q1⟩ => by
    subst q1
    cases b with
    | true => exact h1 rfl σ G1 H1 (g.trans k1) (n.up k1.g)
    | false => exact h2 rfl σ G1 H1 (g.trans k1) (n.up k1.g))
/-- if c: .. (no else), the block leaves, or goes on as the rest does -/
theorem go_when {q : Bool} (h : Pt X c r q) (h1 : q = true → Go X ss { D with nx := wSs X rest D } G0 H0 r) (h2 : q = false → Go X rest D G0 H0 r) : Go X (.If c ss [] pos :: rest) D G0 H0 r :=
  go_if h h1 fun z => go_nil (go_back (h2 z))
theorem go_expr (h : Pv X e r d) (k : Go X rest D G0 H0 r) (hs : swapsWith e none pos.line X.env = pure false := by rfl) : Go X (.Expr e pos :: rest) D G0 H0 r := fun σ G H g n =>
  wSs_of (pss_cons (ps_expr pe_w hs) pss_w) (wE_imp (h σ G H g.s n) fun v H1 ⟨G1, k1, q1⟩ => k σ G1 H1 (g.trans k1) (n.up k1.g))
/-- for tg in iter: the word P at each turn -/
theorem go_for {al : Type} {tg iter : Expr} {xs : List al} {enc : al → Dn} (P : Nat → Rho → Prop) (hp : PassesOwn (model X.prog X.w) X.A X.env X.xe) (hc : X.calm = true) (hw : Wk X tg iter r (xs.map enc)) (h0 : P 0 r)
    (hs : ∀ G1 H1, Gr G0 H0 G1 H1 → ∀ i x r1, xs[i]? = some x → P i r1 → ∃ r2 js, Pg X tg r1 (enc x) r2 js ∧ Go X ss { D with nx := fun σ H => ∃ r3, P (i + 1) r3 ∧ Nx X.K G1 H1 r3 σ H, ct := fun σ H => ∃ r3, P (i + 1) r3 ∧ Nx X.K G1 H1 r3 σ H, bk := wSs X rest D } G1 H1 r2)
    (hd : ∀ r1, P xs.length r1 → Go X rest D G0 H0 r1) (hfs : ∀ v, foldedSetIterable iter X.env v = pure v := by intro _; rfl) : Go X (.For tg iter ss [] pos :: rest) D G0 H0 r := by
  obtain ⟨wi, hi, hwi⟩ := hw
  intro σ G H g n
  refine wSs_of (pss_cons (ps_for hp hc hi pg_w pss_w hfs) pss_w) ?_
  refine hwi σ G H g.s n _ fun J G1 H1 k1 hgo hyl hst => ?_
  rw [List.length_map] at hgo hst
  refine ⟨fun i m σ' H' => m = xs.length - i ∧ i ≤ xs.length ∧ ∃ r1 G', P i r1 ∧ Gr G1 H1 G' H' ∧ En X.K G' σ' r1, ⟨xs.length, by simp, Nat.zero_le _, r, G1, h0, Gr.refl k1.s, n.up k1.g⟩, ?_⟩
  rintro i m σ' H' ⟨rfl, hi2, r1, G', hP, k', n'⟩
  by_cases hlt : i < xs.length
  · obtain ⟨x, hx⟩ : ∃ x, xs[i]? = some x := ⟨xs[i], List.getElem?_eq_getElem hlt⟩
    refine .inr ⟨hgo i H' (k'.g.trans k'.s) hlt, fun σ3 H3 => ∃ r3, P (i + 1) r3 ∧ ∃ G3, Gr G1 H1 G3 H3 ∧ En X.K G3 σ3 r3, fun σ3 H3 ⟨r3, q1, G3, q2, q3⟩ => ⟨xs.length - (i + 1), by omega, rfl, hlt, r3, G3, q1, q2, q3⟩, fun v H3 yl => ?_⟩
    obtain ⟨G3, k3, q3⟩ := hyl i G' H' v H3 k'.g k'.s yl (enc x) (by rw [List.getElem?_map, hx]; rfl)
    have kk := k'.trans k3
    obtain ⟨r2, js, hg, hb⟩ := hs G3 H3 ((g.trans k1).trans kk) i x r1 hx hP
    refine wG_imp (hg σ' G3 H3 v k3.s (n'.up k3.g) q3) fun σ2 H4 ⟨e4, n4, _⟩ => ?_
    subst e4
    exact wSs_imp (hb σ2 G3 H4 (Gr.refl k3.s) n4) (fun σ5 H5 ⟨r5, q1, G5, q2, q5⟩ => ⟨r5, q1, G5, kk.trans q2, q5⟩) (fun _ _ z => z) (fun _ _ z => z) (fun σ5 H5 ⟨r5, q1, G5, q2, q5⟩ => ⟨r5, q1, G5, kk.trans q2, q5⟩)
  · have hi3 : i = xs.length := by omega
    subst hi3
    exact .inl ⟨hst _ H' (k'.g.trans k'.s) (Nat.le_refl _), hd r1 hP σ' G' H' ((g.trans k1).trans k') n'⟩
end
end Fb

/-! FbS: len(set(t)), t a tuple of any number of texts: how many unlike ones there are. -/
namespace Fb
open PySem
/-- how many unlike ones, of a list from behind -/
def dcr : List Str → Nat
  | [] => 0
  | x :: l => if l.any (· == x) then dcr l else dcr l + 1
def dcn (l : List Str) : Nat := dcr l.reverse
theorem dcn_snoc (l : List Str) (x : Str) : dcn (l ++ [x]) = if l.any (· == x) then dcn l else dcn l + 1 := by
  unfold dcn
  rw [List.reverse_append]
  show (if l.reverse.any (· == x) then dcr l.reverse else dcr l.reverse + 1) = _
  rw [List.any_reverse]
theorem dcr_le : ∀ l : List Str, dcr l ≤ l.length
  | [] => Nat.le_refl _
  | x :: l => by
    have := dcr_le l
    unfold dcr
    rw [List.length_cons]
    split <;> omega
theorem dcn_le (l : List Str) : dcn l ≤ l.length := by
  have := dcr_le l.reverse
  rw [List.length_reverse] at this
  exact this
theorem dcr_nodup : ∀ l : List Str, dcr l = l.length ↔ l.Nodup
  | [] => by simp [dcr]
  | x :: l => by
    have ih := dcr_nodup l
    have hle := dcr_le l
    rw [List.nodup_cons, ← ih, show dcr (x :: l) = if l.any (· == x) then dcr l else dcr l + 1 from rfl]
    by_cases hx : l.any (· == x) = true
    · rw [if_pos hx, List.length_cons]
      have hm : x ∈ l := by
        obtain ⟨y, hy, e⟩ := List.any_eq_true.mp hx
        rw [beq_iff_eq] at e
        exact e ▸ hy
      exact ⟨fun h => by omega, fun h => absurd hm h.1⟩
    · rw [if_neg hx, List.length_cons]
      have hm : x ∉ l := fun hm => hx (List.any_eq_true.mpr ⟨x, hm, beq_iff_eq.mpr rfl⟩)
      exact ⟨fun h => ⟨hm, by omega⟩, fun h => by rw [h.2]⟩
theorem dcn_nodup (l : List Str) : dcn l = l.length ↔ l.Nodup := by
  have := dcr_nodup l.reverse
  rw [List.length_reverse, (List.reverse_perm l).nodup_iff] at this
  exact this
section
variable {prog : Program} {w : World} {A : Around} {R : Result → Shared → Prop} {I : Addr} {fp wr : List Addr} {G : Array GenState → Array GenState → Prop} {n : Nat} {P : Nat → Value → Prop} {St : Nat → Shared → Prop}
/-- the loop of set(..): one text a turn, known already or new -/
theorem set_turns (W : WalksS prog w A.in1 I fp wr G n P St) (S : Addr) (hSf : S ∉ fp) (xs : List Str) (hsz : xs.length = n) (hn1 : n ≤ 1000) (hval : ∀ i v, P i v → ∃ t, v = .str (xs.getD i Str.empty) t) :
    ∀ (k i : Nat) (s : Shared), n - i = k → i ≤ n → St i s → s.heap.SetOf (PySem.strKind prog w) S (fun k' => (xs.take i).any (· == k')) (dcn (xs.take i)) →
      (∀ s', Moved (S :: wr) G s s' → s'.heap.SetOf (PySem.strKind prog w) S (fun k' => xs.any (· == k')) (dcn xs) → R (.ok (.ret .none)) s') →
      codeAny (model prog w) A (.builtin "set.update.loop" ⟨[.ref S, .ref I], []⟩) R s := by
  have hSw : S ∉ wr := fun h => hSf (W.sub _ h)
  have wider : ∀ b ∈ wr, b ∈ S :: wr := fun b hb => List.mem_cons_of_mem _ hb
  have stay : ∀ {s s' : Shared} {T : Str → Bool} {m : Nat}, Moved wr G s s' → s.heap.SetOf (PySem.strKind prog w) S T m → s'.heap.SetOf (PySem.strKind prog w) S T m := fun hm ⟨o, es, ep, t, ho, more⟩ => ⟨o, es, ep, t, hm.heap S _ hSw ho, more⟩
  intro k
  induction k with
  | zero =>
    intro i s hk hi hst hS hR
    obtain rfl : i = n := by omega
    refine codeAny_builtin PyProof.Rows.F.entry_set_update_loop ?_
    rw [Around.under_plainId PyProof.Rows.F.plain_set_update_loop _]
    refine wpAny_bind (W.done s _ _ hst fun s' hm => ?_)
    have q := stay hm hS
    rw [← hsz, List.take_length] at q
    exact wpAny_pure (hR s' (hm.mono wider) q)
  | succ k ih =>
    intro i s hk hi hst hS hR
    have hlt : i < n := by omega
    refine codeAny_builtin PyProof.Rows.F.entry_set_update_loop ?_
    rw [Around.under_plainId PyProof.Rows.F.plain_set_update_loop _]
    refine wpAny_bind (W.item i s _ _ hlt hst fun v s' hP hst' hm => ?_)
    obtain ⟨t, rfl⟩ := hval i v hP
    have hx : xs[i]? = some (xs.getD i Str.empty) := by
      rw [List.getD_eq_getElem?_getD, List.getElem?_eq_getElem (by omega)]
      rfl
    have hS' := stay hm hS
    have htk : xs.take (i + 1) = xs.take i ++ [xs.getD i Str.empty] := take_succ hx
    refine wpAny_bind (wpAny_holding ?_)
    unfold setAdd
    refine wpAny_holding (wpAny_bind ((PySem.strKind prog w).pyHash (k := xs.getD i Str.empty) (strKind_is _ _ _ _) ?_))
    have hroom : dcn (xs.take i) + 1 < scanBound := by
      have h1 := dcn_le (xs.take i)
      rw [List.length_take] at h1
      unfold scanBound
      omega
    refine wpAny_setAddHashed_of (knd := PySem.strKind prog w) (s := { s' with toks := s'.toks + 1 }) (strKind_is _ _ _ _) rfl hS' hroom fun h' hsb hS2 => ?_
    have hS3 : h'.SetOf (PySem.strKind prog w) S (fun k' => (xs.take (i + 1)).any (· == k')) (dcn (xs.take (i + 1))) := by
      refine PyProof.Rows.SetOf_congr hS2 (fun k' => ?_) ?_
      · rw [htk, List.any_append, List.any_cons, List.any_nil, Bool.or_false]
        congr 1
        rw [Bool.eq_iff_iff, decide_eq_true_iff, beq_iff_eq]
        exact eq_comm
      · rw [htk, dcn_snoc]
    refine wpAny_pure ⟨plainId_quiet PyProof.Rows.F.plain_set_update_loop _, ih (i + 1) _ (by omega) hlt (W.frame _ s' _ _ hst' (Nat.le_succ _) fun b hb o e => ?_) hS3 fun s'' hm'' hS'' => ?_⟩
    · rw [hsb.2 b (fun h : b = S => hSf (by rw [← h]; exact hb))]
      exact e
    · refine hR s'' (Moved.trans W.gtrans ((hm.mono wider).then_heap (Nat.le_succ _) fun b o hb e => ?_) hm'') hS''
      rw [hsb.2 b (fun h : b = S => hb (by rw [h]; exact List.mem_cons_self))]
      exact e
end
section
variable {prog : Program} {w : World} {A : Around} {E : Value → Shared → Prop} {s : Shared}
open PyProof.Rows
/-- the object of a new set -/
abbrev emptySet (led : Bool) : Obj := { cls := .type "set", dict := none, data := .set #[] 0 (.fresh 0 0 led) }
/-- set(t), t a tuple of texts -/
theorem set_of_texts {l : Addr} {items : Array Value} {xs : List Str} {Q : Value → Shared → Prop} (hh : A.handled = none) (hl : s.heap.IsTuple l items) (hi : PyProof.Rows.StrsAre items.toList xs) (hn1 : xs.length ≤ 1000)
    (h : ∀ (h' : Heap) (tk : Nat), h'.SetOf (PySem.strKind prog w) s.heap.objs.size (fun k' => xs.any (· == k')) (dcn xs) → (∀ b o, b < s.heap.objs.size → s.heap.get? b = some o → h'.get? b = some o) → Q (.ref s.heap.objs.size) { s with heap := h', toks := tk }) :
    wpAny (model prog w) A (call (.type "set") [.ref l]) Q E s := by
  have hmade := PySem.F.called_set.made
  have hsub := PySem.F.called_set.sub
  obtain ⟨c, tl, hmro⟩ := PySem.F.called_set.mro
  have hT1 := PySem.F.called_set.notType
  have hT2 := PySem.F.called_set.canCreate
  have hT3 := PySem.F.typeCall_set_1 (.ref l)
  refine wpAny_call (codeAny_of_tree ?_)
  show wpAny _ _ (callAny (.type "set") _) _ _ _
  refine wpAny_pure ⟨Code.quiet_builtin _ (by decide +kernel), codeAny_builtin PySem.F.entry_type_call ?_⟩
  rw [Around.under_plain (weight_type_call_type "set" [.ref l] []) rfl]
  repeat (any_goals (first | assumption | wp_step))
  -- the new, empty set
  refine codeAny_mono (code_set_new_1 (.ref l) (E := E) (Q₁ := fun z s1 => ∃ led : Bool, z = .ref s.heap.objs.size ∧ s1 = { s with heap := s.heap.push (emptySet led) }) fun led => ⟨led, rfl, rfl⟩) fun r s1 hr => ?_
  cases r with
  | error e => exact hr
  | ok fl =>
    cases fl with
    | ret z =>
      obtain ⟨led, rfl, rfl⟩ := hr
      have hS : (s.heap.push (emptySet led)).get? s.heap.objs.size = some (emptySet led) := Heap.get?_push_size _ rfl
      have hT : Shared.TypeIs { s with heap := s.heap.push (emptySet led) } (.ref s.heap.objs.size) "set" := ⟨_, hS, rfl⟩
      have hli := PySem.F.called_set.init.lookup
      have hbi := PySem.F.called_set.init.bind (.ref s.heap.objs.size)
      repeat (any_goals (first | assumption | wp_step))
      refine codeAny_mono (codeAny_call_builtin (R := wants (fun r s2 => r = .none ∧ ∃ h' tk, s2 = { s with heap := h', toks := tk } ∧ h'.SetOf (PySem.strKind prog w) s.heap.objs.size (fun k' => xs.any (· == k')) (dcn xs) ∧
          (∀ b o, b < s.heap.objs.size → s.heap.get? b = some o → h'.get? b = some o)) E) PySem.F.called_set.init.plain PySem.F.entry_set_init (check_set_init_1 hT ?_)) fun r2 s2 hr2 => ?_
      · obtain ⟨⟨oc, od, odt, osl⟩, hol, hcl, nl, hdl⟩ := hl
        simp only at hcl hdl
        subst hcl hdl
        have hol2 : (s.heap.push (emptySet led)).get? l = some { cls := .type "tuple", dict := od, data := .seq items nl, slots := osl } := Heap.get?_push_of_some _ hol
        have hsls := PySem.F.sub_tuple_set
        have hslf := PySem.F.sub_tuple_frozenset
        have hne : (Value.type "tuple" == Value.type "dict") = false := by decide
        have hl1 : (s.heap.push (emptySet led)).IsTuple l items := ⟨_, hol2, rfl, nl, rfl⟩
        unfold Builtin.«set.__init__» noKeywords Builtin.Frozenset.updateFrom
        generalize hPI : pyIter = PI
        wp_walk
        subst hPI
        refine wpAny_pyIter_tuple (s := { s with heap := s.heap.push (emptySet led) }) hl1 ?_
        refine wpAny_bind (wpAny_runValue ?_)
        have hlS : l < s.heap.objs.size := Heap.lt_size hol
        have hz : (s.heap.push (emptySet led)).objs.size = s.heap.objs.size + 1 := Heap.size_push _ _
        have hval : ∀ (i : Nat) (v : Value), items[i]? = some v → ∃ t, v = .str (xs.getD i Str.empty) t := fun i v hv => SS.strs_at hi i v (by rw [Array.getElem?_toList]; exact hv)
        have hsz : xs.length = items.size := by rw [← StrsAre.len_eq hi, Array.length_toList]
        refine set_turns ((Walks.tuple (by simp [hh]) _ l (by rw [hz]; exact Nat.ne_of_lt (Nat.lt_succ_of_lt hlS)) items).toS) s.heap.objs.size ?hSf xs hsz (by rw [← hsz]; exact hn1) hval (items.size - 0) 0 _ (by omega) (Nat.zero_le _) ⟨⟨_, Heap.get?_push_size _ rfl, rfl, rfl⟩, hl1.push _⟩ ?hS0 ?hR
        case hSf =>
          rw [hz]
          simp only [List.mem_cons, List.mem_singleton, List.not_mem_nil, or_false, not_or]
          exact ⟨Nat.ne_of_lt (Nat.lt_succ_self _), Nat.ne_of_gt hlS⟩
        case hS0 =>
          have hget := Heap.get?_push_of_some { cls := .type "tuple_iterator", data := .fields #[.ref l, .int 0 0] } hS
          exact SetOf_congr ((setObjOf_fresh (knd := PySem.strKind prog w) led).setOf hget (by unfold scanBound; omega)) (fun _ => rfl) rfl
        case hR =>
          rintro ⟨h', g', d', tk', os'⟩ hm hS'
          obtain rfl : g' = s.gens := hm.gens
          obtain rfl : d' = s.drawn := hm.drawn
          obtain rfl : os' = s.os := hm.os
          show wpAny _ _ _ _ _ _
          refine wpAny_pure ?_
          show wpAny _ _ (ret Value.none) _ _ _
          refine wpAny_pure ⟨rfl, h', tk', rfl, hS', fun b o hb e => ?_⟩
          refine hm.heap b o ?_ (Heap.get?_push_of_some _ (Heap.get?_push_of_some _ e))
          rw [hz]
          simp only [List.mem_cons, List.mem_singleton, List.not_mem_nil, or_false, not_or]
          exact ⟨Nat.ne_of_lt hb, Nat.ne_of_lt (Nat.lt_succ_of_lt hb)⟩
      · cases r2 with
        | error e => exact hr2
        | ok fl2 =>
          cases fl2 with
          | ret r =>
            obtain ⟨rfl, h', tk, rfl, hS', hk'⟩ := hr2
            repeat (any_goals (first | assumption | wp_step))
            exact h _ _ hS' hk'
          | _ => exact hr2.elim
    | _ => exact hr.elim
end
section
open L2 Evl
variable {X : Cx} {a : Expr} {r : Rho} {pos p p2 q : Pos}
/-- len(set(t)) -/
theorem pv_lenSet {xs : List Str} (hm : X.mg "len" = none) (hm2 : X.mg "set" = none) (ha : Pv X a r (.d (.tuple (xs.map PyData.str)))) (hl : xs.length ≤ 1000) (hc : X.calm = true := by rfl) (hg : Gl X "len" := by rfl) (hg2 : Gl X "set" := by rfl)
    (na : starEach [a] X.env = (false, eval a X.env) :: starEach [] X.env := by rfl) : Pv X (.Call (.Name "len" p) [.Call (.Name "set" p2) [a] [] q] [] pos) r (.d (.int (dcn xs))) := fun σ G H g n pins s I => by
  refine PyProof.Rows.Call_ (ld_blt I hg hm PySem.boot_len ?_)
  refine PyProof.Rows.callWith_builtin1 (PyProof.Rows.args_cons ?_ rfl) rfl rfl
  refine PyProof.Rows.Call_ (ld_blt I hg2 hm2 PyProof.Rows.boot_set ?_)
  refine PyProof.Rows.callWith_type1 (PyProof.Rows.args_cons (thn (ha σ G H g n pins s I) fun v s1 ⟨x, H1, I1, r1, G1, k1, q1⟩ => PyProof.Rows.args_nil ?_) na) na rfl
  cases q1 with
  | tup h1 h2 =>
    have hv := strs_flat h2
    subst hv
    cases r1
    obtain ⟨its, rv, pl, hz⟩ := I1.tuple (ex_t k1.s h1.sq)
    refine set_of_texts (I1.ok.hd hc) pl (by simpa using strsAre_of rv) hl fun h' tk hS hk => ?_
    refine PyProof.Rows.args_nil ?_
    obtain ⟨o, es, ep, t, ho, hex, hd, _, _, _, hf, hn⟩ := hS
    have I2 : L2.Inv X pins σ H1 { s1 with heap := h', toks := tk } := I1.kept fun b o e => hk b o (Heap.lt_size e) e
    have hle := dcn_le xs
    exact call_len_set ho hex hd hf (by rw [hn]; omega) ⟨.int (dcn xs), H1, I2.tok _, ⟨_, by rw [hn]⟩, G1, k1, Dp.int _⟩
end
end Fb

/-! FbD: defs and their promises, errors, attributes, what is owned. -/
namespace Fb
open PySem PySem.Spec PyProof.Rows L2 Evl
section
variable {P : Program} {w : World} {K : PySem.W.Frag} {mg : Str → Option Value} {base : Heap}
/-- a def keeps a pure promise -/
theorem okP {x qual : Str} {st : Stmt} {f : Addr} {fd : FuncData} {N ps : List Str} {k : Nat} {R : List Dn → Dn → Prop} (F : Fun K x qual st f fd) (S : FnScope N ps (defScope st)) (hR : ∀ ds d, R ds d → ds.length = ps.length)
    (body : ∀ (cdv : Value) (A : Around) (outer : List Env) (s : Shared) (H : Hp) (Q : VK) (E : XK) (ds : List Dn) (d : Dn) (G : Hp), Room k (A.deeper (envOfC qual (defScope st) s.heap.objs.size f cdv)) → R ds d → (∀ v G' H', Gr G H G' H' → Den K G' v d → Q v H') →
      Go (cxOf (L2.CX P w) P w K mg base N qual (defScope st) f cdv A outer s H E) (defBody st) { nx := fun _ H' => Q .non H', rt := Q } G H (ds.map some ++ List.replicate (N.length - ds.length) none)) : FnOk P w K mg base (L2.CX P w) (k + 1) f fd ps (spR K R noB) := by
  refine F.okX S ?_ (fun cdv A outer s H vs Q E hr h => ⟨_, pss_w, ?_⟩)
  · rintro vs H Q E ⟨ds, G, g, hd, ⟨d, hr, k⟩ | ⟨C, hb, k⟩⟩
    · exact (Paired.length hd).trans (hR _ _ hr)
    · exact hb.elim
  · obtain ⟨ds, G, g, hd, ⟨d, hR', k⟩ | ⟨C, hb, k⟩⟩ := h
    · refine go_in g hd ?_
      rw [Paired.length hd]
      exact body cdv A outer s H Q E ds d G hr hR' k
    · exact hb.elim
/-- .. or raises -/
theorem okE {x qual : Str} {st : Stmt} {f : Addr} {fd : FuncData} {N ps : List Str} {k : Nat} {R : List Dn → Dn → Prop} {B : List Dn → Addr → Prop} (F : Fun K x qual st f fd) (S : FnScope N ps (defScope st)) (hR : ∀ ds d, R ds d → ds.length = ps.length) (hB : ∀ ds C, B ds C → ds.length = ps.length)
    (body : ∀ (cdv : Value) (A : Around) (outer : List Env) (s : Shared) (H : Hp) (Q : VK) (E : XK) (ds : List Dn) (d : Dn) (G : Hp), Room k (A.deeper (envOfC qual (defScope st) s.heap.objs.size f cdv)) → R ds d → (∀ v G' H', Gr G H G' H' → Den K G' v d → Q v H') →
      Go (cxOf (L2.CX P w) P w K mg base N qual (defScope st) f cdv A outer s H E) (defBody st) { nx := fun _ H' => Q .non H', rt := Q } G H (ds.map some ++ List.replicate (N.length - ds.length) none))
    (bad : ∀ (cdv : Value) (A : Around) (outer : List Env) (s : Shared) (H : Hp) (Q : VK) (E : XK) (ds : List Dn) (C : Addr) (G : Hp), Room k (A.deeper (envOfC qual (defScope st) s.heap.objs.size f cdv)) → B ds C → (∀ G' H', Gr G H G' H' → E (.ref C) none H') →
      Go (cxOf (L2.CX P w) P w K mg base N qual (defScope st) f cdv A outer s H E) (defBody st) { nx := fun _ H' => Q .non H', rt := Q } G H (ds.map some ++ List.replicate (N.length - ds.length) none)) : FnOk P w K mg base (L2.CX P w) (k + 1) f fd ps (spR K R B) := by
  refine F.okX S ?_ (fun cdv A outer s H vs Q E hr h => ⟨_, pss_w, ?_⟩)
  · rintro vs H Q E ⟨ds, G, g, hd, ⟨d, hr, k⟩ | ⟨C, hb, k⟩⟩
    · exact (Paired.length hd).trans (hR _ _ hr)
    · exact (Paired.length hd).trans (hB _ _ hb)
  · obtain ⟨ds, G, g, hd, ⟨d, hR', k⟩ | ⟨C, hb, k⟩⟩ := h
    · refine go_in g hd ?_
      rw [Paired.length hd]
      exact body cdv A outer s H Q E ds d G hr hR' k
    · refine go_in g hd ?_
      rw [Paired.length hd]
      exact bad cdv A outer s H Q E ds C G hr hb k
theorem fc_mk {x : Str} {f : Addr} {fd : FuncData} {ps : List Str} {k : Nat} {sp : Sp} (ok : FnOk P w K mg base (L2.CX P w) k f fd ps sp) (hm : mg x = some (.ref f)) (hk : PySem.W.keepIn K (.ref f) = true) (hb : Binds K fd ps []) : Fc P w K mg base k x sp := ⟨f, fd, ps, ok, hm, hk, hb⟩
end
/-- an own error class over ValueError, without a body of its own -/
structure Ec (K : PySem.W.Frag) (mg : Str → Option Value) (x : Str) (C : Addr) : Prop where
  gP : mg x = some (.ref C)
  xP : PySem.W.excIn K C [.type "ValueError", .type "Exception", .type "BaseException", .type "object"] "ValueError.__new__" = true
  kP : PySem.W.keepIn K (.ref C) = true
  bP : PySem.W.subIn K (.ref C) (.type "BaseException") = some true
  tP : PySem.W.typeIn K (.ref C) = some (.type "type")
section
variable {X : Cx} {a b c e o : Expr} {es : List Expr} {sts ss rest : List Stmt} {r : Rho} {d d1 d2 d3 : Dn} {pos p p1 p2 p3 p4 : Pos} {D : Ends} {G0 H0 : Hp} {W : WX}
theorem go_raise {x m : Str} {j : Nat} {C : Addr} (T : Ec X.K X.mg x C) (tk : Takes X W) (h : ∀ σ G H, Gr G0 H0 G H → En X.K G σ r → W (.ref C) none σ H) (hc : X.calm = true := by rfl) (hg : Gl X x := by rfl) (hdb : (x == ("__debug__" : Str)) = false := by decide) :
    Go X (.Raise (some (.Call (.Name x p) [.Constant (.str m) j p2] [] p3)) none p4 :: rest) D G0 H0 r := fun σ G H g n =>
  wSs_of (pss_cons (ps_raise hc tk (pmk_own PySem.F.excBase_ValueError T.xP T.gP T.kP (raises_own T.bP T.tP) hg hdb)) pss_w) (h σ G H g n)
/-- a call, as a statement, that raises -/
theorem go_doX {x : Str} {k j : Nat} {R : List Dn → Dn → Prop} {B : List Dn → Addr → Prop} {ds : List Dn} {C : Addr} (F : Fc X.prog X.w X.K X.mg X.base k x (spR X.K R B)) (hr : Room j X.A) (ha : Pa X (e :: es) r ds) (hB : B ds C) (tk : Takes X W) (h : ∀ σ G H, Gr G0 H0 G H → En X.K G σ r → W (.ref C) none σ H)
    (hk : k ≤ j := by decide) (hg : Gl X x := by rfl) (hs : swapsWith (.Call (.Name x p) (e :: es) [] pos) none p2.line X.env = pure false := by rfl)
    (hdb : (x == ("__debug__" : Str)) = false := by decide) (he : starEach (e :: es) X.env = (false, eval e X.env) :: starEach es X.env := by rfl) (hpl : (backTo pos (starEach es X.env)).any (·.1) = false := by rfl) :
    Go X (.Expr (.Call (.Name x p) (e :: es) [] pos) p2 :: rest) D G0 H0 r := fun σ G H g n => by
  obtain ⟨f, fd, ps, F, hm, hkp, hb⟩ := F.ex
  refine wSs_of (pss_cons (ps_expr (pe_callS F (hr.mono hk) hg hm hkp hb (fun σ => passAt tk σ) pa_w hdb he hpl) hs) pss_w) (wA_imp (ha σ G H g.s n) fun vs H1 ⟨G1, k1, q1⟩ => ?_)
  exact ⟨ds, G1, k1.s, q1, .inr ⟨C, hB, fun G2 H2 k2 => h σ G2 H2 ((g.trans k1).trans k2) ((n.up k1.g).up k2.g)⟩⟩

/-! ### attributes -/
theorem fld_get {K : PySem.W.Frag} {H : Hp} {f : Str} {fd : Fd} : ∀ {ws : List (Str × V)} {fs : List (Str × Fd)}, Paired (fun (p : Str × V) (q : Str × Fd) => p.1 = q.1 ∧ DenF K H p.2 q.2) ws fs → fs.lookup f = some fd → ∃ v, ws.lookup f = some v ∧ DenF K H v fd
  | _, _, .nil, h => by cases h
  | (a, v) :: ws, (b, g) :: fs, .cons ⟨h1, h2⟩ t, h => by
    have h1' : a = b := h1
    subst h1'
    rw [List.lookup_cons] at h ⊢
    cases q : f == a with
    | true =>
      rw [q] at h
      cases h
      exact ⟨v, rfl, h2⟩
    | false =>
      rw [q] at h
      exact fld_get t h
theorem denF_dn {K : PySem.W.Frag} {H : Hp} {v : V} : ∀ {fd : Fd}, DenF K H v fd → Den K H v fd.dn
  | .d _, h => h
  | .t _, h => h
theorem pv_fld {q C : Addr} {fs : List (Str × Fd)} {f : Str} {fd : Fd} (ho : Pv X o r (.ob q C fs)) (hc : Cls X.K C) (hn : NoAttr X.K C f) (hl : fs.lookup f = some fd) (hb : attributeBase o f X.env (eval o X.env) = eval o X.env := by rfl) : Pv X (.Attribute o f pos) r fd.dn := fun σ G H g n =>
  wE_of (pe_fld pe_w hb) (wE_imp (ho σ G H g n) fun x H1 ⟨G1, k1, q1⟩ => by
    obtain ⟨dx, ws, rfl, h1, h2⟩ := q1
    obtain ⟨v, hv, hd⟩ := fld_get h2 hl
    exact ⟨q, C, dx, ws, v, rfl, k1.s _ _ h1, hc, hn, hv, G1, k1, denF_dn hd⟩)
end

/-! ### what is owned: objects that the environment does not lean on -/
mutual
/-- no list within -/
def imm : PyData → Bool
  | .list _ => false
  | .dict _ => false
  | .tuple xs => immAll xs
  | _ => true
def immAll : List PyData → Bool
  | [] => true
  | x :: xs => imm x && immAll xs
end
theorem immAll_iff : ∀ {xs : List PyData}, immAll xs = true ↔ ∀ x ∈ xs, imm x = true
  | [] => by simp [immAll]
  | x :: xs => by
    rw [immAll, Bool.and_eq_true, immAll_iff]
    simp
section
variable {K : PySem.W.Frag} {G G' H H2 : Hp}
mutual
/-- such a datum stands as long as the tuples do -/
theorem dp_imm (k : ∀ a xs ds, TupAt K G a xs ds → TupAt K G' a xs ds) : ∀ (d : PyData) (v : V), imm d = true → Dp K G v d → Dp K G' v d
  | .none, _, _, h => by cases h; exact .non
  | .bool _, _, _, h => by cases h; exact .bl _
  | .int _, _, _, h => by cases h; exact .int _
  | .str _, _, _, h => by cases h; exact .str _
  | .list _, _, hi, _ => by cases hi
  | .tuple ds, _, hi, h => by
    cases h with
    | tup h1 h2 => exact .tup (k _ _ _ h1) (dpAll_imm k ds _ (by simpa [imm] using hi) h2)
  | .dict _, _, hi, _ => by cases hi
theorem dpAll_imm (k : ∀ a xs ds, TupAt K G a xs ds → TupAt K G' a xs ds) : ∀ (ds : List PyData) (vs : List V), immAll ds = true → DpAll K G vs ds → DpAll K G' vs ds
  | [], _, _, h => by cases h; exact .nil
  | d :: ds, _, hi, h => by
    rw [immAll, Bool.and_eq_true] at hi
    cases h with
    | cons h1 h2 => exact .cons (dp_imm k d _ hi.1 h1) (dpAll_imm k ds _ hi.2 h2)
end
/-- G and the objects at os as H has them; G without the objects at os -/
def plus (G H : Hp) (os : List Addr) : Hp := fun a => if a ∈ os then H a else G a
def minus (G : Hp) (os : List Addr) : Hp := fun a => if a ∈ os then none else G a
theorem plus_in {os : List Addr} {a : Addr} (h : a ∈ os) : plus G H os a = H a := by unfold plus; rw [if_pos h]
theorem plus_out {os : List Addr} {a : Addr} (h : a ∉ os) : plus G H os a = G a := by unfold plus; rw [if_neg h]
theorem minus_in {os : List Addr} {a : Addr} (h : a ∈ os) : minus G os a = none := by unfold minus; rw [if_pos h]
theorem minus_out {os : List Addr} {a : Addr} (h : a ∉ os) : minus G os a = G a := by unfold minus; rw [if_neg h]
theorem plus_g {os : List Addr} (hG : ∀ a ∈ os, G a = none) : Ex G (plus G H os) := fun a o h => by
  have hn : a ∉ os := fun z => by rw [hG a z] at h; cases h
  rw [plus_out hn]
  exact h
theorem plus_s {os : List Addr} (e : Ex G H) : Ex (plus G H os) H := fun a o h => by
  by_cases hn : a ∈ os
  · rw [plus_in hn] at h; exact h
  · rw [plus_out hn] at h; exact e a o h
theorem own_back {os : List Addr} {G2 : Hp} (hG : ∀ a ∈ os, G a = none) (k : Gr (plus G H os) H G2 H2) : Gr G H (minus G2 os) H2 := by
  refine ⟨fun a o h => ?_, fun a o h => ?_, k.h, fun a h1 h2 => ?_⟩
  · have hn : a ∉ os := fun z => by rw [hG a z] at h; cases h
    rw [minus_out hn]
    exact k.g a o (by rw [plus_out hn]; exact h)
  · by_cases hn : a ∈ os
    · rw [minus_in hn] at h; cases h
    · rw [minus_out hn] at h; exact k.s a o h
  · by_cases hn : a ∈ os
    · rw [minus_in hn] at h2; exact absurd rfl h2
    · rw [minus_out hn] at h2
      exact k.f a (by rw [plus_out hn]; exact h1) h2
/-- what is no tuple there may go -/
theorem minus_t {os : List Addr} {G2 : Hp} (h : ∀ a ∈ os, ∀ xs, ¬ Rd G2 a (.tup xs)) : ∀ a xs ds, TupAt K G2 a xs ds → TupAt K (minus G2 os) a xs ds := fun a xs ds q => by
  rcases q with q | ⟨q, qs⟩
  · have hn : a ∉ os := fun z => h a z xs (.inl q)
    exact .inl (by rw [minus_out hn]; exact q)
  · refine .inr ⟨?_, qs⟩
    rcases q with q | q
    · have hn : a ∉ os := fun z => h a z xs q
      refine .inl ?_
      rcases q with q | ⟨o, q⟩
      · exact .inl (by rw [minus_out hn]; exact q)
      · exact .inr ⟨o, by rw [minus_out hn]; exact q⟩
    · exact .inr q
end
end Fb

/-! FbE: == of ints and of texts; .get of a written dict; "".join; is of truth values. -/
namespace Fb
open PySem PySem.Spec PyProof.Rows L2 Evl
section
variable {X : Cx} {a b c e f o : Expr} {es : List Expr} {r : Rho} {d d1 d2 d3 : Dn} {pos p p1 p2 apos cpos : Pos}
theorem pv_gint {x : Str} {i : Int} {t : Tok} (hm : X.mg x = some (.int i t)) (hg : Gl X x := by rfl) (hdb : (x == ("__debug__" : Str)) = false := by decide) : Pv X (.Name x pos) r (.d (.int i)) := pv_glob (v := .int i) hm ⟨t, rfl⟩ (fun _ => Dp.int i) hg hdb
theorem pv_gstr {x : Str} {i : Str} {t : Tok} (hm : X.mg x = some (.str i t)) (hg : Gl X x := by rfl) (hdb : (x == ("__debug__" : Str)) = false := by decide) : Pv X (.Name x pos) r (.d (.str i)) := pv_glob (v := .str i) hm ⟨t, rfl⟩ (fun _ => Dp.str i) hg hdb
theorem pv_gref {x : Str} {q : Addr} {y : PyData} (hm : X.mg x = some (.ref q)) (hd : ∀ H, Dp X.K H (.ref q) y) (hg : Gl X x := by rfl) (hdb : (x == ("__debug__" : Str)) = false := by decide) : Pv X (.Name x pos) r (.d y) := pv_glob (v := .ref q) hm rfl hd hg hdb
theorem eqI_op {i j : Int} : Op2 X.K rEq (.d (.int i)) (.d (.int j)) (.d (.bool (decide (i = j)))) := fun x y G H Q g h1 h2 k => by
  rw [den_int h1, den_int h2]
  refine ⟨rfl, k _ G H (Gr.refl g) ?_⟩
  rw [show decide (V.int i = V.int j) = decide (i = j) from by rw [Bool.eq_iff_iff]; simp]
  exact Dp.bl _
theorem neI_op {i j : Int} : Op2 X.K rNe (.d (.int i)) (.d (.int j)) (.d (.bool (!decide (i = j)))) := fun x y G H Q g h1 h2 k => by
  rw [den_int h1, den_int h2]
  refine ⟨rfl, k _ G H (Gr.refl g) ?_⟩
  rw [show decide (V.int i = V.int j) = decide (i = j) from by rw [Bool.eq_iff_iff]; simp]
  exact Dp.bl _
theorem eqS_op {i j : Str} : Op2 X.K rEq (.d (.str i)) (.d (.str j)) (.d (.bool (decide (i = j)))) := fun x y G H Q g h1 h2 k => by
  rw [den_str h1, den_str h2]
  refine ⟨rfl, k _ G H (Gr.refl g) ?_⟩
  rw [show decide (V.str i = V.str j) = decide (i = j) from by rw [Bool.eq_iff_iff]; simp]
  exact Dp.bl _
theorem neS_op {i j : Str} : Op2 X.K rNe (.d (.str i)) (.d (.str j)) (.d (.bool (!decide (i = j)))) := fun x y G H Q g h1 h2 k => by
  rw [den_str h1, den_str h2]
  refine ⟨rfl, k _ G H (Gr.refl g) ?_⟩
  rw [show decide (V.str i = V.str j) = decide (i = j) from by rw [Bool.eq_iff_iff]; simp]
  exact Dp.bl _
theorem eqB_op {i j : Bool} : Op2 X.K rEq (.d (.bool i)) (.d (.bool j)) (.d (.bool (decide (i = j)))) := fun x y G H Q g h1 h2 k => by
  rw [den_bool h1, den_bool h2]
  refine ⟨rfl, k _ G H (Gr.refl g) ?_⟩
  rw [show decide (V.bl i = V.bl j) = decide (i = j) from by rw [Bool.eq_iff_iff]; simp]
  exact Dp.bl _
theorem pv_eqI {i j : Int} (ha : Pv X a r (.d (.int i))) (hb : Pv X b r (.d (.int j))) : Pv X (.Compare a [.Eq] [b] pos) r (.d (.bool (decide (i = j)))) := pv_cmp op_eq ha hb eqI_op (nomark _)
theorem pt_eqI {i j : Int} (ha : Pv X a r (.d (.int i))) (hb : Pv X b r (.d (.int j))) : Pt X (.Compare a [.Eq] [b] pos) r (decide (i = j)) := pt_cmp op_eq ha hb eqI_op (nomark _)
theorem pv_neI {i j : Int} (ha : Pv X a r (.d (.int i))) (hb : Pv X b r (.d (.int j))) : Pv X (.Compare a [.NotEq] [b] pos) r (.d (.bool (!decide (i = j)))) := pv_cmp op_ne ha hb neI_op (nomark _)
theorem pt_neI {i j : Int} (ha : Pv X a r (.d (.int i))) (hb : Pv X b r (.d (.int j))) : Pt X (.Compare a [.NotEq] [b] pos) r (!decide (i = j)) := pt_cmp op_ne ha hb neI_op (nomark _)
theorem pv_eqS {i j : Str} (ha : Pv X a r (.d (.str i))) (hb : Pv X b r (.d (.str j))) : Pv X (.Compare a [.Eq] [b] pos) r (.d (.bool (decide (i = j)))) := pv_cmp op_eq ha hb eqS_op (nomark _)
theorem pt_eqS {i j : Str} (ha : Pv X a r (.d (.str i))) (hb : Pv X b r (.d (.str j))) : Pt X (.Compare a [.Eq] [b] pos) r (decide (i = j)) := pt_cmp op_eq ha hb eqS_op (nomark _)
theorem pt_neS {i j : Str} (ha : Pv X a r (.d (.str i))) (hb : Pv X b r (.d (.str j))) : Pt X (.Compare a [.NotEq] [b] pos) r (!decide (i = j)) := pt_cmp op_ne ha hb neS_op (nomark _)
theorem pv_eqB {i j : Bool} (ha : Pv X a r (.d (.bool i))) (hb : Pv X b r (.d (.bool j))) : Pv X (.Compare a [.Eq] [b] pos) r (.d (.bool (decide (i = j)))) := pv_cmp op_eq ha hb eqB_op (nomark _)
theorem pt_eqB {i j : Bool} (ha : Pv X a r (.d (.bool i))) (hb : Pv X b r (.d (.bool j))) : Pt X (.Compare a [.Eq] [b] pos) r (decide (i = j)) := pt_cmp op_eq ha hb eqB_op (nomark _)
theorem pv_isB {i j : Bool} (ha : Pv X a r (.d (.bool i))) (hb : Pv X b r (.d (.bool j))) : Pv X (.Compare a [.Is] [b] pos) r (.d (.bool (decide (i = j)))) :=
  pv_cmp op_isBl ha hb (fun x y G H Q g h1 h2 k => ⟨i, j, den_bool h1, den_bool h2, k _ G H (Gr.refl g) (Dp.bl _)⟩) (nomark _)
theorem pt_isB {i j : Bool} (ha : Pv X a r (.d (.bool i))) (hb : Pv X b r (.d (.bool j))) : Pt X (.Compare a [.Is] [b] pos) r (decide (i = j)) :=
  pt_cmp op_isBl ha hb (fun x y G H Q g h1 h2 k => ⟨i, j, den_bool h1, den_bool h2, k _ G H (Gr.refl g) (Dp.bl _)⟩) (nomark _)
theorem pt_notB {i j : Bool} (ha : Pv X a r (.d (.bool i))) (hb : Pv X b r (.d (.bool j))) : Pt X (.Compare a [.IsNot] [b] pos) r (!decide (i = j)) :=
  pt_cmp op_notBl ha hb (fun x y G H Q g h1 h2 k => ⟨i, j, den_bool h1, den_bool h2, k _ G H (Gr.refl g) (Dp.bl _)⟩) (nomark _)
/-- a written dict with text keys and int values: what .get tells -/
structure Kd (K : PySem.W.Frag) (w : World) (d : Addr) (get : Str → Option Int) : Prop where
  ex : ∃ es n, L2.KDict K w d es n ∧ ∀ x, PySem.W.nsIn K d x = some none ∧ get x = none ∨ ∃ i t, PySem.W.nsIn K d x = some (some (.int i t)) ∧ get x = some i
/-- D.get(e, f), D a name of the module -/
theorem pv_kget {x : Str} {q : Addr} {get : Str → Option Int} {y : Str} {j : Int} (D : Kd X.K X.w q get) (hm : X.mg x = some (.ref q)) (ha : Pv X e r (.d (.str y))) (hb : Pv X f r (.d (.int j))) (m : M2 X (.Name x p) "get" apos e f cpos) (hg : Gl X x := by rfl) (hdb : (x == ("__debug__" : Str)) = false := by decide) :
    Pv X (.Call (.Attribute (.Name x p) "get" apos) [e, f] [] cpos) r (.d (.int ((get y).getD j))) := fun σ G H g n pins s I => by
  obtain ⟨es, nn, KD, hget⟩ := D.ex
  refine wpAny_Call_method m.base m.few m.line PySem.F.plainAttrs_dict PySem.F.slot_dict_get PySem.F.type_dict_get (ld_glob I hg hm ?_ hdb)
  have hM := PySem.W.mapOf_K (prog := X.prog) (w := X.w) I.kIn KD.at_ KD.lit
  have hO := I.kIn _ _ KD.at_
  refine ⟨hM.typeIs, fun a2 e2 => (by cases e2; exact ⟨_, hO, rfl⟩), ?_⟩
  rw [m.trees]
  refine Calls.callWith_builtin rfl (Calls.evalArgs_plain (Calls.spliced_cons (thn (ha σ G H g n pins s I) fun iv s2 ⟨y', H2, I2, ry, G2, k2, q2⟩ =>
    Calls.spliced_cons (thn (hb σ G2 H2 k2.s (n.up k2.g) pins s2 I2) fun fv s3 ⟨z, H3, I3, rz, G3, k3, q3⟩ => Calls.spliced_nil ?_))))
  rw [den_str q2] at ry
  rw [den_int q3] at rz
  obtain ⟨t, rfl⟩ := ry
  obtain ⟨t', rfl⟩ := rz
  have hM3 := PySem.W.mapOf_K (prog := X.prog) (w := X.w) I3.kIn KD.at_ KD.lit
  refine call_meetsIn PySem.F.slot_dict_get hM3.typeIs PySem.F.entry_dict_get (PySem.F.args_dict_get_3 _ _ _) (meets_dict_get_default (PySem.strKind X.prog X.w) q (PySem.strKind_is X.prog X.w y t) KD.low (.int j t')) ⟨_, hM3, ?_⟩
  rcases hget y with ⟨h1, h2⟩ | ⟨i, u, h1, h2⟩
  · rw [PySem.W.find_K KD.at_ h1, h2]
    exact ⟨.int j, H3, I3.tok _, ⟨t', rfl⟩, G3, k2.trans k3, Dp.int j⟩
  · rw [PySem.W.find_K KD.at_ h1, h2]
    exact ⟨.int i, H3, I3.tok _, ⟨u, rfl⟩, G3, k2.trans k3, Dp.int i⟩
/-- sep.join(list of texts) -/
theorem pv_join {z : Str} {ss : List Str} (ho : Pv X o r (.d (.str z))) (ha : Pv X e r (.d (.list (ss.map PyData.str)))) (hl : (ss.map (·.length)).sum + ss.length * z.length ≤ 16777216) (hs : starEach [e] X.env = [(false, eval e X.env)] := by rfl) (hbase : attributeBase o "join" X.env (eval o X.env) = eval o X.env := by rfl) (hline : (apos.endLine == pos.line) = true := by rfl) :
    Pv X (.Call (.Attribute o "join" apos) [e] [] pos) r (.d (.str (Txt.join z ss))) := fun σ G H g n =>
  wE_of (pe_join pe_w pe_w hs hbase hline) (wE_imp (ho σ G H g n) fun x H1 ⟨G1, k1, q1⟩ => ⟨⟨z, den_str q1⟩, wE_imp (ha σ G1 H1 k1.s (n.up k1.g)) fun y H2 ⟨G2, k2, q2⟩ => by
    cases q2 with
    | lst h1 h2 =>
      have hv := strs_flat h2
      subst hv
      exact ⟨z, _, ss, den_str q1, rfl, .inl (.inl (ex_rd k2.s h1)), hl, G2, k1.trans k2, Dp.str _⟩⟩)
end
end Fb

/-! FbT: dicts whose keys are tuples: in, items, get, dict(..), walks, d[k] = v. -/
namespace Fb
open PySem PySem.Spec PyProof.Rows L2 Evl
/-! ### plain dicts -/
section
variable {κ α β : Type} [DecidableEq κ]
def putA (kvs : List (κ × α)) (k : κ) (v : α) : List (κ × α) := if (kvs.any fun kv => decide (kv.1 = k)) = true then kvs.map (fun kv => if kv.1 = k then (kv.1, v) else kv) else kvs ++ [(k, v)]
def getA (kvs : List (κ × α)) (k : κ) : Option α := (kvs.find? fun kv => decide (kv.1 = k)).map (·.2)
def mergeA (kvs more : List (κ × α)) : List (κ × α) := more.foldl (fun acc kv => putA acc kv.1 kv.2) kvs
theorem putA_len (kvs : List (κ × α)) (k : κ) (v : α) : (putA kvs k v).length ≤ kvs.length + 1 := by
  unfold putA
  split
  · rw [List.length_map]; omega
  · simp
theorem mergeA_len : ∀ (more kvs : List (κ × α)), (mergeA kvs more).length ≤ kvs.length + more.length
  | [], kvs => Nat.le_refl _
  | p :: more, kvs => by
    have h1 := mergeA_len more (putA kvs p.1 p.2)
    have h2 := putA_len kvs p.1 p.2
    show (mergeA (putA kvs p.1 p.2) more).length ≤ _
    simp only [List.length_cons]
    omega
end
/-- keys as data -/
def kD : Key → PyData
  | .inl i => .int i
  | .inr x => .str x
def keyD (k : List Key) : PyData := .tuple (k.map kD)
def kInt : List Key → Bool
  | .inl _ :: _ => true
  | _ => false
section
variable {K : PySem.W.Frag} {G H : Hp}
theorem key_vs : ∀ {k : List Key} {vs : List V}, DpAll K G vs (k.map kD) → vs = k.map kV
  | [], _, h => by cases h; rfl
  | .inl i :: k, _, h => by
    cases h with
    | cons h1 h2 =>
      cases h1
      rw [key_vs h2]
      rfl
  | .inr i :: k, _, h => by
    cases h with
    | cons h1 h2 =>
      cases h1
      rw [key_vs h2]
      rfl
theorem key_tr {k : List Key} {v : V} (hk : kInt k = true) (h : Dp K G v (keyD k)) : ∃ b, v = .ref b ∧ G b = some (.tup (k.map kV)) := by
  cases h with
  | @tup a xs _ h1 h2 =>
    have e := key_vs h2
    subst e
    rcases h1 with h1 | ⟨_, h1⟩
    · exact ⟨a, rfl, h1⟩
    · cases k with
      | nil => cases hk
      | cons x k =>
        cases x with
        | inl i => simp [kD, isStr0] at h1
        | inr i => cases hk
theorem key_dp {k : List Key} {b : Addr} (h : G b = some (.tup (k.map kV))) : Dp K G (.ref b) (keyD k) := by
  refine .tup (.inl h) ?_
  clear h
  induction k with
  | nil => exact .nil
  | cons x k ih =>
    cases x with
    | inl i => exact .cons (.int i) ih
    | inr i => exact .cons (.str i) ih
abbrev PrD (K : PySem.W.Frag) (G : Hp) : List (List Key × V) → List (List Key × PyData) → Prop := Paired (fun (p : List Key × V) (q : List Key × PyData) => p.1 = q.1 ∧ Dp K G p.2 q.2)
theorem prd_any {ws : List (List Key × V)} {kvs : List (List Key × PyData)} (h : PrD K G ws kvs) (k : List Key) : (ws.any fun kv => decide (kv.1 = k)) = (kvs.any fun kv => decide (kv.1 = k)) := by
  induction h with
  | nil => rfl
  | cons h1 _ ih => rw [List.any_cons, List.any_cons, ih, h1.1]
theorem prd_val {ws : List (List Key × V)} {kvs : List (List Key × PyData)} (h : PrD K G ws kvs) (k : List Key) : (valV ws k = none ∧ getA kvs k = none) ∨ ∃ v d, valV ws k = some v ∧ getA kvs k = some d ∧ Dp K G v d := by
  unfold valV getA
  induction h with
  | nil => exact .inl ⟨rfl, rfl⟩
  | @cons a b _ _ h1 _ ih =>
    by_cases e : a.1 = k
    · refine .inr ⟨a.2, b.2, ?_, ?_, h1.2⟩
      · rw [List.find?_cons_of_pos (by simpa using e)]; rfl
      · rw [List.find?_cons_of_pos (by rw [← h1.1]; simpa using e)]; rfl
    · rw [List.find?_cons_of_neg (by simpa using e), List.find?_cons_of_neg (by rw [← h1.1]; simpa using e)]
      exact ih
theorem prd_put {ws : List (List Key × V)} {kvs : List (List Key × PyData)} (h : PrD K G ws kvs) (k : List Key) {v : V} {d : PyData} (hd : Dp K G v d) : PrD K G (putK ws k v) (putA kvs k d) := by
  unfold putK putA
  rw [prd_any h k]
  split
  · exact rep h
  · exact app h
where
  rep : ∀ {ws : List (List Key × V)} {kvs : List (List Key × PyData)}, PrD K G ws kvs → PrD K G (ws.map fun kv => if kv.1 = k then (kv.1, v) else kv) (kvs.map fun kv => if kv.1 = k then (kv.1, d) else kv)
  | _, _, .nil => .nil
  | _, _, .cons (a := a) (b := b) h1 t => by
    refine .cons ?_ (rep t)
    dsimp only
    by_cases e : a.1 = k
    · rw [if_pos e, if_pos (by rw [← h1.1]; exact e)]; exact ⟨h1.1, hd⟩
    · rw [if_neg e, if_neg (by rw [← h1.1]; exact e)]; exact h1
  app : ∀ {ws : List (List Key × V)} {kvs : List (List Key × PyData)}, PrD K G ws kvs → PrD K G (ws ++ [(k, v)]) (kvs ++ [(k, d)])
  | _, _, .nil => .cons ⟨rfl, hd⟩ .nil
  | _, _, .cons h1 t => .cons h1 (app t)
theorem prd_len {ws : List (List Key × V)} {kvs : List (List Key × PyData)} (h : PrD K G ws kvs) : ws.length = kvs.length := Paired.length h
theorem prd_up {G' : Hp} (e : Ex G G') {ws : List (List Key × V)} {kvs : List (List Key × PyData)} (h : PrD K G ws kvs) : PrD K G' ws kvs := L2.Paired.mapP h fun _ _ z => ⟨z.1, dp_up e _ _ z.2⟩
end
section
variable {X : Cx} {a b c e f o : Expr} {es : List Expr} {r : Rho} {d d1 d2 d3 : Dn} {pos p p1 p2 apos cpos : Pos} {k : List Key} {kvs : List (List Key × PyData)}
theorem dget_of {K : PySem.W.Frag} {G H : Hp} {q : Addr} {ws : List (List Key × V)} {v : V} (g : Ex G H) (hd : Rd G q (.dT ws)) (hk : kInt k = true) (hv : Dp K G v (keyD k)) : DGet H q v (valV ws k) := by
  obtain ⟨b, rfl, hb⟩ := key_tr hk hv
  exact .inr ⟨ws, k, b, ex_rd g hd, rfl, g _ _ hb, rfl⟩
/-- k in d, k not in d -/
theorem pv_inT (hu : X.A.units + 1 < cLine) (ha : Pv X a r (.d (keyD k))) (hb : Pv X b r (.t kvs)) (hk : kInt k = true) (hm : behindInMarks .In b = false := by rfl) : Pv X (.Compare a [.In] [b] pos) r (.d (.bool (getA kvs k).isSome)) := fun σ G H g n =>
  wE_of (L2.pe_cmp (pc_din hu pe_w pe_w) hm) (wE_imp (ha σ G H g n) fun x H1 ⟨G1, k1, q1⟩ => wE_imp (hb σ G1 H1 k1.s (n.up k1.g)) fun y H2 ⟨G2, k2, q, ws, ey, hd, hp⟩ => by
    subst ey
    refine ⟨q, _, rfl, dget_of k2.s hd hk (dp_up k2.g _ _ q1), G2, k1.trans k2, ?_⟩
    rcases prd_val hp k with ⟨h1, h2⟩ | ⟨v, d, h1, h2, _⟩ <;> rw [h1, h2] <;> exact Dp.bl _)
theorem pt_inT (hu : X.A.units + 1 < cLine) (ha : Pv X a r (.d (keyD k))) (hb : Pv X b r (.t kvs)) (hk : kInt k = true) (hm : behindInMarks .In b = false := by rfl) : Pt X (.Compare a [.In] [b] pos) r (getA kvs k).isSome := fun σ G H g n =>
  wT_of (L2.pt_cmp (pc_din hu pe_w pe_w) hm) (wE_imp (ha σ G H g n) fun x H1 ⟨G1, k1, q1⟩ => wE_imp (hb σ G1 H1 k1.s (n.up k1.g)) fun y H2 ⟨G2, k2, q, ws, ey, hd, hp⟩ => by
    subst ey
    refine ⟨q, _, rfl, dget_of k2.s hd hk (dp_up k2.g _ _ q1), _, rfl, G2, k1.trans k2, ?_⟩
    rcases prd_val hp k with ⟨h1, h2⟩ | ⟨v, d, h1, h2, _⟩ <;> rw [h1, h2] <;> rfl)
theorem pv_ninT (hu : X.A.units + 1 < cLine) (ha : Pv X a r (.d (keyD k))) (hb : Pv X b r (.t kvs)) (hk : kInt k = true) (hm : behindInMarks .NotIn b = false := by rfl) : Pv X (.Compare a [.NotIn] [b] pos) r (.d (.bool (!(getA kvs k).isSome))) := fun σ G H g n =>
  wE_of (L2.pe_cmp (pc_dnotin hu pe_w pe_w) hm) (wE_imp (ha σ G H g n) fun x H1 ⟨G1, k1, q1⟩ => wE_imp (hb σ G1 H1 k1.s (n.up k1.g)) fun y H2 ⟨G2, k2, q, ws, ey, hd, hp⟩ => by
    subst ey
    refine ⟨q, _, rfl, dget_of k2.s hd hk (dp_up k2.g _ _ q1), G2, k1.trans k2, ?_⟩
    rcases prd_val hp k with ⟨h1, h2⟩ | ⟨v, d, h1, h2, _⟩ <;> rw [h1, h2] <;> exact Dp.bl _)
theorem pt_ninT (hu : X.A.units + 1 < cLine) (ha : Pv X a r (.d (keyD k))) (hb : Pv X b r (.t kvs)) (hk : kInt k = true) (hm : behindInMarks .NotIn b = false := by rfl) : Pt X (.Compare a [.NotIn] [b] pos) r (!(getA kvs k).isSome) := fun σ G H g n =>
  wT_of (L2.pt_cmp (pc_dnotin hu pe_w pe_w) hm) (wE_imp (ha σ G H g n) fun x H1 ⟨G1, k1, q1⟩ => wE_imp (hb σ G1 H1 k1.s (n.up k1.g)) fun y H2 ⟨G2, k2, q, ws, ey, hd, hp⟩ => by
    subst ey
    refine ⟨q, _, rfl, dget_of k2.s hd hk (dp_up k2.g _ _ q1), _, rfl, G2, k1.trans k2, ?_⟩
    rcases prd_val hp k with ⟨h1, h2⟩ | ⟨v, d, h1, h2, _⟩ <;> rw [h1, h2] <;> rfl)
/-- d[k] -/
theorem pv_ixT {y : PyData} (hu : X.A.units + 1 < cLine) (ha : Pv X a r (.t kvs)) (hb : Pv X b r (.d (keyD k))) (hk : kInt k = true) (hy : getA kvs k = some y) (hs : NoSl b := by exact fun _ _ => rfl) : Pv X (.Subscript a b pos) r (.d y) := fun σ G H g n =>
  wE_of (pe_dget hu pe_w pe_w hs) (wE_imp (ha σ G H g n) fun x H1 ⟨G1, k1, q, ws, ex, hd, hp⟩ => wE_imp (hb σ G1 H1 k1.s (n.up k1.g)) fun y' H2 ⟨G2, k2, q2⟩ => by
    subst ex
    rcases prd_val hp k with ⟨h1, h2⟩ | ⟨v, d, h1, h2, h3⟩
    · rw [hy] at h2; cases h2
    · rw [hy] at h2
      cases h2
      have := dget_of k2.s (ex_rd k2.g hd) hk q2
      rw [h1] at this
      exact ⟨q, v, rfl, this, G2, k1.trans k2, dp_up k2.g _ _ h3⟩)
/-- d.get(k, x) -/
theorem pv_getT {y : PyData} (hu : X.A.units + 1 < cLine) (ho : Pv X o r (.t kvs)) (he : Pv X e r (.d (keyD k))) (hf : Pv X f r (.d y)) (hk : kInt k = true) (m : M2 X o "get" apos e f cpos) : Pv X (.Call (.Attribute o "get" apos) [e, f] [] cpos) r (.d ((getA kvs k).getD y)) := fun σ G H g n =>
  wE_of (pe_dget2 hu pe_w pe_w pe_w m) (wE_imp (ho σ G H g n) fun x H1 ⟨G1, k1, q, ws, ex, hd, hp⟩ => by
    subst ex
    refine ⟨q, rfl, .inr ⟨ws, ex_rd k1.s hd⟩, wE_imp (he σ G1 H1 k1.s (n.up k1.g)) fun y' H2 ⟨G2, k2, q2⟩ => wE_imp (hf σ G2 H2 k2.s ((n.up k1.g).up k2.g)) fun z H3 ⟨G3, k3, q3⟩ => ?_⟩
    have kk := (k1.trans k2).trans k3
    refine ⟨_, dget_of k3.s (ex_rd (k2.g.trans k3.g) hd) hk (dp_up k3.g _ _ q2), G3, kk, ?_⟩
    rcases prd_val hp k with ⟨h1, h2⟩ | ⟨v, d, h1, h2, h3⟩
    · rw [h1, h2]; exact q3
    · rw [h1, h2]; exact dp_up (k2.g.trans k3.g) _ _ h3)
/-- dict(xs), xs a list of pairs with keys that are tuples -/
def mergeT (kvs more : List (List Key × V)) : List (List Key × V) := more.foldl (fun acc kv => putK acc kv.1 kv.2) kvs
theorem mergeT_len : ∀ (more kvs : List (List Key × V)), (mergeT kvs more).length ≤ kvs.length + more.length
  | [], kvs => Nat.le_refl _
  | p :: more, kvs => by
    have h1 := mergeT_len more (putK kvs p.1 p.2)
    have h2 := length_putK kvs p.1 p.2
    show (mergeT (putK kvs p.1 p.2) more).length ≤ _
    simp only [List.length_cons]
    omega
theorem kt_merge {H : Hp} : ∀ {more : List (List Key × V)} {rs : List (List Key × Addr × Value)} {kvs : List (List Key × V)} {xs : List (List Key × Addr × Value)}, KT H more rs → KT H kvs xs → KT H (mergeT kvs more) (storedAllH xs rs)
  | _, _, _, _, .nil, h => h
  | _, _, _, _, .cons (a := p) (b := q) h1 t, h => by
    obtain ⟨h1, h2, h3⟩ := h1
    have hp := h.put p.1 h2 h3
    rw [show storedH _ p.1 q.2.1 q.2.2 = storedH _ q.1 q.2.1 q.2.2 from by rw [h1]] at hp
    exact kt_merge (kvs := putK _ p.1 p.2) (xs := storedH _ q.1 q.2.1 q.2.2) t hp
theorem pairsT_of {pins : List (Addr × Obj)} {σ : L2.St} {H : Hp} {s : Shared} (I : L2.Inv X pins σ H s) : ∀ {ps : List Addr} {kvs : List (List Key × V)}, Paired (fun p (kv : List Key × V) => ∃ b, SqT X.K H p [.ref b, kv.2] ∧ H b = some (.tup (kv.1.map kV))) ps kvs →
    ∃ prs : List (List Key × Addr × Value), KT H kvs prs ∧ prs.length = ps.length ∧ ∀ (j : Nat) (q : List Key × Addr × Value), prs[j]? = some q → ∃ T, ps[j]? = some T ∧ s.heap.IsTuple T #[.ref q.2.1, q.2.2] ∧ (tupleKind (mixKind X.prog X.w)).is s.heap q.1 q.2.1
  | _, _, .nil => ⟨[], .nil, rfl, fun j q e => by simp at e⟩
  | _, _, .cons (a := p) (b := kv) h t => by
    obtain ⟨prs, r, hl, hp⟩ := pairsT_of I t
    obtain ⟨b, hT, hb⟩ := h
    obtain ⟨its, rv, ht, _⟩ := I.tuple hT
    obtain ⟨u, y, ei, ru, ry⟩ := vals2 rv
    subst ei
    obtain rfl : u = Value.ref b := ru
    refine ⟨(kv.1, b, y) :: prs, .cons ⟨rfl, hb, ry⟩ r, by rw [List.length_cons, List.length_cons, hl], fun j q e => ?_⟩
    cases j with
    | zero =>
      have e' : (kv.1, b, y) = q := Option.some.inj e
      subst e'
      exact ⟨p, rfl, ht, key_of I.hok hb⟩
    | succ j =>
      obtain ⟨T, e1, e2, e3⟩ := hp j q (by simpa using e)
      exact ⟨T, by simpa using e1, e2, e3⟩
theorem call_dictT (hcalm : X.calm = true) (hu : X.A.units + 4 < cLine) : CallR X (.type "dict") (fun xs H Q => ∃ (a : Addr) (ps : List Addr) (kvs : List (List Key × V)), xs = [.ref a] ∧ SqL X.K H a (ps.map V.ref) ∧
    Paired (fun p (kv : List Key × V) => ∃ b, SqT X.K H p [.ref b, kv.2] ∧ H b = some (.tup (kv.1.map kV))) ps kvs ∧ ∀ p, H p = none → Q (.ref p) (upd H p (.dT (mergeT [] kvs)))) := by
  intro pins s σ H xs us Q I r q
  obtain ⟨a, ps, kvs, ex, hq, hp, q⟩ := q
  subst ex
  obtain ⟨u, eu, rx⟩ := vals1 r
  subst eu
  cases rx
  obtain ⟨its, rv, pl, hz⟩ := I.list hq
  have ei := refs_at rv
  subst ei
  rw [List.length_map] at hz
  obtain ⟨prs, rel, hl, hpr⟩ := pairsT_of I hp
  obtain ⟨o, n, ho, hc, hd, hdat⟩ := pl
  have hln : (prs.map fun q => ((Value.ref q.2.1 : Value), q.2.2)).length = ps.length := by rw [List.length_map, hl]
  refine call_dict_pairsH (knd := tupleKind (mixKind X.prog X.w)) (ps := prs) (PairArg.list a (ps.map Value.ref).toArray (fun j => ps.getD j 0) (prs.map fun q => ((Value.ref q.2.1 : Value), q.2.2))) (I.ok.hd hcalm) (by show X.A.units + 1 + 1 < cLine; omega) ⟨⟨o, n, ho, hc, hd, hdat⟩, ?_, ?_⟩ ⟨by rw [List.length_map], ?_⟩ ?_ (by rw [hln]; exact hz) fun h' tk hd' kk => ?_
  · simp [hl]
  · intro j k v e
    rw [List.getElem?_map] at e
    cases hj : prs[j]? with
    | none => rw [hj] at e; cases e
    | some q' =>
      rw [hj] at e
      cases e
      obtain ⟨T, e1, e2, e3⟩ := hpr j q' hj
      refine ⟨?_, .inl ?_⟩
      · simp [List.getD_eq_getElem?_getD, e1]
      · have eT : ps.getD j 0 = T := by rw [List.getD_eq_getElem?_getD, e1]; rfl
        show s.heap.IsTuple (ps.getD j 0) _
        rw [eT]
        exact e2
  · intro i key v hr
    have hr' : (prs.map fun q => ((Value.ref q.2.1 : Value), q.2.2))[i]? = some (key, v) := hr
    rw [List.getElem?_map] at hr'
    cases hj : prs[i]? with
    | none => rw [hj] at hr'; cases hr'
    | some q' =>
      rw [hj] at hr'
      cases hr'
      exact ⟨q'.1, q'.2.1, rfl, rfl⟩
  · intro h' hk x hx
    obtain ⟨j, hj⟩ := List.mem_iff_getElem?.mp hx
    obtain ⟨T, _, _, oo, its, nn, e1, e2, e3, e4⟩ := hpr j x hj
    exact ⟨oo, its, nn, hk _ _ (Nat.ne_of_lt (Heap.lt_size e1)) (by simp) e1, e2, e3, e4⟩
  · have hm : (s.heap.objs.size == sysModules) = false := beq_eq_false_iff_ne.mpr (Nat.ne_of_gt I.big)
    have hlen : (mergeT [] kvs).length ≤ sizeLine := by
      have h1 := mergeT_len kvs []
      have h2 : kvs.length = prs.length := Paired.length rel
      simp only [List.length_nil, Nat.zero_add] at h1
      omega
    obtain ⟨oo, es, ep, h1, h2, h3, h4, _, h5⟩ := hd'
    have kt : KT H (mergeT [] kvs) (storedAllH [] prs) := kt_merge rel .nil
    have hfr : H s.heap.objs.size = none := I.hok.fresh (Nat.le_refl _)
    refine ⟨.ref s.heap.objs.size, upd H s.heap.objs.size (.dT (mergeT [] kvs)), I.laid (t' := tk) (fun b ob e => kk b ob (by simp) e) (Nat.le_refl _) (show ObjOk X.prog X.w _ _ _ (.dT (mergeT [] kvs)) from ⟨hlen, hm, storedAllH [] prs, kt.keeps fun b ys e => ?_, oo, es, ep, h1, h2, h3, h4, h5⟩), rfl, q _ hfr⟩
    rw [upd_ne (ne_of_none e hfr)]
    exact e
def pairD (q : List Key × PyData) : PyData := .tuple [keyD q.1, q.2]
theorem prd_merge {K : PySem.W.Frag} {G : Hp} : ∀ {more : List (List Key × V)} {rs : List (List Key × PyData)} {kvs : List (List Key × V)} {xs : List (List Key × PyData)}, PrD K G more rs → PrD K G kvs xs → PrD K G (mergeT kvs more) (mergeA xs rs)
  | _, _, _, _, .nil, h => h
  | _, _, _, _, .cons (a := p) (b := q) h1 t, h => by
    obtain ⟨h1, h2⟩ := h1
    have hp := prd_put h p.1 h2
    rw [show putA _ p.1 q.2 = putA _ q.1 q.2 from by rw [h1]] at hp
    exact prd_merge (kvs := putK _ p.1 p.2) (xs := putA _ q.1 q.2) t hp
theorem pairs_dp {K : PySem.W.Frag} {G H : Hp} (g : Ex G H) : ∀ {prs : List (List Key × PyData)} {vs : List V}, (∀ q ∈ prs, kInt q.1 = true) → DpAll K G vs (prs.map pairD) → ∃ (ps : List Addr) (kvs : List (List Key × V)), vs = ps.map V.ref ∧ PrD K G kvs prs ∧ Paired (fun p (kv : List Key × V) => ∃ b, SqT K H p [.ref b, kv.2] ∧ H b = some (.tup (kv.1.map kV))) ps kvs
  | [], _, _, h => by cases h; exact ⟨[], [], rfl, .nil, .nil⟩
  | q :: prs, _, hk, h => by
    cases h with
    | cons h1 h2 =>
      obtain ⟨ps, kvs, rfl, r1, r2⟩ := pairs_dp g (fun z hz => hk z (List.mem_cons_of_mem _ hz)) h2
      cases h1 with
      | @tup T xs _ t1 t2 =>
        cases t2 with
        | @cons v1 _ _ _ u1 t3 =>
          cases t3 with
          | @cons v2 _ _ _ u2 t4 =>
            cases t4
            obtain ⟨b, rfl, hb⟩ := key_tr (hk q List.mem_cons_self) u1
            exact ⟨T :: ps, (q.1, v2) :: kvs, rfl, .cons ⟨rfl, u2⟩ r1, .cons ⟨b, ex_t g t1.sq, g _ _ hb⟩ r2⟩
theorem pv_dict {prs : List (List Key × PyData)} (hm : X.mg "dict" = none) (hu : X.A.units + 4 < cLine) (ha : Pv X a r (.d (.list (prs.map pairD)))) (hk : ∀ q ∈ prs, kInt q.1 = true) (hc : X.calm = true := by rfl) (hg : Gl X "dict" := by rfl) (he : starEach [a] X.env = (false, eval a X.env) :: starEach [] X.env := by rfl) (hpl : (backTo pos (starEach [] X.env)).any (·.1) = false := by rfl) :
    Pv X (.Call (.Name "dict" p) [a] [] pos) r (.t (mergeA [] prs)) :=
  pv_callTy (call_dictT hc hu) hg hm PyProof.Rows.boot_dict (pa_cons ha pa_nil he) (fun vs G H Q g hd k => by
    obtain ⟨v, rfl, hv⟩ := dens1 hd
    cases hv with
    | lst q1 q2 =>
      obtain ⟨ps, kvs, rfl, r1, r2⟩ := pairs_dp g hk q2
      refine ⟨_, ps, kvs, rfl, .inl (ex_rd g q1), r2, fun l hl => k _ _ _ (Gr.new g hl) ⟨l, _, rfl, .inl upd_same, prd_up (Ex.new (fresh_back g hl)) (prd_merge r1 .nil)⟩⟩) (he := he) (hpl := hpl)
end
end Fb

/-! FbF: expressions and statements that change owned objects; try; calls of methods; the book of a copy. -/
namespace Fb
open PySem PySem.Spec PyProof.Rows L2 Evl
/-- as Gr, but what stands at os may change -/
structure Gx (os : List Addr) (G H G2 H2 : Hp) : Prop where
  g : Ex G G2
  s : Ex G2 H2
  h : ∀ a o, a ∉ os → H a = some o → H2 a = some o
  t : ∀ a, H a ≠ none → H2 a ≠ none
  n : ∀ a, NT H a → NT H2 a
  f : ∀ a, G a = none → G2 a ≠ none → Fr H a
section
variable {os os' : List Addr} {G H G1 H1 G2 H2 : Hp}
theorem some_ne {H : Hp} {a : Addr} {o : HO} (h : H a = some o) : H a ≠ none := by rw [h]; exact fun z => nomatch z
theorem ne_some {H : Hp} {a : Addr} (h : H a ≠ none) : ∃ o, H a = some o := by
  cases q : H a with
  | none => exact absurd q h
  | some o => exact ⟨o, rfl⟩
theorem Gr.x (k : Gr G H G2 H2) : Gx os G H G2 H2 := ⟨k.g, k.s, fun a o _ h => k.h a o h, fun a h => by
  obtain ⟨o, q⟩ := ne_some h
  exact some_ne (k.h a o q), fun a h => h.up k.h, k.f⟩
theorem Gx.back {a : Addr} (k : Gx os G H G2 H2) (h : Fr H2 a) : Fr H a := fun o q => by
  by_cases z : ∃ xs, o = .tup xs
  · exact z
  · exact ((k.n a ⟨o, q, fun xs e => z ⟨xs, e⟩⟩).no h).elim
theorem Gx.trans (a : Gx os G H G1 H1) (b : Gx os G1 H1 G2 H2) : Gx os G H G2 H2 := ⟨a.g.trans b.g, b.s, fun x o n h => b.h x o n (a.h x o n h), fun x h => b.t x (a.t x h), fun x h => b.n x (a.n x h), fun x h1 h2 => by
  cases q : G1 x with
  | none => exact a.back (b.f x q h2)
  | some o => exact a.f x h1 (some_ne q)⟩
theorem Gx.mono (s : ∀ a, a ∈ os → a ∈ os') (k : Gx os G H G2 H2) : Gx os' G H G2 H2 := ⟨k.g, k.s, fun a o n h => k.h a o (fun z => n (s a z)) h, k.t, k.n, k.f⟩
theorem Gx.set {p : Addr} {o : HO} (e : Ex G H) (hp : p ∈ os) (hg : G p = none) (ho : ∀ xs, o ≠ .tup xs := by intro xs z; nomatch z) : Gx os G H G (upd H p o) := ⟨Ex.refl G, e.mut hg, fun a u n h => by
    rw [upd_ne (show a ≠ p from fun z => n (by rw [z]; exact hp))]; exact h, fun a h => by
    by_cases z : a = p
    · subst z; rw [upd_same]; exact fun z => nomatch z
    · rw [upd_ne z]; exact h, fun a h => by
    by_cases z : a = p
    · subst z; exact ⟨o, upd_same, ho⟩
    · obtain ⟨u, h1, h2⟩ := h
      exact ⟨u, by rw [upd_ne z]; exact h1, h2⟩, fun a h1 h2 => absurd h1 h2⟩
theorem Gx.lay {p : Addr} {o : HO} (e : Ex G H) (hp : H p = none) : Gx os G H G (upd H p o) := ⟨Ex.refl G, e.trans (Ex.new hp), fun a u _ h => Ex.new hp a u h, fun a h => by
    obtain ⟨o, q⟩ := ne_some h
    exact some_ne (Ex.new hp a o q), fun a h => h.up (Ex.new hp), fun a h1 h2 => absurd h1 h2⟩
theorem Gx.gr (h : ∀ a, a ∈ os → H a = none) (k : Gx os G H G2 H2) : Gr G H G2 H2 := ⟨k.g, k.s, fun a o q => k.h a o (fun z => by rw [h a z] at q; cases q) q, k.f⟩
theorem Gr.lay {p : Addr} {o : HO} (e : Ex G H) (hp : H p = none) : Gr G H G (upd H p o) := ⟨Ex.refl G, e.trans (Ex.new hp), Ex.new hp, fun a h1 h2 => absurd h1 h2⟩
theorem Gr.out {a : Addr} (k : Gr G H G2 H2) (hg : G a = none) (hh : NT H a) : G2 a = none := by
  cases q : G2 a with
  | none => rfl
  | some o => exact (hh.no (k.f a hg (some_ne q))).elim
theorem Gx.out {a : Addr} (k : Gx os G H G2 H2) (hg : G a = none) (hh : NT H a) : G2 a = none := by
  cases q : G2 a with
  | none => rfl
  | some o => exact (hh.no (k.f a hg (some_ne q))).elim
theorem Gr.upd {p : Addr} {o : HO} (k : Gr G H G2 H2) (hg : G p = none) (hp : NT H p) : Gr G (L2.upd H p o) G2 (L2.upd H2 p o) := by
  have h2 := k.out hg hp
  refine ⟨k.g, k.s.mut h2, fun a u h => ?_, fun a h1 h3 => ?_⟩
  · by_cases z : a = p
    · subst z; rw [upd_same] at h ⊢; exact h
    · rw [upd_ne z] at h ⊢; exact k.h a u h
  · have z : a ≠ p := fun z => by subst z; exact h3 h2
    intro u hu
    rw [upd_ne z] at hu
    exact k.f a h1 h3 u hu
end

/-! ### expressions that may change what is owned -/
def Fx (X : Cx) (e : Expr) (r : Rho) (G H : Hp) (Q : V → Hp → Hp → Prop) : Prop := ∀ σ, En X.K G σ r → wE X e σ H fun v H2 => ∃ G2, Ex G G2 ∧ Ex G2 H2 ∧ Q v G2 H2
def Ft (X : Cx) (e : Expr) (r : Rho) (G H : Hp) (Q : Bool → Hp → Hp → Prop) : Prop := ∀ σ, En X.K G σ r → wT X e σ H fun v H2 => ∃ G2, Ex G G2 ∧ Ex G2 H2 ∧ Q v G2 H2
/-- what is owned may be read: r' tells of it -/
structure Own (K : PySem.W.Frag) (os : List Addr) (r r' : Rho) (G H : Hp) : Prop where
  no : ∀ a, a ∈ os → G a = none
  ob : ∀ a, a ∈ os → ∃ o, H a = some o ∧ (∀ xs, o ≠ .tup xs) ∧ ∀ z u, o ≠ .frz z u
  en : ∀ σ, En K G σ r → En K (plus G H os) σ r'
theorem Own.tup {K : PySem.W.Frag} {os : List Addr} {r r' : Rho} {G H G2 H2 : Hp} (O : Own K os r r' G H) (k : Gr (plus G H os) H G2 H2) {y : PyData} {v : V} (hi : imm y = true) (q : Dp K G2 v y) : Dp K (minus G2 os) v y :=
  dp_imm (minus_t fun a ha xs z => by
    obtain ⟨o, h1, h2, h3⟩ := O.ob a ha
    have h4 : G2 a = some o := k.g a o (by rw [plus_in ha]; exact h1)
    rcases z with z | ⟨u, z⟩
    · rw [h4] at z; cases z; exact h2 _ rfl
    · rw [h4] at z; cases z; exact h3 _ _ rfl) y v hi q
section
variable {X : Cx} {a b c e o : Expr} {es : List Expr} {sts ss rest : List Stmt} {r r' : Rho} {d d1 d2 d3 : Dn} {pos p p1 p2 p3 p4 apos : Pos} {D : Ends} {G0 H0 G H : Hp} {W : WX} {Q : V → Hp → Hp → Prop} {T : Bool → Hp → Hp → Prop} {os : List Addr}
theorem fx_pv (g : Ex G H) (h : Pv X e r d) (k : ∀ v G2 H2, Gr G H G2 H2 → Den X.K G2 v d → Q v G2 H2) : Fx X e r G H Q := fun σ n => wE_imp (h σ G H g n) fun v H2 ⟨G2, k2, q⟩ => ⟨G2, k2.g, k2.s, k v G2 H2 k2 q⟩
theorem ft_pt {q : Bool} (g : Ex G H) (h : Pt X e r q) (k : ∀ G2 H2, Gr G H G2 H2 → T q G2 H2) : Ft X e r G H T := fun σ n => wT_imp (h σ G H g n) fun v H2 ⟨G2, k2, q⟩ => ⟨G2, k2.g, k2.s, by rw [q]; exact k G2 H2 k2⟩
theorem fx_own {y : PyData} (g : Ex G H) (O : Own X.K os r r' G H) (h : Pv X e r' (.d y)) (hi : imm y = true) (k : ∀ v G2 H2, Gr G H G2 H2 → Dp X.K G2 v y → Q v G2 H2) : Fx X e r G H Q := fun σ n =>
  wE_imp (h σ _ H (plus_s g) (O.en σ n)) fun v H2 ⟨G2, k2, q⟩ => by
    have kb := own_back O.no k2
    exact ⟨_, kb.g, kb.s, k v _ H2 kb (O.tup k2 hi q)⟩
theorem ft_own {q : Bool} (g : Ex G H) (O : Own X.K os r r' G H) (h : Pt X e r' q) (k : ∀ G2 H2, Gr G H G2 H2 → T q G2 H2) : Ft X e r G H T := fun σ n =>
  wT_imp (h σ _ H (plus_s g) (O.en σ n)) fun v H2 ⟨G2, k2, q⟩ => by
    have kb := own_back O.no k2
    exact ⟨_, kb.g, kb.s, by rw [q]; exact k _ H2 kb⟩
theorem fx_eq (h : Fx X a r G H fun x G1 H1 => Fx X b r G1 H1 fun y G2 H2 => scal x y = true ∧ Q (.bl (decide (x = y))) G2 H2) : Fx X (.Compare a [.Eq] [b] pos) r G H Q := fun σ n =>
  wE_of (pe_cmpR op_eq pe_w pe_w (nomark _)) (wE_imp (h σ n) fun x H1 ⟨G1, e1, s1, k1⟩ => wE_imp (k1 σ (n.up e1)) fun y H2 ⟨G2, e2, s2, k2, k3⟩ => ⟨k2, G2, e1.trans e2, s2, k3⟩)
theorem ft_eq (h : Fx X a r G H fun x G1 H1 => Fx X b r G1 H1 fun y G2 H2 => scal x y = true ∧ T (decide (x = y)) G2 H2) : Ft X (.Compare a [.Eq] [b] pos) r G H T := fun σ n =>
  wT_of (pt_cmpR op_eq pe_w pe_w (nomark _)) (wE_imp (h σ n) fun x H1 ⟨G1, e1, s1, k1⟩ => wE_imp (k1 σ (n.up e1)) fun y H2 ⟨G2, e2, s2, k2, k3⟩ => ⟨k2, _, rfl, G2, e1.trans e2, s2, k3⟩)
theorem fx_and (h : Fx X a r G H fun x G1 H1 => ∃ q : Bool, x = .bl q ∧ (q = true → Fx X b r G1 H1 Q) ∧ (q = false → Q (.bl false) G1 H1)) : Fx X (.BoolOp .And [a, b] pos) r G H Q := fun σ n =>
  wE_of (pe_and pe_w (pe_one pe_w)) (wE_imp (h σ n) fun x H1 ⟨G1, e1, s1, q, hx, kt, kf⟩ => ⟨q, hx, by
    cases q with
    | true => exact wE_imp (kt rfl σ (n.up e1)) fun y H2 ⟨G2, e2, s2, k2⟩ => ⟨G2, e1.trans e2, s2, k2⟩
    | false => exact ⟨G1, e1, s1, kf rfl⟩⟩)
/-- [], {} that are to be owned -/
theorem fx_newL (g : Ex G H) (k : ∀ l, H l = none → Q (.ref l) G (upd H l (.lst []))) : Fx X (.List [] pos) r G H Q := fun σ n =>
  wE_of (pe_lst L2.pa_nil) ⟨sz_of (by simp), fun l hl => ⟨G, Ex.refl G, g.trans (Ex.new hl), k l hl⟩⟩
theorem fx_newD (g : Ex G H) (k : ∀ l, H l = none → Q (.ref l) G (upd H l (.dT []))) : Fx X (.Dict [] [] pos) r G H Q := fun σ n =>
  wE_of pe_dnewT fun l hl => ⟨G, Ex.refl G, g.trans (Ex.new hl), k l hl⟩

/-! ### attributes -/
/-- o.f, the very value -/
theorem fx_fld {q C : Addr} {f : Str} (g : Ex G H) (hc : Cls X.K C) (hn : NoAttr X.K C f) (ho : Pv X o r (.v (.ref q))) (k : ∀ G2 H2, Gr G H G2 H2 → ∃ dx fs v, H2 q = some (.ins C dx fs) ∧ fs.lookup f = some v ∧ Q v G2 H2) (hb : attributeBase o f X.env (eval o X.env) = eval o X.env := by rfl) : Fx X (.Attribute o f pos) r G H Q := fun σ n =>
  wE_of (pe_fld pe_w hb) (wE_imp (ho σ G H g n) fun x H1 ⟨G1, k1, q1⟩ => by
    obtain rfl : x = .ref q := q1
    obtain ⟨dx, fs, v, h1, h2, h3⟩ := k G1 H1 k1
    exact ⟨q, C, dx, fs, v, rfl, h1, hc, hn, h2, G1, k1.g, k1.s, h3⟩)
/-- o.f = e -/
theorem gx_fld {q C : Addr} {f : Str} {p' : Pos} (hc : Cls X.K C) (hn : NoAttr X.K C f) (ho : Pv X o r (.v (.ref q)))
    (h : ∀ G H, Gr G0 H0 G H → Fx X e r G H fun v G1 H1 => ∃ dx fs, H1 q = some (.ins C dx fs) ∧ fs.length < 1000 ∧ G1 q = none ∧ Go X rest D G1 (upd H1 q (.ins C dx (putF f v fs))) r)
    (hs : swapsWith e (some (.Attribute o f p')) pos.line X.env = pure false := by rfl) : Go X (.Assign [.Attribute o f p'] e pos :: rest) D G0 H0 r := fun σ G H g n =>
  wSs_of (pss_cons (ps_fld pe_w pe_w hs) pss_w) (wE_imp (h G H g σ n) fun v H1 ⟨G1, e1, s1, dx, fs, h1, h2, h3, h4⟩ => wE_imp (ho σ G1 H1 s1 (n.up e1)) fun x H2 ⟨G2, k2, q2⟩ => by
    obtain rfl : x = .ref q := q2
    exact ⟨q, C, dx, fs, rfl, k2.h _ _ h1, hc, hn, h2, h4 σ G2 _ (k2.upd h3 (some_nt h1)) ((n.up e1).up k2.g)⟩)
/-- o.f += e, ints -/
theorem gx_inc {q C : Addr} {f : Str} {p' : Pos} {j : Int} (hc : Cls X.K C) (hn : NoAttr X.K C f) (ho : Pv X o r (.v (.ref q))) (he : Pv X e r (.d (.int j)))
    (h : ∀ G H, Gr G0 H0 G H → ∃ dx fs i, H q = some (.ins C dx fs) ∧ fs.lookup f = some (.int i) ∧ fs.length < 1000 ∧ G q = none ∧ Go X rest D G (upd H q (.ins C dx (putF f (.int (i + j)) fs))) r) : Go X (.AugAssign (.Attribute o f p') .Add e pos :: rest) D G0 H0 r := fun σ G H g n =>
  wSs_of (pss_cons (ps_fldaug pe_w pe_w in_add) pss_w) (wE_imp (ho σ G H g.s n) fun x H1 ⟨G1, k1, q1⟩ => by
    obtain rfl : x = .ref q := q1
    obtain ⟨dx, fs, i, h1, h2, h3, h4, h5⟩ := h G H g
    refine ⟨q, C, dx, fs, .int i, rfl, k1.h _ _ h1, hc, hn, h2, wE_imp (he σ G1 H1 k1.s (n.up k1.g)) fun y H2 ⟨G2, k2, q2⟩ => ?_⟩
    rw [den_int q2]
    have kk := k1.trans k2
    exact ⟨i, j, rfl, rfl, dx, fs, kk.h _ _ h1, h3, h5 σ G2 _ (kk.upd h4 (some_nt h1)) (n.up kk.g)⟩)
/-- o.append(e) -/
theorem fx_append {cpos : Pos} (h : Fx X o r G H fun x G1 H1 => ∃ l ys, x = .ref l ∧ H1 l = some (.lst ys) ∧ Fx X e r G1 H1 fun y G2 H2 => ∃ xs, H2 l = some (.lst xs) ∧ xs.length < sizeLine ∧ G2 l = none ∧ Q .non G2 (upd H2 l (.lst (xs ++ [y]))))
    (hbase : attributeBase o "append" X.env (eval o X.env) = eval o X.env := by rfl)
    (hfew : ((backTo cpos (starEach [e] X.env)).all (fun x => !x.1) && (backToKw cpos (keywordEach [] X.env)).all (fun x => x.1.isSome) && decide ([e].length + ([] : List Keyword).length + (if ([] : List Keyword).isEmpty then 0 else 1) < 30)) = true := by rfl)
    (hline : (apos.endLine == cpos.line) = true := by rfl) (hs : starEach [e] X.env = (false, eval e X.env) :: starEach [] X.env := by rfl) (hplain : (backTo cpos (starEach [] X.env)).any (·.1) = false := by rfl) :
    Fx X (.Call (.Attribute o "append" apos) [e] [] cpos) r G H Q := fun σ n =>
  wE_of (pe_bm PySem.F.plainAttrs_list PySem.F.slot_list_append PySem.F.type_list_append mt_append pe_w (L2.pa_cons pe_w L2.pa_nil hs) hbase hfew hline hs hplain) (wE_imp (h σ n) fun x H1 ⟨G1, e1, s1, l, ys, hx, hl, k1⟩ => by
    subst hx
    refine ⟨.inl ⟨rfl, _, .inl (.inl hl)⟩, wE_imp (k1 σ (n.up e1)) fun y H2 ⟨G2, e2, s2, xs, h1, h2, h3, h4⟩ => ?_⟩
    exact ⟨l, xs, y, rfl, rfl, h1, h2, G2, e1.trans e2, s2.mut h3, h4⟩)

/-! ### statements -/
theorem gx_when (h : ∀ G H, Gr G0 H0 G H → Ft X c r G H fun b G1 H1 => (b = true → Go X ss { D with nx := wSs X rest D } G1 H1 r) ∧ (b = false → Go X rest D G1 H1 r)) : Go X (.If c ss [] pos :: rest) D G0 H0 r := fun σ G H g n =>
  wSs_of (pss_cons (ps_if pt_w pss_w pss_w) pss_w) (wT_imp (h G H g σ n) fun b H1 ⟨G1, e1, s1, k1⟩ => by
    cases b with
    | true => exact k1.1 rfl σ G1 H1 (Gr.refl s1) (n.up e1)
    | false => exact wSs_of pss_nil (k1.2 rfl σ G1 H1 (Gr.refl s1) (n.up e1)))
theorem gx_set (i : Nat) {x : Str} {p' : Pos} (h : ∀ G H, Gr G0 H0 G H → Fx X e r G H fun v G1 H1 => ∃ d, Den X.K G1 v d ∧ Go X rest D G1 H1 (r.set i (some d))) (hN : X.N.Nodup) (hi : X.N[i]? = some x := by rfl) (hx : Loc X.env.scope x := by first | exact Or.inl rfl | exact Or.inr rfl)
    (hs : swapsWith e (some (.Name x p')) pos.line X.env = pure false := by rfl) (hf : X.fn x = true ∨ X.env.scope.names.lookup x = some .local := by first | exact .inl rfl | exact .inr rfl) : Go X (.Assign [.Name x p'] e pos :: rest) D G0 H0 r := fun σ G H g n =>
  wSs_of (pss_cons (ps_set hN hi hx pe_w hs hf) pss_w) (wE_imp (h G H g σ n) fun v H1 ⟨G1, e1, s1, d, q1, k1⟩ => k1 _ G1 H1 (Gr.refl s1) ((n.up e1).set i q1))
theorem gx_ret (h : ∀ G H, Gr G0 H0 G H → Fx X e r G H fun v _ H1 => D.rt v H1) : Go X (.Return (some e) pos :: rest) D G0 H0 r := fun σ G H g n =>
  wSs_of (pss_cons (ps_ret pe_w) pss_w) (wE_imp (h G H g σ n) fun v H1 ⟨G1, e1, s1, k1⟩ => k1)
theorem gx_expr (h : ∀ G H, Gr G0 H0 G H → Fx X e r G H fun _ G1 H1 => Go X rest D G1 H1 r) (hs : swapsWith e none pos.line X.env = pure false := by rfl) : Go X (.Expr e pos :: rest) D G0 H0 r := fun σ G H g n =>
  wSs_of (pss_cons (ps_expr pe_w hs) pss_w) (wE_imp (h G H g σ n) fun v H1 ⟨G1, e1, s1, k1⟩ => k1 σ G1 H1 (Gr.refl s1) (n.up e1))

/-! ### calls: defs, methods, classes; what they raise is wished for by W -/
theorem fx_call {x : Str} {k j : Nat} {sp : Sp} {ds : List Dn} (F : Fc X.prog X.w X.K X.mg X.base k x sp) (hr : Room j X.A) (tk : Takes X W) (g : Ex G H) (O : Own X.K os r r' G H) (ha : Pa X (e :: es) r' ds)
    (h : ∀ σ vs G1 H1, En X.K G σ r → Gr (plus G H os) H G1 H1 → Dens X.K G1 vs ds → sp vs H1 (fun v H2 => ∃ G2, Ex G G2 ∧ Ex G2 H2 ∧ Q v G2 H2) (WE W σ)) (hk : k ≤ j := by decide) (hg : Gl X x := by rfl)
    (hdb : (x == ("__debug__" : Str)) = false := by decide) (he : starEach (e :: es) X.env = (false, eval e X.env) :: starEach es X.env := by rfl) (hpl : (backTo pos (starEach es X.env)).any (·.1) = false := by rfl) :
    Fx X (.Call (.Name x p) (e :: es) [] pos) r G H Q := fun σ n => by
  obtain ⟨f, fd, ps, F, hm, hkp, hb⟩ := F.ex
  refine wE_of (pe_callS F (hr.mono hk) hg hm hkp hb (fun σ => passAt tk σ) pa_w hdb he hpl) (wA_imp (ha σ _ H (plus_s g) (O.en σ n)) fun vs H1 ⟨G1, k1, q1⟩ => ?_)
  exact h σ vs G1 H1 n k1 q1
/-- a call that keeps a pure promise, or raises -/
theorem fx_do {x : Str} {k j : Nat} {R : List Dn → Dn → Prop} {B : List Dn → Addr → Prop} {ds : List Dn} (F : Fc X.prog X.w X.K X.mg X.base k x (spR X.K R B)) (hr : Room j X.A) (tk : Takes X W) (g : Ex G H) (O : Own X.K os r r' G H) (ha : Pa X (e :: es) r' ds)
    (h : (∃ y, R ds (.d y) ∧ imm y = true ∧ ∀ v G2 H2, Gr G H G2 H2 → Dp X.K G2 v y → Q v G2 H2) ∨ (∃ C, B ds C ∧ ∀ σ G2 H2, Gr G H G2 H2 → En X.K G2 σ r → W (.ref C) none σ H2)) (hk : k ≤ j := by decide) (hg : Gl X x := by rfl)
    (hdb : (x == ("__debug__" : Str)) = false := by decide) (he : starEach (e :: es) X.env = (false, eval e X.env) :: starEach es X.env := by rfl) (hpl : (backTo pos (starEach es X.env)).any (·.1) = false := by rfl) :
    Fx X (.Call (.Name x p) (e :: es) [] pos) r G H Q := fx_call F hr tk g O ha (fun σ vs G1 H1 n k1 q1 => by
  refine ⟨ds, G1, k1.s, q1, ?_⟩
  rcases h with ⟨y, hR, hi, k⟩ | ⟨C, hB, k⟩
  · refine .inl ⟨_, hR, fun v G2 H2 k2 q2 => ?_⟩
    have k3 := k1.trans k2
    have kb := own_back O.no k3
    exact ⟨_, kb.g, kb.s, k v _ H2 kb (O.tup k3 hi q2)⟩
  · refine .inr ⟨C, hB, fun G2 H2 k2 => ?_⟩
    have kb := own_back O.no (k1.trans k2)
    exact k σ _ H2 kb (n.up kb.g)) hk hg hdb he hpl
end
end Fb

/-! FbM: what worlds.py tells, as plain functions of data. -/
namespace Fb
open PySem
def within (y : PyData) (lo hi : Int) : Bool := match y with
  | .int i => decide (lo ≤ i) && decide (i ≤ hi)
  | _ => false
theorem within_int {y : PyData} {lo hi : Int} (h : within y lo hi = true) : ∃ i, y = .int i ∧ lo ≤ i ∧ i ≤ hi := by
  cases y with
  | int i =>
    unfold within at h
    rw [Bool.and_eq_true, decide_eq_true_iff, decide_eq_true_iff] at h
    exact ⟨i, rfl, h.1, h.2⟩
  | _ => cases h
def keyNames : List Str := ["rank", "first", "short", "early"]
def smallTxt : Str := "abcdefghijklmnopqrstuvwxyz"
/-- the texts of a list of data that are all texts -/
def strsOf : List PyData → Option (List Str)
  | [] => some []
  | .str s :: r => (strsOf r).map (s :: ·)
  | _ => none
theorem strsOf_some : ∀ {xs : List PyData} {ss : List Str}, strsOf xs = some ss → xs = ss.map PyData.str
  | [], ss, h => by cases h; rfl
  | .str s :: r, ss, h => by
    unfold strsOf at h
    cases q : strsOf r with
    | none => rw [q] at h; cases h
    | some t =>
      rw [q] at h
      cases h
      rw [strsOf_some q]
      rfl
  | .none :: r, ss, h => by cases h
  | .bool _ :: r, ss, h => by cases h
  | .int _ :: r, ss, h => by cases h
  | .list _ :: r, ss, h => by cases h
  | .tuple _ :: r, ss, h => by cases h
  | .dict _ :: r, ss, h => by cases h
theorem strsOf_map (ss : List Str) : strsOf (ss.map PyData.str) = some ss := by
  induction ss with
  | nil => rfl
  | cons s ss ih => show (strsOf (ss.map PyData.str)).map (s :: ·) = _; rw [ih]; rfl
/-- not a key -/
def noKey (y : PyData) : Bool := match y with
  | .str s => !keyNames.contains s
  | _ => true
def keysOk (ks : List PyData) : Bool := match strsOf ks with
  | some ss => ss.all (keyNames.contains ·) && decide (dcn ss = ss.length)
  | none => false
def isWorld : PyData → Bool
  | .tuple [a, b, .tuple ks] => within a 1 5 && within b 1 3 && keysOk ks
  | _ => false
def isName : PyData → Bool
  | .str s => decide (1 ≤ (s.length : Int)) && decide ((s.length : Int) ≤ 4) && s.cps.toList.all fun c => decide (c ∈ smallTxt.cps.toList)
  | _ => false
def isPlace (rooms long : Int) (room hour : PyData) : Bool := within room 0 (rooms - 1) && within hour 0 (24 - long)
def isWish (rooms : Int) : PyData → Bool
  | .tuple [nm, room, hour, .int long, rank] => isName nm && (decide (1 ≤ long) && decide (long ≤ 6)) && (isPlace rooms long room hour && within rank 0 9)
  | _ => false
def isBooking (copies : Int) : PyData → Bool
  | .tuple [a, b] => within a 0 (copies - 1) && within b 0 11
  | _ => false
def isMoment (copies : Int) : PyData → Bool
  | .tuple [a, b] => within a 1 9999 && within b 0 (copies - 1)
  | _ => false
def isSpot (rooms : Int) : PyData → Bool
  | .tuple [a, b] => isPlace rooms 1 a b
  | _ => false
/-- the moment's copy is the booking's -/
def sameCopy : PyData → PyData → Bool
  | .tuple [_, .int m], .tuple [.int c, _] => decide (m = c)
  | _, _ => false
def isFact (copies rooms : Int) : PyData → Bool
  | .tuple [.str s, b] => decide (s = "off") && isBooking copies b
  | .tuple [.str s, b, m, p] => isBooking copies b && isMoment copies m && (decide (s = "wish") && (isWish rooms p && sameCopy m b) || decide (s = "pin") && isSpot rooms p)
  | _ => false
mutual
/-- every text, tuple, list within is short -/
def szOk : PyData → Bool
  | .str s => decide (s.length ≤ 1000)
  | .list xs => decide (xs.length ≤ 1000) && szAll xs
  | .tuple xs => decide (xs.length ≤ 1000) && szAll xs
  | .dict _ => false
  | _ => true
def szAll : List PyData → Bool
  | [] => true
  | x :: xs => szOk x && szAll xs
end
theorem szAll_iff : ∀ {xs : List PyData}, szAll xs = true ↔ ∀ x ∈ xs, szOk x = true
  | [] => by simp [szAll]
  | x :: xs => by
    rw [szAll, Bool.and_eq_true, szAll_iff]
    simp
theorem szOk_tup {xs : List PyData} (h : szOk (.tuple xs) = true) : xs.length ≤ 1000 ∧ ∀ x ∈ xs, szOk x = true := by
  rw [szOk, Bool.and_eq_true, decide_eq_true_iff, szAll_iff] at h
  exact h
theorem szOk_str {s : Str} (h : szOk (.str s) = true) : s.length ≤ 1000 := by
  rw [szOk, decide_eq_true_iff] at h
  exact h
theorem strOk_sz {y : PyData} (h : szOk y = true) : strOk y := by
  cases y with
  | str s =>
    have := szOk_str h
    show s.length ≤ sizeLine
    rw [sizeLine_eq]
    omega
  | _ => trivial
/-- a world as a datum -/
def wD (c r : Int) (ks : List Str) : PyData := .tuple [.int c, .int r, .tuple (ks.map PyData.str)]
theorem isWorld_shape {y : PyData} (h : isWorld y = true) : ∃ c r ks, y = wD c r ks ∧ 1 ≤ c ∧ c ≤ 5 ∧ 1 ≤ r ∧ r ≤ 3 ∧ (∀ k ∈ ks, k ∈ keyNames) ∧ ks.Nodup := by
  unfold isWorld at h
  split at h
  · rename_i a b ks
    rw [Bool.and_eq_true, Bool.and_eq_true] at h
    obtain ⟨⟨h1, h2⟩, h3⟩ := h
    obtain ⟨c, rfl, c1, c2⟩ := within_int h1
    obtain ⟨r, rfl, r1, r2⟩ := within_int h2
    unfold keysOk at h3
    split at h3
    · rename_i ss hs
      rw [Bool.and_eq_true, decide_eq_true_iff, List.all_eq_true] at h3
      refine ⟨c, r, ss, by rw [strsOf_some hs]; rfl, c1, c2, r1, r2, fun k hk => ?_, (dcn_nodup ss).mp h3.2⟩
      exact List.contains_iff_mem.mp (h3.1 k hk)
    · cases h3
  · cases h
end Fb

/-! FbG: methods, classes, try; the book of a copy. -/
namespace Fb
open PySem PySem.Spec PyProof.Rows L2 Evl
/-- arguments that may change what is owned -/
def Fa (X : Cx) (es : List Expr) (r : Rho) (G H : Hp) (Q : List V → Hp → Hp → Prop) : Prop := ∀ σ, En X.K G σ r → wA X es σ H fun v H2 => ∃ G2, Ex G G2 ∧ Ex G2 H2 ∧ Q v G2 H2
/-- the wish W at every slots that the environment tells -/
def Wx (X : Cx) (W : WX) (G : Hp) (r : Rho) : XK := fun cls d H' => ∀ σ, En X.K G σ r → W cls d σ H'
theorem pass_w {X : Cx} {W : WX} {G : Hp} {r : Rho} {σ : L2.St} (tk : Takes X W) (n : En X.K G σ r) : PassesAt (L2.CX X.prog X.w) X σ (Wx X W G r) := fun pins H s e s' I ⟨a, B, H', cls, d, h1, h2, h3, h4, h5, h6, h7, h8⟩ =>
  passAt tk σ pins H s e s' I ⟨a, B, H', cls, d, h1, h2, h3, h4, h5, h6, h7, h8 σ n⟩
/-- a method of the class at C that keeps sp; a class at C, by the name x, whose __init__ keeps sp -/
structure Fm (P : Program) (w : World) (K : PySem.W.Frag) (mg : Str → Option Value) (base : Heap) (k : Nat) (C : Addr) (m : Str) (sp : Sp) : Prop where
  ex : ∃ f fd ps, FnOk P w K mg base (L2.CX P w) k f fd ps sp ∧ Meth K C m f ∧ Binds K fd ps []
structure Fk (P : Program) (w : World) (K : PySem.W.Frag) (mg : Str → Option Value) (base : Heap) (k : Nat) (C : Addr) (x : Str) (sp : Sp) : Prop where
  ex : ∃ f fd ps, FnOk P w K mg base (L2.CX P w) k f fd ps sp ∧ Mk K C f ∧ Binds K fd ps [] ∧ mg x = some (.ref C)
section
variable {X : Cx} {a b c e o : Expr} {es : List Expr} {sts ss rest : List Stmt} {r r' : Rho} {d d1 d2 d3 : Dn} {pos p p1 p2 p3 p4 apos : Pos} {D : Ends} {G0 H0 G H : Hp} {W : WX} {Q : V → Hp → Hp → Prop} {QA : List V → Hp → Hp → Prop} {os : List Addr}
theorem fa_nil (g : Ex G H) (k : QA [] G H) : Fa X [] r G H QA := fun σ n => wA_of L2.pa_nil ⟨G, Ex.refl G, g, k⟩
theorem fa_cons (h : Fx X e r G H fun v G1 H1 => Fa X es r G1 H1 fun vs G2 H2 => QA (v :: vs) G2 H2) (hs : starEach (e :: es) X.env = (false, eval e X.env) :: starEach es X.env := by rfl) : Fa X (e :: es) r G H QA := fun σ n =>
  wA_of (L2.pa_cons pe_w pa_w hs) (wE_imp (h σ n) fun v H1 ⟨G1, e1, s1, k1⟩ => wA_imp (k1 σ (n.up e1)) fun vs H2 ⟨G2, e2, s2, k2⟩ => ⟨G2, e1.trans e2, s2, k2⟩)
theorem fa_pa {ds : List Dn} (g : Ex G H) (h : Pa X es r ds) (k : ∀ vs G2 H2, Gr G H G2 H2 → Dens X.K G2 vs ds → QA vs G2 H2) : Fa X es r G H QA := fun σ n => wA_imp (h σ G H g n) fun v H2 ⟨G2, k2, q⟩ => ⟨G2, k2.g, k2.s, k v G2 H2 k2 q⟩
theorem fx_tup {j0 : Nat} (h : Fa X es r G H fun vs G1 H1 => vs.length ≤ 100000 ∧ ∀ t, H1 t = none → Q (.ref t) (upd G1 t (.tup vs)) (upd H1 t (.tup vs))) : Fx X (.Tuple es j0 pos) r G H Q := fun σ n =>
  wE_of (pe_tup pa_w) (wA_imp (h σ n) fun vs H1 ⟨G1, e1, s1, hl, k1⟩ => ⟨sz_of hl, fun t ht => by
    have kn := Gr.new (o := .tup vs) s1 ht
    exact ⟨_, e1.trans kn.g, kn.s, k1 t ht⟩⟩)
theorem fx_callF {x : Str} {k j : Nat} {sp : Sp} (F : Fc X.prog X.w X.K X.mg X.base k x sp) (hr : Room j X.A) (tk : Takes X W)
    (h : Fa X (e :: es) r G H fun vs G1 H1 => sp vs H1 (fun v H2 => ∃ G2, Ex G1 G2 ∧ Ex G2 H2 ∧ Q v G2 H2) (Wx X W G1 r)) (hk : k ≤ j := by decide) (hg : Gl X x := by rfl)
    (hdb : (x == ("__debug__" : Str)) = false := by decide) (he : starEach (e :: es) X.env = (false, eval e X.env) :: starEach es X.env := by rfl) (hpl : (backTo pos (starEach es X.env)).any (·.1) = false := by rfl) :
    Fx X (.Call (.Name x p) (e :: es) [] pos) r G H Q := fun σ n pins s I => by
  obtain ⟨f, fd, ps, F, hm, hkp, hb⟩ := F.ex
  refine wpAny_Call_Name_kw (ld_glob I hg hm ?_ hdb)
  refine PySem.W.callWith_K (h₀ := X.base) I.ok.mod.kin hkp (thn (h σ n pos pins s I) fun us s1 ⟨vs, H1, I1, rv, G1, e1, s1', k1⟩ => ⟨I1.kIn, ?_⟩) he hpl
  exact thn (run_fnS (E := fun _ => Wx X W G1 r) F (hr.mono hk) hb (pass_w tk (n.up e1)) I1 rv k1) fun u s2 ⟨v, H2, I2, rv2, G2, e2, s2', k2⟩ => ⟨v, H2, I2, rv2, G2, e1.trans e2, s2', k2⟩
/-- o.m(e, ..) -/
theorem fx_meth {C q : Addr} {m : Str} {k j : Nat} {sp : Sp} {pl : Sem Bool} (F : Fm X.prog X.w X.K X.mg X.base k C m sp) (hc : Cls X.K C) (hr : Room j X.A) (tk : Takes X W) (g : Ex G H) (ho : Pv X o r (.v (.ref q)))
    (h : ∀ G1 H1, Gr G H G1 H1 → ∃ dx fs, H1 q = some (.ins C dx fs) ∧ fs.lookup m = none ∧ Fa X (e :: es) r G1 H1 fun vs G2 H2 => sp (.ref q :: vs) H2 (fun v H3 => ∃ G3, Ex G2 G3 ∧ Ex G3 H3 ∧ Q v G3 H3) (Wx X W G2 r)) (hk : k ≤ j := by decide)
    (hst : starEach (e :: es) X.env = (false, eval e X.env) :: starEach es X.env := by rfl) (hpl : (backTo pos (starEach es X.env)).any (·.1) = false := by rfl)
    (ht : eval (.Call (.Attribute o m apos) (e :: es) [] pos) X.env = (do
        let z ← eval o X.env
        standAt apos.atName
        let (u, first) ← holding [z] (getMethod z m pl)
        callWith pos u first (backTo pos (starEach (e :: es) X.env)) (backToKw pos (keywordEach [] X.env))) := by rfl) : Fx X (.Call (.Attribute o m apos) (e :: es) [] pos) r G H Q := fun σ n pins s I => by
  obtain ⟨f, fd, ps, F, hm, hb⟩ := F.ex
  refine PySem.W.methodCall_KW (pl := pl) (thn (ho σ G H g n pins s I) fun u s1 ⟨x, H1, I1, rx, G1, k1, q1⟩ => ?_) ht
  obtain rfl : x = .ref q := q1
  obtain rfl : u = Value.ref q := rx
  obtain ⟨dx, fs, h1, h2, h3⟩ := h G1 H1 k1
  refine getmeth_ok I1 h1 hc hm h2 ?_
  refine PySem.W.callWith_K (first := [.ref q]) (h₀ := X.base) I.ok.mod.kin hm.kp (thn (h3 σ (n.up k1.g) pos pins s1 I1) fun us s2 ⟨vs, H2, I2, rv, G2, e2, s2', k2⟩ => ⟨I2.kIn, ?_⟩) hst hpl
  exact thn (run_fnS (us := .ref q :: us) (vs := .ref q :: vs) (E := fun _ => Wx X W G2 r) F (hr.mono hk) hb (pass_w tk ((n.up k1.g).up e2)) I2 (.cons rfl rv) k2) fun u s3 ⟨v, H3, I3, rv3, G3, e3, s3', k3⟩ => ⟨v, H3, I3, rv3, G3, (k1.g.trans e2).trans e3, s3', k3⟩
theorem fx_meth0 {C q : Addr} {m : Str} {k j : Nat} {sp : Sp} {pl : Sem Bool} (F : Fm X.prog X.w X.K X.mg X.base k C m sp) (hc : Cls X.K C) (hr : Room j X.A) (tk : Takes X W) (g : Ex G H) (ho : Pv X o r (.v (.ref q)))
    (h : ∀ G1 H1, Gr G H G1 H1 → ∃ dx fs, H1 q = some (.ins C dx fs) ∧ fs.lookup m = none ∧ sp [.ref q] H1 (fun v H3 => ∃ G3, Ex G1 G3 ∧ Ex G3 H3 ∧ Q v G3 H3) (Wx X W G1 r)) (hk : k ≤ j := by decide)
    (ht : eval (.Call (.Attribute o m apos) [] [] pos) X.env = (do
        let z ← eval o X.env
        standAt apos.atName
        let (u, first) ← holding [z] (getMethod z m pl)
        callWith pos u first (backTo pos (starEach [] X.env)) (backToKw pos (keywordEach [] X.env))) := by rfl) : Fx X (.Call (.Attribute o m apos) [] [] pos) r G H Q := fun σ n pins s I => by
  obtain ⟨f, fd, ps, F, hm, hb⟩ := F.ex
  refine PySem.W.methodCall_KW (pl := pl) (thn (ho σ G H g n pins s I) fun u s1 ⟨x, H1, I1, rx, G1, k1, q1⟩ => ?_) ht
  obtain rfl : x = .ref q := q1
  obtain rfl : u = Value.ref q := rx
  obtain ⟨dx, fs, h1, h2, h3⟩ := h G1 H1 k1
  refine getmeth_ok I1 h1 hc hm h2 ?_
  exact PySem.W.callWith_K0 (first := [.ref q]) I1.kIn hm.kp (thn (run_fnS (us := [.ref q]) (vs := [.ref q]) (E := fun _ => Wx X W G1 r) F (hr.mono hk) hb (pass_w tk (n.up k1.g)) I1 (.cons rfl .nil) h3) fun u s3 ⟨v, H3, I3, rv3, G3, e3, s3', k3⟩ => ⟨v, H3, I3, rv3, G3, k1.g.trans e3, s3', k3⟩)
/-- C(e, ..) -/
theorem fx_make {C : Addr} {x : Str} {k j : Nat} {sp : Sp} (F : Fk X.prog X.w X.K X.mg X.base k C x sp) (hr : Room j X.A) (tk : Takes X W)
    (h : Fa X (e :: es) r G H fun vs G1 H1 => ∀ q dx, H1 q = none → H1 dx = none → dx ≠ q → sp (.ref q :: vs) (upd (upd H1 dx (.own q)) q (.ins C dx [])) (fun v H2 => v = .non ∧ ∃ G2, Ex G1 G2 ∧ Ex G2 H2 ∧ Q (.ref q) G2 H2) (Wx X W G1 r)) (hk : k + 1 ≤ j := by decide) (hg : Gl X x := by rfl)
    (hdb : (x == ("__debug__" : Str)) = false := by decide) (he : starEach (e :: es) X.env = (false, eval e X.env) :: starEach es X.env := by rfl) (hpl : (backTo pos (starEach es X.env)).any (·.1) = false := by rfl) :
    Fx X (.Call (.Name x p) (e :: es) [] pos) r G H Q := fun σ n pins s I => by
  obtain ⟨f, fd, ps, F, M, hb, hm⟩ := F.ex
  refine wpAny_Call_Name_kw (ld_glob I hg hm ?_ hdb)
  refine PySem.W.callWith_K (h₀ := X.base) I.ok.mod.kin M.kp (thn (h σ n pos pins s I) fun us s1 ⟨vs, H1, I1, rv, G1, e1, s1', k1⟩ => ⟨I1.kIn, ?_⟩) he hpl
  have hq := k1 (s1.heap.objs.size + 1) s1.heap.objs.size (I1.hok.fresh (Nat.le_succ _)) (I1.hok.fresh (Nat.le_refl _)) (Nat.ne_of_lt (Nat.lt_succ_self _))
  have I2 := Inv.made (C := C) I1
  have hl := F.len _ _ _ _ hq
  have r2 : Vals (V.ref (s1.heap.objs.size + 1) :: vs) (Value.ref (s1.heap.objs.size + 1) :: us) := .cons rfl rv
  rw [r2.length] at hl
  have bb := hb _ (Value.ref (s1.heap.objs.size + 1) :: us) I2.kIn (by rw [List.append_nil]; exact hl)
  rw [List.append_nil] at bb
  refine wpAny_call (make_map (f := f) I1.kIn M.makes M.init (beq_iff_eq.mp M.fn) (codeAny_mono (F.run _ X.stack _ _ _ _ _ _ _ ((hr.mono hk).make C us []) (I2.env0.make C us []) bb r2 hq) fun w s' hq' => ?_))
  cases w with
  | error e => exact pass_w tk (n.up e1) pins _ _ e s' I2 hq'
  | ok fl =>
    cases fl with
    | ret u =>
      obtain ⟨v, H', I3, rv3, ev, G2, e2, s2', k2⟩ := I2.after hq'
      subst ev
      exact ⟨rv3, ⟨V.ref (s1.heap.objs.size + 1), H', I3, rfl, G2, e1.trans e2, s2', k2⟩⟩
    | next => exact False.elim hq'
    | brk => exact False.elim hq'
    | cont => exact False.elim hq'
/-- o.m(..) by a pure promise, o a thing that is read -/
theorem pv_meth {C q : Addr} {fs : List (Str × Fd)} {m : Str} {k j : Nat} {R : List Dn → Dn → Prop} {B : List Dn → Addr → Prop} {ds : List Dn} {pl : Sem Bool} (F : Fm X.prog X.w X.K X.mg X.base k C m (spR X.K R B)) (hc : Cls X.K C) (hr : Room j X.A) (ho : Pv X o r (.ob q C fs)) (hn : fs.lookup m = none) (ha : Pa X (e :: es) r ds) (hR : R (.ob q C fs :: ds) d) (hk : k ≤ j := by decide)
    (hst : starEach (e :: es) X.env = (false, eval e X.env) :: starEach es X.env := by rfl) (hpl : (backTo pos (starEach es X.env)).any (·.1) = false := by rfl)
    (ht : eval (.Call (.Attribute o m apos) (e :: es) [] pos) X.env = (do
        let z ← eval o X.env
        standAt apos.atName
        let (u, first) ← holding [z] (getMethod z m pl)
        callWith pos u first (backTo pos (starEach (e :: es) X.env)) (backToKw pos (keywordEach [] X.env))) := by rfl) : Pv X (.Call (.Attribute o m apos) (e :: es) [] pos) r d := fun σ G H g n => by
  obtain ⟨f, fd, ps, F, hm, hb⟩ := F.ex
  refine wE_of (pe_meth (dvs := []) pe_w hc hm F (hr.mono hk) hb .nil passL pa_w hst hpl ht) (wE_imp (ho σ G H g n) fun x H1 ⟨G1, k1, q1⟩ => ?_)
  obtain ⟨dx, ws, rfl, h1, h2⟩ := q1
  refine ⟨q, dx, ws, rfl, k1.s _ _ h1, lookup_none h2 hn, wA_imp (ha σ G1 H1 k1.s (n.up k1.g)) fun vs H2 ⟨G2, k2, q2⟩ => ?_⟩
  rw [List.append_nil]
  exact ⟨_, G2, k2.s, .cons (Den.up (d := .ob q C fs) k2.g ⟨dx, ws, rfl, h1, h2⟩) q2, .inl ⟨d, hR, fun v G3 H3 k3 q3 => ⟨G3, (k1.trans k2).trans k3, q3⟩⟩⟩
where
  lookup_none {K : PySem.W.Frag} {H : Hp} {f : Str} : ∀ {ws : List (Str × V)} {fs : List (Str × Fd)}, Paired (fun (p : Str × V) (q : Str × Fd) => p.1 = q.1 ∧ DenF K H p.2 q.2) ws fs → fs.lookup f = none → ws.lookup f = none
  | _, _, .nil, _ => rfl
  | (a, v) :: ws, (b, g) :: fs, .cons ⟨h1, h2⟩ t, h => by
    have h1' : a = b := h1
    subst h1'
    rw [List.lookup_cons] at h ⊢
    cases q : f == a with
    | true => rw [q] at h; cases h
    | false => rw [q] at h; exact lookup_none t h
theorem pv_meth0 {C q : Addr} {fs : List (Str × Fd)} {m : Str} {k j : Nat} {R : List Dn → Dn → Prop} {B : List Dn → Addr → Prop} {pl : Sem Bool} (F : Fm X.prog X.w X.K X.mg X.base k C m (spR X.K R B)) (hc : Cls X.K C) (hr : Room j X.A) (ho : Pv X o r (.ob q C fs)) (hn : fs.lookup m = none) (hR : R [.ob q C fs] d) (hk : k ≤ j := by decide)
    (ht : eval (.Call (.Attribute o m apos) [] [] pos) X.env = (do
        let z ← eval o X.env
        standAt apos.atName
        let (u, first) ← holding [z] (getMethod z m pl)
        callWith pos u first (backTo pos (starEach [] X.env)) (backToKw pos (keywordEach [] X.env))) := by rfl) : Pv X (.Call (.Attribute o m apos) [] [] pos) r d := fun σ G H g n => by
  obtain ⟨f, fd, ps, F, hm, hb⟩ := F.ex
  refine wE_of (pe_meth0 (dvs := []) pe_w hc hm F (hr.mono hk) hb .nil passL ht) (wE_imp (ho σ G H g n) fun x H1 ⟨G1, k1, q1⟩ => ?_)
  obtain ⟨dx, ws, rfl, h1, h2⟩ := q1
  exact ⟨q, dx, ws, rfl, k1.s _ _ h1, pv_meth.lookup_none h2 hn, [.ob q C fs], G1, k1.s, .cons (show Den X.K G1 (.ref q) (.ob q C fs) from ⟨dx, ws, rfl, h1, h2⟩) .nil, .inl ⟨d, hR, fun v G3 H3 k3 q3 => ⟨G3, k1.trans k3, q3⟩⟩⟩

/-! ### try .. except .. except .. -/
def hTs (X : Cx) (suite : List Stmt) : Addr → Value → Option Addr → TS := fun a cls d D σ H => ∀ oe pn, Zc cls d oe → wSs (X.suite a ((a, oe) :: pn)) suite D σ H
theorem hd_cons {x : Str} {v : Value} {b₀ : Stmt} {suite : List Stmt} {np pos' : Pos} {hds : List ExceptHandler} {l : List (Value × (Addr → Value → Option Addr → TS))} (hc : Names X x v) (k : HdsOk X hds l) : HdsOk X (.ExceptHandler (some (.Name x np)) none (b₀ :: suite) pos' :: hds) ((v, hTs X (b₀ :: suite)) :: l) :=
  .cons hc (fun a oe cls d pn z _ => ⟨fun pins s σ H D I h => h oe pn z pins s I⟩) k
theorem go_try {body : List Stmt} {h₀ : ExceptHandler} {hds : List ExceptHandler} {l : List (Value × (Addr → Value → Option Addr → TS))} {Wout : WX} (tk : Takes X Wout) (hh : HdsOk X (h₀ :: hds) l)
    (hb : ∀ pn xe, Takes (X.tr pn xe) (wMany X.K Wout { D with nx := wSs X rest D } l) → Go (X.tr pn xe) body { D with nx := wSs X rest D } G0 H0 r) (hs : X.stack = X.env :: X.outer := by rfl) (hf : X.env.frame = some X.env.locals := by rfl) :
    Go X (.Try body (h₀ :: hds) [] [] pos :: rest) D G0 H0 r := fun σ G H g n =>
  wSs_of (pss_cons (ps_try_many (tb := fun W D σ H => ∀ pn xe, Takes (X.tr pn xe) W → wSs (X.tr pn xe) body D σ H) hs hf tk (fun W pn xe t _ => ⟨fun pins s σ H D I h => h pn xe t pins s I⟩) hh) pss_w) (fun pn xe t => hb pn xe t σ G H g n)
theorem many_hit {K : PySem.W.Frag} {Wout : WX} {cls c : Value} {dd : Option Addr} {ts : Addr → Value → Option Addr → TS} {l : List (Value × (Addr → Value → Option Addr → TS))} {σ : L2.St} (h : PySem.W.exmOne K cls c = some true) (k : ∀ a, H a = none → ts a cls dd D σ H) : wMany K Wout D ((c, ts) :: l) cls dd σ H := ⟨true, h, fun _ => k, fun q => nomatch q⟩
theorem many_miss {K : PySem.W.Frag} {Wout : WX} {cls c : Value} {dd : Option Addr} {ts : Addr → Value → Option Addr → TS} {l : List (Value × (Addr → Value → Option Addr → TS))} {σ : L2.St} (h : PySem.W.exmOne K cls c = some false) (k : wMany K Wout D l cls dd σ H) : wMany K Wout D ((c, ts) :: l) cls dd σ H := ⟨false, h, (fun q => nomatch q), fun _ => k⟩
end

/-! ### the book of a copy -/
structure Bk where
  c : Int
  r : Int
  ks : List Str
  mine : Int
  facts : List PyData
  clock : Int
  own : Int
  seen : List (List Key × PyData)
def Bk.wd (b : Bk) : PyData := wD b.c b.r b.ks
def Bk.fs (b : Bk) : List (Str × Fd) := [("world", .d b.wd), ("mine", .d (.int b.mine)), ("facts", .d (.list b.facts)), ("clock", .d (.int b.clock)), ("own", .d (.int b.own)), ("seen", .t b.seen)]
def bkF (b : Bk) (wv : V) (l sd : Addr) : List (Str × V) := [("world", wv), ("mine", .int b.mine), ("facts", .ref l), ("clock", .int b.clock), ("own", .int b.own), ("seen", .ref sd)]
structure CopyAt (K : PySem.W.Frag) (C : Addr) (G H : Hp) (p l sd : Addr) (b : Bk) : Prop where
  gp : G p = none
  gl : G l = none
  gs : G sd = none
  ex : ∃ dx wv fvs svs, H p = some (.ins C dx (bkF b wv l sd)) ∧ Dp K G wv b.wd ∧ H l = some (.lst fvs) ∧ DpAll K G fvs b.facts ∧ H sd = some (.dT svs) ∧ Paired (fun (p : List Key × V) (q : List Key × PyData) => p.1 = q.1 ∧ Dp K G p.2 q.2) svs b.seen
section
variable {K : PySem.W.Frag} {C p l sd : Addr} {G H G2 H2 : Hp} {b : Bk} {os : List Addr}
theorem CopyAt.frame (A : CopyAt K C G H p l sd b) (k : Gx os G H G2 H2) (hp : p ∉ os) (hl : l ∉ os) (hs : sd ∉ os) : CopyAt K C G2 H2 p l sd b := by
  obtain ⟨gp, gl, gs, dx, wv, fvs, svs, h1, h2, h3, h4, h5, h6⟩ := A
  exact ⟨k.out gp (some_nt h1), k.out gl (some_nt h3), k.out gs (some_nt h5), dx, wv, fvs, svs, k.h _ _ hp h1, dp_up k.g _ _ h2, k.h _ _ hl h3, dpAll_up k.g _ _ h4, k.h _ _ hs h5, L2.Paired.mapP h6 fun _ _ z => ⟨z.1, dp_up k.g _ _ z.2⟩⟩
theorem CopyAt.up (A : CopyAt K C G H p l sd b) (k : Gr G H G2 H2) : CopyAt K C G2 H2 p l sd b := A.frame (os := []) k.x (by simp) (by simp) (by simp)
theorem En.re {K : PySem.W.Frag} {G : Hp} {σ : L2.St} {r : Rho} {i : Nat} {x : V} {d : Dn} (n : En K G σ r) (h : r[i]? = some (some (.v x))) (q : Den K G x d) : En K G σ (r.set i (some d)) := by
  refine ⟨by rw [List.length_set]; exact n.len, fun j e hj => ?_⟩
  by_cases hij : i = j
  · subst hij
    obtain ⟨v, h1, h2⟩ := n.at_ i _ h
    have hl : i < r.length := (List.getElem?_eq_some_iff.mp h).1
    rw [List.getElem?_set_self hl] at hj
    cases hj
    obtain rfl : v = x := h2
    exact ⟨v, h1, q⟩
  · rw [List.getElem?_set_ne hij] at hj
    exact n.at_ j e hj
theorem CopyAt.ob (A : CopyAt K C G H p l sd b) : Den K (plus G H [p, l, sd]) (.ref p) (.ob p C b.fs) := by
  obtain ⟨gp, gl, gs, dx, wv, fvs, svs, h1, h2, h3, h4, h5, h6⟩ := A
  have e : Ex G (plus G H [p, l, sd]) := plus_g fun a ha => by
    simp only [List.mem_cons, List.not_mem_nil, or_false] at ha
    rcases ha with rfl | rfl | rfl
    · exact gp
    · exact gl
    · exact gs
  refine ⟨dx, bkF b wv l sd, rfl, by rw [plus_in (by simp)]; exact h1, ?_⟩
  refine .cons ⟨rfl, dp_up e _ _ h2⟩ (.cons ⟨rfl, Dp.int _⟩ (.cons ⟨rfl, Dp.lst (.inl (by rw [plus_in (by simp)]; exact h3)) (dpAll_up e _ _ h4)⟩ (.cons ⟨rfl, Dp.int _⟩ (.cons ⟨rfl, Dp.int _⟩ (.cons ⟨rfl, ?_⟩ .nil)))))
  exact ⟨sd, svs, rfl, .inl (by rw [plus_in (by simp)]; exact h5), L2.Paired.mapP h6 fun _ _ z => ⟨z.1, dp_up e _ _ z.2⟩⟩
theorem CopyAt.own {r : Rho} {i : Nat} (A : CopyAt K C G H p l sd b) (hi : r[i]? = some (some (.v (.ref p)))) : Own K [p, l, sd] r (r.set i (some (.ob p C b.fs))) G H := by
  have hO := A.ob
  obtain ⟨gp, gl, gs, dx, wv, fvs, svs, h1, h2, h3, h4, h5, h6⟩ := A
  have no : ∀ a, a ∈ [p, l, sd] → G a = none := fun a ha => by
    simp only [List.mem_cons, List.not_mem_nil, or_false] at ha
    rcases ha with rfl | rfl | rfl
    · exact gp
    · exact gl
    · exact gs
  refine ⟨no, fun a ha => ?_, fun σ n => (n.up (plus_g no)).re hi hO⟩
  simp only [List.mem_cons, List.not_mem_nil, or_false] at ha
  rcases ha with rfl | rfl | rfl
  · exact ⟨_, h1, (fun _ z => nomatch z), (fun _ _ z => nomatch z)⟩
  · exact ⟨_, h3, (fun _ z => nomatch z), (fun _ _ z => nomatch z)⟩
  · exact ⟨_, h5, (fun _ z => nomatch z), (fun _ _ z => nomatch z)⟩
end
theorem Own.refl {K : PySem.W.Frag} {r : Rho} {G H : Hp} : Own K [] r r G H := ⟨fun _ h => absurd h (by simp), fun _ h => absurd h (by simp), fun σ n => by
  have : plus G H [] = G := by funext a; exact plus_out (by simp)
  rw [this]; exact n⟩
/-- the promise of a method that changes the book: R of the book, the arguments, the book then, the answer; or, B, an error, and the book as it was -/
def spM (K : PySem.W.Frag) (C : Addr) (R : Bk → List PyData → Bk → PyData → Prop) (B : Bk → List PyData → Addr → Prop) : Sp := fun vs H Q E => ∃ (p l sd : Addr) (b : Bk) (us : List V) (ds : List PyData) (G : Hp), vs = .ref p :: us ∧ Ex G H ∧ CopyAt K C G H p l sd b ∧ DpAll K G us ds ∧
  ((∃ b' d, R b ds b' d ∧ ∀ v G' H' sd', Gx [p, l, sd] G H G' H' → (sd' = sd ∨ H sd' = none) → CopyAt K C G' H' p l sd' b' → Dp K G' v d → Q v H') ∨ (∃ A, B b ds A ∧ ∀ G' H', Gr G H G' H' → E (.ref A) none H'))
end Fb

/-! FbH: loops that change what is owned; methods' promises; fields of the book; sorted of one; data that may be compared. -/
namespace Fb
open PySem PySem.Spec PyProof.Rows L2 Evl
section
variable {X : Cx} {a b c e o : Expr} {es : List Expr} {sts ss rest : List Stmt} {r r' : Rho} {d d1 d2 d3 : Dn} {pos p p1 p2 p3 p4 apos : Pos} {D : Ends} {G0 H0 G H : Hp} {W : WX} {Q : V → Hp → Hp → Prop}
/-- o.f = e, the object known -/
theorem gx_put {q C dx : Addr} {f : Str} {fs : List (Str × V)} {p' : Pos} (hc : Cls X.K C) (hn : NoAttr X.K C f) (ho : Pv X o r (.v (.ref q))) (he : Pv X e r d) (gq : G0 q = none) (hq : H0 q = some (.ins C dx fs)) (hl : fs.length < 1000)
    (k : ∀ v G1 H1, Gx [q] G0 H0 G1 H1 → G1 q = none → H1 q = some (.ins C dx (putF f v fs)) → Den X.K G1 v d → Go X rest D G1 H1 r) (hs : swapsWith e (some (.Attribute o f p')) pos.line X.env = pure false := by rfl) : Go X (.Assign [.Attribute o f p'] e pos :: rest) D G0 H0 r :=
  gx_fld hc hn ho (fun G H g => fx_pv g.s he fun v G1 H1 g1 q1 => by
    have kk := g.trans g1
    have g1q := kk.out gq (some_nt hq)
    exact ⟨dx, fs, kk.h _ _ hq, hl, g1q, k v G1 _ (kk.x.trans (Gx.set g1.s (by simp) g1q)) g1q upd_same q1⟩) hs
theorem gx_putL {q C dx : Addr} {f : Str} {fs : List (Str × V)} {p' : Pos} (hc : Cls X.K C) (hn : NoAttr X.K C f) (ho : Pv X o r (.v (.ref q))) (gq : G0 q = none) (hq : H0 q = some (.ins C dx fs)) (hl : fs.length < 1000)
    (k : ∀ l G1 H1, H0 l = none → Gx [q] G0 H0 G1 H1 → G1 q = none → G1 l = none → H1 q = some (.ins C dx (putF f (.ref l) fs)) → H1 l = some (.lst []) → Go X rest D G1 H1 r) (hs : swapsWith (.List [] p) (some (.Attribute o f p')) pos.line X.env = pure false := by rfl) : Go X (.Assign [.Attribute o f p'] (.List [] p) pos :: rest) D G0 H0 r :=
  gx_fld hc hn ho (fun G H g => fx_newL g.s fun l hn => by
    have hq' := g.h _ _ hq
    have ne : q ≠ l := fun z => by rw [z, hn] at hq'; cases hq'
    have gq' := g.out gq (some_nt hq)
    refine ⟨dx, fs, by rw [upd_ne ne]; exact hq', hl, gq', k l G _ (fresh_back g.h hn) ((g.x.trans (Gx.lay g.s hn)).trans (Gx.set (g.s.trans (Ex.new hn)) (by simp) gq')) gq' (fresh_back g.s hn) upd_same ?_⟩
    rw [upd_ne ne.symm, upd_same]) hs
theorem gx_putD {q C dx : Addr} {f : Str} {fs : List (Str × V)} {p' : Pos} (hc : Cls X.K C) (hn : NoAttr X.K C f) (ho : Pv X o r (.v (.ref q))) (gq : G0 q = none) (hq : H0 q = some (.ins C dx fs)) (hl : fs.length < 1000)
    (k : ∀ l G1 H1, H0 l = none → Gx [q] G0 H0 G1 H1 → G1 q = none → G1 l = none → H1 q = some (.ins C dx (putF f (.ref l) fs)) → H1 l = some (.dT []) → Go X rest D G1 H1 r) (hs : swapsWith (.Dict [] [] p) (some (.Attribute o f p')) pos.line X.env = pure false := by rfl) : Go X (.Assign [.Attribute o f p'] (.Dict [] [] p) pos :: rest) D G0 H0 r :=
  gx_fld hc hn ho (fun G H g => fx_newD g.s fun l hn => by
    have hq' := g.h _ _ hq
    have ne : q ≠ l := fun z => by rw [z, hn] at hq'; cases hq'
    have gq' := g.out gq (some_nt hq)
    refine ⟨dx, fs, by rw [upd_ne ne]; exact hq', hl, gq', k l G _ (fresh_back g.h hn) ((g.x.trans (Gx.lay g.s hn)).trans (Gx.set (g.s.trans (Ex.new hn)) (by simp) gq')) gq' (fresh_back g.s hn) upd_same ?_⟩
    rw [upd_ne ne.symm, upd_same]) hs
/-- behind a turn -/
def Lp (K : PySem.W.Frag) (I : Nat → Rho → Hp → Hp → Prop) (i : Nat) (G1 : Hp) : L2.St → Hp → Prop := fun σ H => ∃ r3 G5, I i r3 G5 H ∧ Ex G1 G5 ∧ Ex G5 H ∧ En K G5 σ r3
/-- for tg in iter, whose turns change what is owned -/
theorem gx_for {al : Type} {tg iter : Expr} {xs : List al} {enc : al → Dn} (I : Nat → Rho → Hp → Hp → Prop) (hp : PassesOwn (model X.prog X.w) X.A X.env X.xe) (hc : X.calm = true) (hw : Wk X tg iter r (xs.map enc)) (hm : ∀ i r G H G2 H2, I i r G H → Gr G H G2 H2 → I i r G2 H2) (h0 : ∀ G H, Gr G0 H0 G H → I 0 r G H)
    (hs : ∀ i x r1 G1 H1, xs[i]? = some x → Ex G1 H1 → I i r1 G1 H1 → ∃ r2 js, Pg X tg r1 (enc x) r2 js ∧ Go X ss { D with nx := Lp X.K I (i + 1) G1, ct := Lp X.K I (i + 1) G1, bk := wSs X rest D } G1 H1 r2)
    (hd : ∀ r1 G1 H1, I xs.length r1 G1 H1 → Ex G1 H1 → Go X rest D G1 H1 r1) (hfs : ∀ v, foldedSetIterable iter X.env v = pure v := by intro _; rfl) : Go X (.For tg iter ss [] pos :: rest) D G0 H0 r := by
  obtain ⟨wi, hi, hwi⟩ := hw
  intro σ G H g n
  refine wSs_of (pss_cons (ps_for hp hc hi pg_w pss_w hfs) pss_w) ?_
  refine hwi σ G H g.s n _ fun J G1 H1 k1 hgo hyl hst => ?_
  rw [List.length_map] at hgo hst
  refine ⟨fun i m σ' H' => m = xs.length - i ∧ i ≤ xs.length ∧ ∃ r1 G', I i r1 G' H' ∧ Ex G1 G' ∧ Ex G' H' ∧ En X.K G' σ' r1, ⟨xs.length, by simp, Nat.zero_le _, r, G1, h0 _ _ (g.trans k1), Ex.refl _, k1.s, n.up k1.g⟩, ?_⟩
  rintro i m σ' H' ⟨rfl, hi2, r1, G', hP, e', s', n'⟩
  by_cases hlt : i < xs.length
  · obtain ⟨x, hx⟩ : ∃ x, xs[i]? = some x := ⟨xs[i], List.getElem?_eq_getElem hlt⟩
    refine .inr ⟨hgo i H' (e'.trans s') hlt, fun σ3 H3 => ∃ r3 G3, I (i + 1) r3 G3 H3 ∧ Ex G1 G3 ∧ Ex G3 H3 ∧ En X.K G3 σ3 r3, fun σ3 H3 ⟨r3, G3, q1, q2, q3, q4⟩ => ⟨xs.length - (i + 1), by omega, rfl, hlt, r3, G3, q1, q2, q3, q4⟩, fun v H3 yl => ?_⟩
    obtain ⟨G3, k3, q3⟩ := hyl i G' H' v H3 e' s' yl (enc x) (by rw [List.getElem?_map, hx]; rfl)
    obtain ⟨r2, js, hg, hb⟩ := hs i x r1 G3 H3 hx k3.s (hm _ _ _ _ _ _ hP k3)
    refine wG_imp (hg σ' G3 H3 v k3.s (n'.up k3.g) q3) fun σ2 H4 ⟨e4, n4, _⟩ => ?_
    subst e4
    have fin : ∀ σ5 H5, Lp X.K I (i + 1) G3 σ5 H5 → ∃ r3 G5, I (i + 1) r3 G5 H5 ∧ Ex G1 G5 ∧ Ex G5 H5 ∧ En X.K G5 σ5 r3 := fun σ5 H5 ⟨r5, G5, q1, q2, q5, q6⟩ => ⟨r5, G5, q1, (e'.trans k3.g).trans q2, q5, q6⟩
    exact wSs_imp (hb σ2 G3 H4 (Gr.refl k3.s) n4) fin (fun _ _ z => z) (fun _ _ z => z) fin
  · have hi3 : i = xs.length := by omega
    subst hi3
    exact .inl ⟨hst _ H' (e'.trans s') (Nat.le_refl _), hd r1 G' H' hP s' σ' G' H' (Gr.refl s') n'⟩
theorem perm_one {α : Type} {xs ys : List α} (h : xs.length ≤ 1) (hp : ys.Perm xs) : ys = xs := by
  cases xs with
  | nil => exact List.perm_nil.mp hp
  | cons x t =>
    cases t with
    | nil => exact List.perm_singleton.mp hp
    | cons y t => simp at h
/-- sorted(xs) of at most one thing -/
theorem cr_sorted1 : CallR X (.builtin "sorted") (fun vs H Q => ∃ a xs, vs = [V.ref a] ∧ SqL X.K H a xs ∧ xs.length ≤ 1 ∧ ∀ p, H p = none → Q (.ref p) (upd H p (.lst xs))) := by
  intro pins s σ H vs us Q I r h
  obtain ⟨a, xs, rfl, hs, hx, q⟩ := h
  obtain ⟨its, rv, hl, hz⟩ := I.list hs
  obtain ⟨u, rfl, ru⟩ := vals1 r
  obtain rfl : u = Value.ref a := ru
  have hlen : its.length ≤ 1 := by rw [← rv.length]; exact hx
  refine Srt.sorted_any hl.isList (by rw [← rv.length]; exact hz) (fun h2 => absurd h2 (by omega)) fun out hp => ?_
  have ho : out = its := perm_one hlen hp
  subst ho
  obtain ⟨n, hn⟩ := PyProof.Rows.sortedAll_at s.heap out out.toArray
  exact ⟨.ref (s.heap.objs.size + 1), upd H (s.heap.objs.size + 1) (.lst xs), I.laid (t' := s.toks) (fun b o e => PyProof.Rows.sortedAll_old e) (Nat.le_succ _) ⟨hz, out, n, rv, hn⟩, rfl, q _ (I.hok.fresh (Nat.le_succ _))⟩
theorem pv_sorted1 {xs : List PyData} (hm : X.mg "sorted" = none) (ha : Pv X a r (.d (.list xs))) (h1 : xs.length ≤ 1) (hg : Gl X "sorted" := by rfl) (he : starEach [a] X.env = (false, eval a X.env) :: starEach [] X.env := by rfl) (hpl : (backTo pos (starEach [] X.env)).any (·.1) = false := by rfl) :
    Pv X (.Call (.Name "sorted" p) [a] [] pos) r (.d (.list xs)) :=
  pv_callB cr_sorted1 hg hm PyProof.Rows.boot_sorted (pa_cons ha pa_nil he) (fun vs G H Q g hd k => by
    obtain ⟨v, rfl, hv⟩ := dens1 hd
    cases hv with
    | lst q1 q2 => exact ⟨_, _, rfl, .inl (ex_rd g q1), by rw [DpAll.len q2]; exact h1, fun l hl => k _ _ _ (Gr.new g hl) (Dp.lst (.inl upd_same) (dpAll_up (Ex.new (fresh_back g hl)) _ _ q2))⟩) (he := he) (hpl := hpl)
end
/-- a method that changes the book -/
theorem okM {P : Program} {w : World} {K : PySem.W.Frag} {mg : Str → Option Value} {base : Heap} {C : Addr} {x qual : Str} {st : Stmt} {f : Addr} {fd : FuncData} {N ps : List Str} {k : Nat} {R : Bk → List PyData → Bk → PyData → Prop} {B : Bk → List PyData → Addr → Prop} (F : Fun K x qual st f fd) (S : FnScope N ps (defScope st))
    (hR : ∀ b ds b' d, R b ds b' d → ds.length + 1 = ps.length) (hB : ∀ b ds A, B b ds A → ds.length + 1 = ps.length)
    (body : ∀ (cdv : Value) (A : Around) (outer : List Env) (s : Shared) (H : Hp) (Q : VK) (E : XK) (p l sd : Addr) (b : Bk) (ds : List PyData) (b' : Bk) (d : PyData) (G : Hp), Room k (A.deeper (envOfC qual (defScope st) s.heap.objs.size f cdv)) → Ex G H → CopyAt K C G H p l sd b → R b ds b' d →
      (∀ v G' H' sd', Gx [p, l, sd] G H G' H' → (sd' = sd ∨ H sd' = none) → CopyAt K C G' H' p l sd' b' → Dp K G' v d → Q v H') →
      Go (cxOf (L2.CX P w) P w K mg base N qual (defScope st) f cdv A outer s H E) (defBody st) { nx := fun _ H' => Q .non H', rt := Q } G H (some (.v (.ref p)) :: (ds.map fun y => some (.d y)) ++ List.replicate (N.length - (ds.length + 1)) none))
    (bad : ∀ (cdv : Value) (A : Around) (outer : List Env) (s : Shared) (H : Hp) (Q : VK) (E : XK) (p l sd : Addr) (b : Bk) (ds : List PyData) (Z : Addr) (G : Hp), Room k (A.deeper (envOfC qual (defScope st) s.heap.objs.size f cdv)) → Ex G H → CopyAt K C G H p l sd b → B b ds Z →
      (∀ G' H', Gr G H G' H' → E (.ref Z) none H') →
      Go (cxOf (L2.CX P w) P w K mg base N qual (defScope st) f cdv A outer s H E) (defBody st) { nx := fun _ H' => Q .non H', rt := Q } G H (some (.v (.ref p)) :: (ds.map fun y => some (.d y)) ++ List.replicate (N.length - (ds.length + 1)) none)) : FnOk P w K mg base (L2.CX P w) (k + 1) f fd ps (spM K C R B) := by
  refine F.okX S ?_ (fun cdv A outer s H vs Q E hr h => ⟨_, pss_w, ?_⟩)
  · rintro vs H Q E ⟨p, l, sd, b, us, ds, G, rfl, _, _, hd, ⟨b', d, hr, _⟩ | ⟨Z, hb, _⟩⟩
    · rw [List.length_cons, DpAll.len hd]; exact hR _ _ _ _ hr
    · rw [List.length_cons, DpAll.len hd]; exact hB _ _ _ hb
  · obtain ⟨p, l, sd, b, us, ds, G, rfl, g, A1, hd, h⟩ := h
    have hD : Dens K G (.ref p :: us) (.v (.ref p) :: ds.map Dn.d) := .cons (show Den K G (.ref p) (.v (.ref p)) from rfl) (Dens.of hd)
    have e : ((Dn.v (.ref p) :: ds.map Dn.d).map some ++ List.replicate (N.length - (V.ref p :: us).length) none : Rho) = some (.v (.ref p)) :: (ds.map fun y => some (.d y)) ++ List.replicate (N.length - (ds.length + 1)) none := by
      rw [List.length_cons, DpAll.len hd, List.map_cons, List.map_map]
      rfl
    refine go_in g hD ?_
    rw [e]
    rcases h with ⟨b', d, hr', k'⟩ | ⟨Z, hb, k'⟩
    · exact body cdv A outer s H Q E p l sd b ds b' d G hr g A1 hr' k'
    · exact bad cdv A outer s H Q E p l sd b ds Z G hr g A1 hb k'

/-! ### the book's fields -/
theorem lk_hit {α : Type} {k : Str} {v : α} {r : List (Str × α)} : List.lookup k ((k, v) :: r) = some v := by simp [List.lookup]
theorem lk_miss {α : Type} {k g : Str} {v : α} {r : List (Str × α)} (h : (k == g) = false) : List.lookup k ((g, v) :: r) = List.lookup k r := by simp only [List.lookup, h]
theorem lk_none {α : Type} {m : Str} : ∀ {l : List (Str × α)}, ((l.map (·.1)).all fun g => !(m == g)) = true → l.lookup m = none
  | [], _ => rfl
  | (g, v) :: l, h => by
    rw [List.map_cons, List.all_cons, Bool.and_eq_true] at h
    rw [lk_miss (by simpa using h.1)]
    exact lk_none h.2
theorem pf_hit {f : Str} {v x : V} {r : List (Str × V)} : putF f v ((f, x) :: r) = (f, v) :: r := if_pos rfl
theorem pf_past {f g : Str} {v x : V} {r : List (Str × V)} (h : ¬ g = f) : putF f v ((g, x) :: r) = (g, x) :: putF f v r := if_neg h
section
variable (b : Bk) (wv : V) (l sd : Addr)
theorem fs_world : b.fs.lookup ("world" : Str) = some (.d b.wd) := lk_hit
theorem fs_mine : b.fs.lookup ("mine" : Str) = some (.d (.int b.mine)) := (lk_miss (by decide +kernel)).trans lk_hit
theorem fs_facts : b.fs.lookup ("facts" : Str) = some (.d (.list b.facts)) := (lk_miss (by decide +kernel)).trans ((lk_miss (by decide +kernel)).trans lk_hit)
theorem fs_clock : b.fs.lookup ("clock" : Str) = some (.d (.int b.clock)) := (lk_miss (by decide +kernel)).trans ((lk_miss (by decide +kernel)).trans ((lk_miss (by decide +kernel)).trans lk_hit))
theorem fs_own : b.fs.lookup ("own" : Str) = some (.d (.int b.own)) := (lk_miss (by decide +kernel)).trans ((lk_miss (by decide +kernel)).trans ((lk_miss (by decide +kernel)).trans ((lk_miss (by decide +kernel)).trans lk_hit)))
theorem fs_seen : b.fs.lookup ("seen" : Str) = some (.t b.seen) := (lk_miss (by decide +kernel)).trans ((lk_miss (by decide +kernel)).trans ((lk_miss (by decide +kernel)).trans ((lk_miss (by decide +kernel)).trans ((lk_miss (by decide +kernel)).trans lk_hit))))
theorem bf_facts : (bkF b wv l sd).lookup ("facts" : Str) = some (.ref l) := (lk_miss (by decide +kernel)).trans ((lk_miss (by decide +kernel)).trans lk_hit)
theorem bf_clock : (bkF b wv l sd).lookup ("clock" : Str) = some (.int b.clock) := (lk_miss (by decide +kernel)).trans ((lk_miss (by decide +kernel)).trans ((lk_miss (by decide +kernel)).trans lk_hit))
theorem bf_own : (bkF b wv l sd).lookup ("own" : Str) = some (.int b.own) := (lk_miss (by decide +kernel)).trans ((lk_miss (by decide +kernel)).trans ((lk_miss (by decide +kernel)).trans ((lk_miss (by decide +kernel)).trans lk_hit)))
theorem bf_setC (i : Int) : putF "clock" (.int i) (bkF b wv l sd) = bkF { b with clock := i } wv l sd := (pf_past (by decide +kernel)).trans (congrArg _ ((pf_past (by decide +kernel)).trans (congrArg _ ((pf_past (by decide +kernel)).trans (congrArg _ pf_hit)))))
theorem bf_setO (i : Int) : putF "own" (.int i) (bkF b wv l sd) = bkF { b with own := i } wv l sd := (pf_past (by decide +kernel)).trans (congrArg _ ((pf_past (by decide +kernel)).trans (congrArg _ ((pf_past (by decide +kernel)).trans (congrArg _ ((pf_past (by decide +kernel)).trans (congrArg _ pf_hit)))))))
theorem bf_setS (z : Addr) : putF "seen" (.ref z) (bkF b wv l sd) = bkF b wv l z := (pf_past (by decide +kernel)).trans (congrArg _ ((pf_past (by decide +kernel)).trans (congrArg _ ((pf_past (by decide +kernel)).trans (congrArg _ ((pf_past (by decide +kernel)).trans (congrArg _ ((pf_past (by decide +kernel)).trans (congrArg _ pf_hit)))))))))
/-- no field has the name of a method -/
def fieldNames : List Str := ["world", "mine", "facts", "clock", "own", "seen"]
theorem fs_no {m : Str} (h : (fieldNames.all fun g => !(m == g)) = true) : b.fs.lookup m = none := lk_none h
theorem bf_no {m : Str} (h : (fieldNames.all fun g => !(m == g)) = true) : (bkF b wv l sd).lookup m = none := lk_none h
end
/-- made: the six fields, in turn -/
theorem bf_made (b : Bk) (wv : V) (l sd : Addr) : putF "seen" (.ref sd) (putF "own" (.int b.own) (putF "clock" (.int b.clock) (putF "facts" (.ref l) (putF "mine" (.int b.mine) (putF "world" wv []))))) = bkF b wv l sd := by
  rw [show putF "world" wv [] = [(("world" : Str), wv)] from rfl, show putF "mine" (.int b.mine) [(("world" : Str), wv)] = [(("world" : Str), wv), ("mine", .int b.mine)] from pf_past (by decide +kernel)]
  rw [show putF "facts" (.ref l) [(("world" : Str), wv), ("mine", .int b.mine)] = [(("world" : Str), wv), ("mine", .int b.mine), ("facts", .ref l)] from (pf_past (by decide +kernel)).trans (congrArg _ (pf_past (by decide +kernel)))]
  rw [show putF "clock" (.int b.clock) [(("world" : Str), wv), ("mine", .int b.mine), ("facts", .ref l)] = [(("world" : Str), wv), ("mine", .int b.mine), ("facts", .ref l), ("clock", .int b.clock)] from (pf_past (by decide +kernel)).trans (congrArg _ ((pf_past (by decide +kernel)).trans (congrArg _ (pf_past (by decide +kernel)))))]
  rw [show putF "own" (.int b.own) [(("world" : Str), wv), ("mine", .int b.mine), ("facts", .ref l), ("clock", .int b.clock)] = [(("world" : Str), wv), ("mine", .int b.mine), ("facts", .ref l), ("clock", .int b.clock), ("own", .int b.own)] from (pf_past (by decide +kernel)).trans (congrArg _ ((pf_past (by decide +kernel)).trans (congrArg _ ((pf_past (by decide +kernel)).trans (congrArg _ (pf_past (by decide +kernel)))))))]
  exact (pf_past (by decide +kernel)).trans (congrArg _ ((pf_past (by decide +kernel)).trans (congrArg _ ((pf_past (by decide +kernel)).trans (congrArg _ ((pf_past (by decide +kernel)).trans (congrArg _ (pf_past (by decide +kernel)))))))))

/-! ### data that may be compared, and is never changed -/
structure Good (y : PyData) : Prop where
  im : imm y = true
  lay : y.canLay0 = true
  dp : y.depth ≤ 8
theorem Good.shaped {y : PyData} (h : Good y) : SeqAt.shaped y = true := by
  unfold SeqAt.shaped
  rw [h.lay, Bool.true_and]
  exact decide_eq_true (Nat.le_trans h.dp (by decide))
theorem good_all : ∀ {xs : List PyData}, (∀ x, x ∈ xs → Good x) → PyData.canLayAll0 xs = true ∧ PyData.depthAll xs ≤ 8 ∧ immAll xs = true
  | [], _ => ⟨rfl, by simp [PyData.depthAll], rfl⟩
  | x :: xs, h => by
    obtain ⟨h1, h2, h3⟩ := good_all fun y hy => h y (List.mem_cons_of_mem _ hy)
    have hx := h x List.mem_cons_self
    refine ⟨?_, ?_, ?_⟩
    · simp only [PyData.canLayAll0, hx.lay, h1, Bool.and_self]
    · simp only [PyData.depthAll]; exact Nat.max_le.mpr ⟨hx.dp, h2⟩
    · rw [immAll, hx.im, h3]; rfl
theorem good_list {xs : List PyData} (h : ∀ x, x ∈ xs → Good x) : SeqAt.shaped (.list xs) = true := by
  obtain ⟨h1, h2, _⟩ := good_all h
  unfold SeqAt.shaped
  simp only [PyData.canLay0, PyData.depth, h1, Bool.true_and]
  exact decide_eq_true (by omega)
theorem good_tup {xs : List PyData} (h : ∀ x, x ∈ xs → Good x) (hd : PyData.depthAll xs ≤ 7) : Good (.tuple xs) := by
  obtain ⟨h1, h2, h3⟩ := good_all h
  refine ⟨by simpa [imm] using h3, by simpa only [PyData.canLay0] using h1, ?_⟩
  simp only [PyData.depth]
  omega
theorem shaped_tup {xs : List PyData} (h : ∀ x, x ∈ xs → Good x) : SeqAt.shaped (.tuple xs) = true := by
  obtain ⟨h1, h2, _⟩ := good_all h
  unfold SeqAt.shaped
  simp only [PyData.canLay0, PyData.depth, h1, Bool.true_and]
  exact decide_eq_true (by omega)
end Fb

/-! FbI: for i, x in enumerate(t), t a tuple; a sign of a text by its place. -/
namespace Fb
open PySem PySem.Spec PyProof.Rows L2 Evl
theorem enumT_new {v : Value} {o : Obj} {H : Heap → Prop} (B : Begins v o H) :
    Meets (Builtin.«enumerate.__new__» ⟨[.type "enumerate", v], []⟩) (fun _ R s => H s.heap ∧ R (.ok (.ret (.ref (s.heap.push o).objs.size))) { s with heap := (s.heap.push o).push { cls := .type "enumerate", data := .fields #[.none, .bool false, .ref s.heap.objs.size, rawInt 0, .none, .none] } }) :=
  .of_wp fun prog w A R s h => by
    obtain ⟨hp, g, d, tk, os⟩ := s
    obtain ⟨h1, h⟩ := h
    have hsub := sub_enumerate
    have q1 : ∀ {A' : Around} {E : Value → Shared → Prop} {Q : Value → Shared → Prop}, Q (.ref hp.objs.size) ⟨hp.push o, g, d, tk, os⟩ → wpAny (model prog w) A' (pyIter v) Q E ⟨hp, g, d, tk, os⟩ := fun q => B.iter prog w _ _ ⟨hp, g, d, tk, os⟩ _ h1 q
    wp_walk using q1
    refine wpAny_stack_any fun st => wpAny_pure ?_
    split
    · rename_i c _ _ _ _ _
      cases (c == Value.type "enumerate") <;> (wp_walk using q1; exact ⟨_, rfl, h⟩)
    · wp_walk using q1
      exact ⟨_, rfl, h⟩
theorem enumT_call {prog : Program} {w : World} {A : Around} {E : Value → Shared → Prop} {s : Shared} {v : Value} {o : Obj} {H : Heap → Prop} {Q : Value → Shared → Prop} (B : Begins v o H) (h1 : H s.heap)
    (h : ∀ h', IsEnum h' (s.heap.objs.size + 1) s.heap.objs.size 0 .none → h'.get? s.heap.objs.size = some o → (∀ b o, s.heap.get? b = some o → h'.get? b = some o) → Q (.ref (s.heap.objs.size + 1)) { s with heap := h' }) : wpAny (model prog w) A (call (.type "enumerate") [v]) Q E s := by
  refine callType_new F.called_enumerate (by decide) (F.typeCall_enumerate_1 _) (F.newCall_enumerate_1 _) (fun obj => F.args_object_init_2 obj _) F.entry_enumerate_new (enumT_new B) ⟨h1, ?_⟩
  have hz : (s.heap.push o).objs.size = s.heap.objs.size + 1 := Heap.size_push ..
  show _ ∧ _
  rw [hz]
  have he : IsEnum ((s.heap.push o).push { cls := .type "enumerate", data := .fields #[.none, .bool false, .ref s.heap.objs.size, rawInt 0, .none, .none] }) (s.heap.objs.size + 1) s.heap.objs.size 0 .none := by
    have := Heap.get?_push_size (s.heap.push o) (o := { cls := .type "enumerate", data := .fields #[.none, .bool false, .ref s.heap.objs.size, rawInt 0, .none, .none] }) rfl
    rw [hz] at this
    exact this
  exact ⟨⟨_, he, rfl⟩, h _ he (Heap.get?_push_of_some _ (Heap.get?_push_size _ B.free)) fun b o x => Heap.get?_push_of_some _ (Heap.get?_push_of_some _ x)⟩
def ItEt (K : PySem.W.Frag) (a : Addr) : It :=
  ⟨fun i H => ∃ (xs : List V) (x : V), SqT K H a xs ∧ xs[i]? = some x, fun i H v H' => ∃ T x, v = .ref T ∧ H T = none ∧ H' = upd H T (.tup [.int (i : Nat), x]) ∧ ∀ xs, SqT K H a xs → xs[i]? = some x, fun i H => ∃ xs : List V, SqT K H a xs ∧ xs.length ≤ i⟩
theorem turn_enumT {P : Program} {w : World} {K : PySem.W.Frag} {elts : List Expr} {kk : Nat} {tpos : Pos} (a e it : Addr) :
    Turn P w K (.Tuple elts kk tpos) (ItEt K a) [e, it] e (fun i h => (∃ old, IsEnum h e it ((i : Nat) : Int) old) ∧ h.IsTupleIter it a i ∧ e ≠ it) where
  mem := by simp
  obj := fun i h st b hb => by
    obtain ⟨⟨old, he⟩, ⟨o, ho, hc, hd⟩, _⟩ := st
    have e' : b = e ∨ b = it := by simpa using hb
    rcases e' with z | z
    · rw [z]; exact ⟨_, he, fun v q => nomatch q⟩
    · rw [z]; exact ⟨o, ho, fun v q => by rw [hd] at q; cases q⟩
  keep := fun i h h' st k => let ⟨⟨old, he⟩, hi, hne⟩ := st; ⟨⟨old, k e (by simp) _ he⟩, hi.at fun o q => k it (by simp) o q, hne⟩
  item := by
    intro X hP hw hK hc i pins s σ H E I hf st hg
    subst hP hw hK
    obtain ⟨⟨old, he⟩, hit, hne⟩ := st
    obtain ⟨xs, x, hq, hx⟩ := hg
    obtain ⟨its, rv, p, hz⟩ := I.tuple hq
    obtain ⟨u, hu, ru⟩ := rv.get hx
    have hel : e < s.heap.objs.size := Heap.lt_size he
    have hil : it < s.heap.objs.size := by obtain ⟨_, q, _⟩ := hit; exact Heap.lt_size q
    have nea : e ≠ a := fun z => by
      obtain ⟨o, ho, hoc, _⟩ := (show s.heap.IsTuple a its.toArray from p)
      rw [← z] at ho
      rw [show s.heap.get? e = _ from he] at ho
      cases ho
      exact absurd (Value.type.inj hoc) (by decide)
    have nia : a ≠ it := fun z => by
      obtain ⟨o, ho, hoc, _⟩ := (show s.heap.IsTuple a its.toArray from p)
      obtain ⟨o2, ho2, hoc2, _⟩ := hit
      rw [z, ho2] at ho
      cases ho
      rw [hoc2] at hoc
      exact absurd (Value.type.inj hoc) (by decide)
    have hd := I.ok.hd hc
    refine wpAny_pyNext_enum_itemD (Draws.tuple (A := X.A.in1) (by exact hd) it a nia its.toArray) he ⟨hit, p⟩ (by
      obtain ⟨h1, _⟩ := List.getElem?_eq_some_iff.mp hu
      simpa using h1) hne (by simp [hne, nea]) fun x1 h' tk hx1 ho hst hT hsz hk => ?_
    obtain rfl : x1 = u := by
      rw [show its.toArray[i]? = some u from by simpa using hu] at hx1
      exact (Option.some.inj hx1).symm
    obtain ⟨hit', _⟩ := hst
    refine ⟨_, rfl, wpAny_letOwnedTupleGo_enum (s := { s with heap := h', toks := tk + 1 }) ho fun h'' he' sb => ?_⟩
    have hT2 : h''.get? s.heap.objs.size = some { cls := .type "tuple", data := .seq #[.int i tk, x1] } := (sb.2 _ (Nat.ne_of_gt hel)).trans hT
    have new : ObjOk X.prog X.w (upd H s.heap.objs.size (.tup [.int (i : Nat), x])) h'' s.heap.objs.size (.tup [.int (i : Nat), x]) :=
      ⟨by show 2 ≤ sizeLine; decide, [.int i tk, x1], .cons ⟨_, rfl⟩ (.cons ru .nil), ⟨_, hT2, rfl, _, rfl⟩⟩
    have I1 : Inv X pins σ (upd H s.heap.objs.size (.tup [.int (i : Nat), x])) { s with heap := h'', toks := tk + 1 } :=
      I.turnedNew (ch := [e, it]) (fun b ob hb q => (sb.2 b (fun z => hb (by simp [z]))).trans (hk b ob (fun z => hb (by simp [z])) (fun z => hb (by simp [z])) q)) hf (Nat.le_refl _) new
    refine ⟨.ref s.heap.objs.size, _, I1, rfl, ⟨_, x, rfl, I.hok.fresh (Nat.le_refl _), rfl, fun ys hy => by rw [I.tuple_inj hy hq]; exact hx⟩, ⟨⟨x1, ?_⟩, hit'.at fun o q => (sb.2 it (Ne.symm hne)).trans q, hne⟩, fun b hb => ?_⟩
    · have e1 : ((i + 1 : Nat) : Int) = (i : Int) + 1 := by omega
      rw [e1]; exact he'
    · have hb' : b < s.heap.objs.size := by
        have e' : b = e ∨ b = it := by simpa using hb
        rcases e' with z | z
        · rw [z]; exact hel
        · rw [z]; exact hil
      rw [upd_ne (Nat.ne_of_lt hb')]
      exact (hf b hb).1
  done := by
    intro X hP hw hK hc i pins s σ H E I hf st hg
    subst hP hw hK
    obtain ⟨⟨old, he⟩, hit, hne⟩ := st
    obtain ⟨xs, hq, hx⟩ := hg
    obtain ⟨its, rv, p, hz⟩ := I.tuple hq
    obtain ⟨f0, f1, f2, f3, f4, f5⟩ := hf it (by simp)
    have hl := rv.length
    have hd := I.ok.hd hc
    have hT : s.TypeIs (.ref e) "enumerate" := ⟨_, he, rfl⟩
    unfold pyNext
    refine wpAny_bind (wpAny_attempt (wpAny_callSpecial?_slot (name := Str.ofString "__next__") hT F.slot_enumerate_next (wpAny_call_entry F.slot_enumerate_next hT F.entry_enumerate_next ?_ (F.args_enumerate_next_1 _))))
    show wpAny _ _ (field (.ref e) 2 >>= _) _ _ _
    refine wpAny_bind (wpAny_field he rfl (x := .ref it) rfl ?_)
    refine wpAny_bind (wpAny_nextOf_tuple_end (by exact hd) hit p (by simp; omega) fun h' x he' hx' => ?_)
    obtain ⟨o, ho, hc'⟩ := hx'
    refine wpAny_bind (wpAny_isInstance (T := "StopIteration") (b := true) ⟨o, ho, hc'⟩ isSubtype_stop ?_)
    exact wpAny_pure ⟨rfl, I.turned (t' := s.toks) (fun b o hb q => he' b o hb q) f0 f1 f3 f4 f5⟩
  self := fun A i s Q E st h => let ⟨⟨_, he⟩, _⟩ := st; wpAny_pyIter_enum he h
section
variable {X : Cx} {e : Expr} {r : Rho} {p pos tpos : Pos} {elts : List Expr} {kk : Nat}
theorem pi_enumT {ta : TA} (hg : Gl X "enumerate") (hm : X.mg "enumerate" = none) (ha : PA X [e] ta) (hs : starEach [e] X.env = [(false, eval e X.env)] := by rfl) :
    PI X (.Tuple elts kk tpos) (.Call (.Name "enumerate" p) [e] [] pos) (fun σ H R => ta σ H fun vs H1 => ∃ a xs, vs = [.ref a] ∧ SqT X.K H1 a xs ∧ R (ItEt X.K a) H1) := by
  refine ⟨fun pins s σ H R I h => ?_⟩
  refine Call_ (ld_blt I hg hm boot_enumerate (PyProof.Rows.callWith_type1 (thn (ha.run pos pins s σ H _ I h) fun us s1 ⟨vs, H1, I1, r1, q1⟩ => ?_) hs rfl))
  obtain ⟨a, xs, ex, hq, q⟩ := q1
  subst ex
  cases r1 with
  | cons r rr =>
    cases rr
    cases r
    obtain ⟨its, rv, p', hz⟩ := I1.tuple hq
    refine enumT_call (begins_tuple a its.toArray) p' fun h' he hit hk => wpAny_pyIter_enum he ?_
    have I2 : Inv X pins σ H1 { s1 with heap := h' } := I1.kept (t' := s1.toks) hk
    refine ⟨s1.heap.objs.size + 1, [s1.heap.objs.size + 1, s1.heap.objs.size], _, _, H1, rfl, I2, turn_enumT a (s1.heap.objs.size + 1) s1.heap.objs.size, ⟨⟨.none, he⟩, ⟨_, hit, rfl, rfl⟩, Nat.succ_ne_self _⟩, fun b hb => ?_, q⟩
    have e' : b = s1.heap.objs.size + 1 ∨ b = s1.heap.objs.size := by simpa using hb
    have hle : s1.heap.objs.size ≤ b := by
      rcases e' with z | z
      · rw [z]; exact Nat.le_add_right _ _
      · rw [z]; exact Nat.le_refl _
    exact I1.fpOk hle (I1.hok.fresh hle)
def enumD (ds : List PyData) : List PyData := (List.range ds.length).map fun i => .tuple [.int (i : Nat), ds.getD i .none]
theorem enumD_get {ds : List PyData} {i : Nat} {d : PyData} (h : (enumD ds)[i]? = some d) : ∃ x, ds[i]? = some x ∧ d = .tuple [.int (i : Nat), x] := by
  unfold enumD at h
  rw [List.getElem?_map] at h
  by_cases hi : i < ds.length
  · rw [List.getElem?_range hi] at h
    cases h
    refine ⟨ds[i], List.getElem?_eq_getElem hi, ?_⟩
    show PyData.tuple [.int (i : Nat), ds.getD i .none] = _
    rw [List.getD_eq_getElem?_getD, List.getElem?_eq_getElem hi]
    rfl
  · rw [List.getElem?_eq_none (by simpa using hi)] at h
    cases h
theorem enumD_len (ds : List PyData) : (enumD ds).length = ds.length := by unfold enumD; simp
/-- for i, x in enumerate(e), e a tuple -/
theorem wk_enumT {ds : List PyData} (hm : X.mg "enumerate" = none) (h : Pv X e r (.d (.tuple ds))) (hg : Gl X "enumerate" := by rfl) (hs : starEach [e] X.env = [(false, eval e X.env)] := by rfl) : Wk X (.Tuple elts kk tpos) (.Call (.Name "enumerate" p) [e] [] pos) r ((enumD ds).map Dn.d) := by
  refine ⟨_, pi_enumT hg hm pa_w hs, fun σ G H g n R k => wA_imp ((pa_cons h pa_nil hs : Pa X [e] r _) σ G H g n) fun vs H1 ⟨G1, k1, q1⟩ => ?_⟩
  obtain ⟨v, rfl, hv⟩ := dens1 q1
  cases hv with
  | @tup a xs _ h1 h2 =>
    have hl := DpAll.len h2
    have hlen : ((enumD ds).map Dn.d).length = xs.length := by rw [List.length_map, enumD_len, hl]
    refine ⟨a, xs, rfl, ex_t k1.s h1.sq, k _ G1 H1 k1 (fun i H2 e2 hi => ?_) (fun i G2 H2 x H3 e2 s2 y d hd => ?_) (fun i H2 e2 hi => ⟨xs, ex_t e2 h1.sq, by rw [hlen] at hi; exact hi⟩)⟩
    · rw [hlen] at hi
      exact ⟨xs, xs[i], ex_t e2 h1.sq, List.getElem?_eq_getElem hi⟩
    · obtain ⟨T, z, rfl, hT, rfl, y⟩ := y
      have hx := y xs (ex_t (e2.trans s2) h1.sq)
      rw [List.getElem?_map] at hd
      cases hq : (enumD ds)[i]? with
      | none => rw [hq] at hd; cases hd
      | some d0 =>
        rw [hq] at hd
        cases hd
        obtain ⟨x0, q3, rfl⟩ := enumD_get hq
        obtain ⟨v0, q4, q5⟩ := DpAll.get h2 q3
        rw [hx] at q4
        cases q4
        have kn := Gr.new (o := .tup [.int (i : Nat), z]) s2 hT
        exact ⟨_, kn, Dp.tup (.inl upd_same) (.cons (Dp.int _) (.cons (dp_up (e2.trans kn.g) _ _ q5) .nil))⟩
/-- a text's sign by its place -/
theorem pv_ixS {a b : Expr} {z : Str} {i : Int} {c : Nat} (ha : Pv X a r (.d (.str z))) (hb : Pv X b r (.d (.int i))) (hi : atI z.cps.toList i = some c) (hl : z.length ≤ 100000) (hs : PlainIx b := by exact fun _ _ => rfl) : Pv X (.Subscript a b pos) r (.d (.str ⟨#[c]⟩)) := fun σ G H g n =>
  wE_of (pe_ix ix_str pe_w pe_w hs) (wE_imp (ha σ G H g n) fun x H1 ⟨G1, k1, q1⟩ => wE_imp (hb σ G1 H1 k1.s (n.up k1.g)) fun u H2 ⟨G2, k2, q2⟩ =>
    ⟨z, i, c, den_str q1, den_int q2, sz_of hl, hi, G2, k1.trans k2, Dp.str _⟩)
end
end Fb

/-! FbN: what the laws draw of numbers: cells, seeds, worlds, wishes; plain functions. -/
namespace Fb
open PySem PySem.Spec PyProof.Rows L2 Evl
def cellZ (ns : List Int) (k : Nat) : Int := ns.getD k 0
def seedZ (s k : Int) : Int := ((s * 1103515245 + 7919 * k + 12345) % 2147483647) ^ 5 % 2147483647
def pickZ (s m : Int) : Int := s / 97 % m
theorem seedZ_lo (s k : Int) : 0 ≤ seedZ s k := Int.emod_nonneg _ (by decide)
theorem seedZ_hi (s k : Int) : seedZ s k < 2147483647 := Int.emod_lt_of_pos _ (by decide)
def keyAt (i : Int) : Str := keyNames.getD i.toNat "rank"
def addKey (some : List Str) (key : Str) : List Str := some ++ if some.contains key then [] else [key]
def keysOf (z : Int) (n : Nat) : List Str := (upto 0 n).foldl (fun some k => addKey some (keyAt (pickZ (seedZ z k) 4))) []
def worldC (z : Int) : Int := 1 + z / 5 % 5
def worldR (z : Int) : Int := 1 + z / 7 % 3
def worldK (z : Int) : List Str := keysOf z (z / 3 % 5).toNat
def worldOf (cell : Int) : PyData := wD (worldC (seedZ cell 9)) (worldR (seedZ cell 9)) (worldK (seedZ cell 9))
theorem upto_at {lo : Int} {n i : Nat} {x : Int} (h : (upto lo n)[i]? = some x) : x = lo + i ∧ i < n := by
  unfold upto at h
  rw [List.getElem?_map] at h
  by_cases hi : i < n
  · rw [List.getElem?_range hi] at h
    cases h
    exact ⟨rfl, hi⟩
  · rw [List.getElem?_eq_none (by simpa using hi)] at h
    cases h
theorem upto_succ (lo : Int) (n : Nat) : upto lo (n + 1) = upto lo n ++ [lo + n] := by
  unfold upto
  rw [List.range_succ, List.map_append]
  rfl
theorem keysOf_succ (z : Int) (n : Nat) : keysOf z (n + 1) = addKey (keysOf z n) (keyAt (pickZ (seedZ z n) 4)) := by
  unfold keysOf
  rw [upto_succ, List.foldl_append]
  show addKey _ (keyAt (pickZ (seedZ z (0 + n)) 4)) = _
  rw [Int.zero_add]
theorem keyAt_mem (i : Int) : keyAt i ∈ keyNames := by
  unfold keyAt
  rw [List.getD_eq_getElem?_getD]
  cases h : keyNames[i.toNat]? with
  | none => exact List.mem_cons_self
  | some k => exact List.mem_of_getElem? h
theorem keysOf_ok (z : Int) (n : Nat) : (∀ k ∈ keysOf z n, k ∈ keyNames) ∧ (keysOf z n).Nodup := by
  induction n with
  | zero => exact ⟨fun k hk => absurd hk (by simp [keysOf, upto]), by simp [keysOf, upto]⟩
  | succ n ih =>
    rw [keysOf_succ]
    unfold addKey
    split
    · rw [List.append_nil]; exact ih
    · rename_i hc
      refine ⟨fun k hk => ?_, ?_⟩
      · rcases List.mem_append.mp hk with h | h
        · exact ih.1 k h
        · simp at h; subst h; exact keyAt_mem _
      · rw [List.nodup_append]
        refine ⟨ih.2, by simp, fun a ha b hb => ?_⟩
        simp at hb
        subst hb
        intro e
        subst e
        exact hc (by simpa using ha)
/-! wishes -/
def smallAt (i : Int) : Nat := smallTxt.cps.toList.getD i.toNat 97
def nameOf (s : Int) : List Nat := (upto 0 (1 + s / 3 % 4).toNat).map fun k => smallAt (pickZ (seedZ s k) 26)
def sel2 (a b i : Int) : Int := if i = 0 then a else b
def sel3 (a b c i : Int) : Int := if i = 0 then a else if i = 1 then b else c
def minZ (i j : Int) : Int := if j < i then j else i
def longOf (s : Int) : Int := 1 + s / 5 % sel2 6 3 (s / 7 % 2)
def hourOf (s : Int) : Int := minZ (24 - longOf s) (sel3 (8 + s / 11 % 5) (s / 11 % 24) 24 (pickZ s 5 / 2))
def roomOf (r s : Int) : Int := s / 13 % sel2 r 1 (s / 17 % 2)
def rankOf (s : Int) : Int := s / 19 % sel2 10 3 (s / 23 % 2)
def wishOf (r s : Int) : PyData := .tuple [.str (SX.S (nameOf s)), .int (roomOf r s), .int (hourOf s), .int (longOf s), .int (rankOf s)]
theorem sel2_cases (a b i : Int) : sel2 a b i = a ∨ sel2 a b i = b := by unfold sel2; split <;> simp
theorem longOf_in (s : Int) : 1 ≤ longOf s ∧ longOf s ≤ 6 := by
  unfold longOf
  rcases sel2_cases 6 3 (s / 7 % 2) with h | h <;> rw [h] <;> omega
theorem smallAt_mem (i : Int) : smallAt i ∈ smallTxt.cps.toList := by
  unfold smallAt
  rw [List.getD_eq_getElem?_getD]
  cases h : smallTxt.cps.toList[i.toNat]? with
  | none => show (97 : Nat) ∈ smallTxt.cps.toList; decide +kernel
  | some k => exact List.mem_of_getElem? h
theorem wishOf_ok {r s : Int} (hr : 1 ≤ r) : isWish r (wishOf r s) = true := by
  have hl := longOf_in s
  have hn : isName (.str (SX.S (nameOf s))) = true := by
    have hlen : (SX.S (nameOf s)).length = (1 + s / 3 % 4).toNat := by rw [SX.S_len]; unfold nameOf; rw [List.length_map, upto_len]
    show ((decide (1 ≤ ((SX.S (nameOf s)).length : Int)) && decide (((SX.S (nameOf s)).length : Int) ≤ 4)) && ((SX.S (nameOf s)).cps.toList.all fun c => decide (c ∈ smallTxt.cps.toList))) = true
    rw [hlen, decide_eq_true (by omega), decide_eq_true (by omega), Bool.true_and, Bool.true_and, List.all_eq_true]
    intro c hc
    have hc' : c ∈ nameOf s := by simpa [SX.S] using hc
    unfold nameOf at hc'
    obtain ⟨k, _, rfl⟩ := List.mem_map.mp hc'
    exact decide_eq_true (smallAt_mem _)
  have hroom : 0 ≤ roomOf r s ∧ roomOf r s ≤ r - 1 := by
    unfold roomOf
    rcases sel2_cases r 1 (s / 17 % 2) with h | h <;> rw [h]
    · exact ⟨Int.emod_nonneg _ (by omega), by have := Int.emod_lt_of_pos (s / 13) (show 0 < r by omega); omega⟩
    · omega
  have hrank : 0 ≤ rankOf s ∧ rankOf s ≤ 9 := by
    unfold rankOf
    rcases sel2_cases 10 3 (s / 23 % 2) with h | h <;> rw [h] <;> omega
  have hhour : 0 ≤ hourOf s ∧ hourOf s ≤ 24 - longOf s := by
    have h3 : 0 ≤ sel3 (8 + s / 11 % 5) (s / 11 % 24) 24 (pickZ s 5 / 2) := by
      unfold sel3
      split
      · omega
      · split <;> omega
    unfold hourOf minZ
    split <;> omega
  show (isName _ && (decide (1 ≤ longOf s) && decide (longOf s ≤ 6)) && (isPlace r (longOf s) (.int (roomOf r s)) (.int (hourOf s)) && within (.int (rankOf s)) 0 9)) = true
  rw [hn]
  show (true && (decide (1 ≤ longOf s) && decide (longOf s ≤ 6)) && (((decide (0 ≤ roomOf r s) && decide (roomOf r s ≤ r - 1)) && (decide (0 ≤ hourOf s) && decide (hourOf s ≤ 24 - longOf s))) && (decide (0 ≤ rankOf s) && decide (rankOf s ≤ 9)))) = true
  simp only [decide_eq_true hl.1, decide_eq_true hl.2, decide_eq_true hroom.1, decide_eq_true hroom.2, decide_eq_true hhour.1, decide_eq_true hhour.2, decide_eq_true hrank.1, decide_eq_true hrank.2, Bool.and_self]
theorem wD_ok {c r : Int} {ks : List Str} (hc : 1 ≤ c ∧ c ≤ 5) (hr : 1 ≤ r ∧ r ≤ 3) (hk : ∀ k ∈ ks, k ∈ keyNames) (hn : ks.Nodup) : isWorld (wD c r ks) = true := by
  show ((decide (1 ≤ c) && decide (c ≤ 5)) && (decide (1 ≤ r) && decide (r ≤ 3)) && keysOk (ks.map PyData.str)) = true
  unfold keysOk
  rw [strsOf_map]
  simp only [decide_eq_true hc.1, decide_eq_true hc.2, decide_eq_true hr.1, decide_eq_true hr.2, Bool.and_self, Bool.true_and, Bool.and_eq_true, List.all_eq_true]
  exact ⟨fun k h => by simpa using hk k h, decide_eq_true ((dcn_nodup ks).mpr hn)⟩
theorem worldOf_ok (cell : Int) : isWorld (worldOf cell) = true :=
  wD_ok (by unfold worldC; omega) (by unfold worldR; omega) (keysOf_ok _ _).1 (keysOf_ok _ _).2
/-! indices -/
theorem ix_of {xs : List PyData} {i : Int} {z : PyData} (h0 : 0 ≤ i) (h : xs[i.toNat]? = some z) : ixD (.list xs) i = some z := by
  show atI xs i = some z
  have := atI_nat h
  rwa [Int.toNat_of_nonneg h0] at this
theorem ixT_of {xs : List PyData} {i : Int} {z : PyData} (h0 : 0 ≤ i) (h : xs[i.toNat]? = some z) : ixD (.tuple xs) i = some z := by
  show atI xs i = some z
  have := atI_nat h
  rwa [Int.toNat_of_nonneg h0] at this
theorem ix2 {a b i : Int} (h0 : 0 ≤ i) (h1 : i < 2) : ixD (.list [.int a, .int b]) i = some (.int (sel2 a b i)) := by
  have : i = 0 ∨ i = 1 := by omega
  rcases this with rfl | rfl <;> rfl
theorem ix3 {a b c i : Int} (h0 : 0 ≤ i) (h1 : i < 3) : ixD (.list [.int a, .int b, .int c]) i = some (.int (sel3 a b c i)) := by
  have : i = 0 ∨ i = 1 ∨ i = 2 := by omega
  rcases this with rfl | rfl | rfl <;> rfl
theorem ix_key {i : Int} (h0 : 0 ≤ i) (h1 : i < 4) : ixD (.list (keyNames.map PyData.str)) i = some (.str (keyAt i)) := by
  have : i = 0 ∨ i = 1 ∨ i = 2 ∨ i = 3 := by omega
  rcases this with rfl | rfl | rfl | rfl <;> rfl
theorem any_str (x : Str) : ∀ xs : List Str, ((xs.map PyData.str).any fun z => PyData.eqv z (.str x)) = xs.contains x
  | [] => rfl
  | y :: ys => by
    rw [List.map_cons, List.any_cons, any_str x ys, List.contains_cons]
    congr 1
    show (y == x) = (x == y)
    rw [Bool.eq_iff_iff, beq_iff_eq, beq_iff_eq]
    exact eq_comm
theorem join_nil : ∀ cs : List Nat, TL.joinL [] (cs.map fun c => [c]) = cs
  | [] => rfl
  | [c] => rfl
  | a :: b :: cs => by
    have ih := join_nil (b :: cs)
    show [a] ++ ([] ++ TL.joinL [] ((b :: cs).map fun c => [c])) = a :: b :: cs
    rw [ih]
    rfl
theorem join_small (cs : List Nat) : Txt.join ("" : Str) (cs.map fun c => (⟨#[c]⟩ : Str)) = SX.S cs := by
  have h := SX.join_S [] (cs.map fun c => [c])
  rw [List.map_map, join_nil] at h
  exact h
end Fb

/-! FbZ: from the head's facts to what the walk leans on. -/
namespace Fb
open PySem PySem.Spec PyProof.Rows L2 Evl
section
variable {K : PySem.W.Frag} {w : World} {h : Heap} {mg : Str → Option Value}
theorem fun_of {x qual : Str} {st : Stmt} {kws : List (Str × V)} {f : Addr} {fd : FuncData} (F : FunD K x qual (defArgs st) (defBody st) (defScope st) [] kws f fd) : Fun K x qual st f fd := by
  obtain ⟨⟨oc, od, dV, kV, doc, pm, an, cdv, ct, osl, h1, h2, h3, h4, _⟩, kp⟩ := F
  rcases h4 with ⟨_, rfl⟩ | ⟨h4, _⟩
  · exact ⟨⟨oc, od, kV, doc, pm, an, cdv, ct, osl, h1, h2, h3⟩, kp⟩
  · exact absurd rfl h4
theorem keys_lit {P : Params} {x : Str} : ∀ {l : List DictEntry} {ks : List Str}, l.map He.keyOf = He.keysIn P ks → x ∉ ks → l.find? (·.key.isStr x) = none
  | [], _, _, _ => rfl
  | e :: r, [], h, _ => by cases h
  | e :: r, k :: ks, h, hx => by
    have h1 : He.keyOf e :: r.map He.keyOf = some (k, PyData.keyHash P k) :: He.keysIn P ks := h
    injection h1 with h2 h3
    rw [List.mem_cons, not_or] at hx
    unfold He.keyOf at h2
    split at h2
    · rename_i y t q
      have h4 := Option.some.inj h2
      obtain ⟨h5, h6⟩ := Prod.mk.inj h4
      rw [List.find?_cons_of_neg (by rw [q]; show ¬ (y == x) = true; rw [beq_iff_eq, h5]; exact fun z => hx.1 z.symm)]
      exact keys_lit h3 hx.2
    · cases h2
theorem keys_noref {P : Params} : ∀ {l : List DictEntry} {ks : List Str}, l.map He.keyOf = He.keysIn P ks → l.any (·.refKey) = false
  | [], _, _ => rfl
  | e :: r, [], h => by cases h
  | e :: r, k :: ks, h => by
    have h1 : He.keyOf e :: r.map He.keyOf = some (k, PyData.keyHash P k) :: He.keysIn P ks := h
    injection h1 with h2 h3
    rw [List.any_cons, keys_noref h3, Bool.or_false]
    unfold He.keyOf at h2
    split at h2
    · rename_i y t q
      unfold DictEntry.refKey
      rw [q]
    · cases h2
/-- a dict of the top with text keys and int values -/
theorem kd_of {a : Addr} {kvs : List (Str × Int)} (h : He.dicW K a = some (He.keysIn w.params (kvs.map (·.1)))) (hv : He.valsB K a (kvs.map fun q => (q.1, .int q.2)) = true) (get : Str → Option Int) (hg : ∀ q, q ∈ kvs → get q.1 = some q.2) (hn : ∀ x, x ∉ kvs.map (·.1) → get x = none) : Kd K w a get := by
  obtain ⟨es, n, D⟩ := He.dicW_ok h
  refine ⟨es, n, D, fun x => ?_⟩
  by_cases hx : x ∈ kvs.map (·.1)
  · obtain ⟨q, hq, rfl⟩ := List.mem_map.mp hx
    obtain ⟨u, h1, h2⟩ := He.valsB_ok hv (q := (q.1, .int q.2)) (List.mem_map.mpr ⟨q, hq, rfl⟩)
    obtain ⟨t, rfl⟩ : ∃ t, u = .int q.2 t := h2
    exact .inr ⟨q.2, t, h1, hg q hq⟩
  · refine .inl ⟨?_, hn x hx⟩
    have h2 := h
    unfold He.dicW at h2
    rw [D.at_] at h2
    have h3 : es.toList.map He.keyOf = He.keysIn w.params (kvs.map (·.1)) := by
      dsimp only at h2
      split at h2
      · exact Option.some.inj h2
      · cases h2
    unfold PySem.W.nsIn
    rw [D.at_]
    dsimp only
    rw [keys_lit h3 hx]
    show (if es.toList.any (·.refKey) = true then none else some none) = some none
    rw [keys_noref h3]
    rfl
theorem tab_of {fa : List He.Fa} {fn : List He.DefD} {ts : List He.Tab} (c : He.SaysT fa fn ts w K) (i : Nat) {t : He.Tab} (h : ts[i]? = some t := by rfl) : He.dicW K (t.1 K) = some (He.keysIn w.params t.2) := by
  have e : ts.map (fun t => He.dicW K (t.1 K)) = ts.map fun t => some (He.keysIn w.params t.2) := congrArg (fun z : He.AlT => z.2) c
  have e2 : (ts.map fun t => He.dicW K (t.1 K))[i]? = (ts.map fun t => some (He.keysIn w.params t.2))[i]? := by rw [e]
  rw [List.getElem?_map, List.getElem?_map, h] at e2
  exact Option.some.inj e2
/-- a tuple of texts of the top -/
theorem strs_of {x : Str} {ss : List Str} (h : He.tupB K x (ss.map He.Dv.str) = true) (H : Hp) : Dp K H (.ref (He.ga K x)) (.tuple (ss.map PyData.str)) := by
  have q := He.tupB_ok h H
  rw [List.map_map] at q
  refine Dp.tup (.inr ⟨q, by rw [List.all_map]; exact List.all_eq_true.mpr fun _ _ => rfl⟩) ?_
  clear q h
  induction ss with
  | nil => exact .nil
  | cons s ss ih => exact .cons (.str s) ih
theorem ec_of (X : K.In h) (G : h.Ns mainGlobals mg) {x : Str} (g : (He.Fa.glo x).ok K = true) (c : (He.Fa.exc x).ok K = true) : Ec K mg x (He.ga K x) := by
  obtain ⟨h1, h2, h3, h4⟩ := He.exc_ok c
  exact ⟨He.glo_ok X G g, h1, h2, h3, h4⟩
end
/-- a law's end: F gives the written part, the function object, the promise over every base -/
theorem walkF {l : PySem.W.OpenLaw} {n k : Nat} {q : Program} {loose : List Str} {XP : (Str → Option Value) → Heap → Prop} {YP : World → Heap → Prop} {d : DefRec} {x : Str}
    (hn : l.most = some n) (hn2 : n ≤ sizeLine) (hdf : d.params.defaults = []) (hr : Room k callerA)
    (F : ∀ (w : World) (mg : Str → Option Value) (fa : Addr) (h : Heap), YP w h → h.Ns mainGlobals mg → mg d.name = some (.ref fa) →
      ∃ (K : PySem.W.Frag) (fd : FuncData) (sp : Sp), K.In h ∧ (∀ (s : Shared) (u : Value), BindsTo s fd ⟨[u], []⟩ [(x, u)]) ∧
        (∀ (H : Hp) (a : Addr) (ns : List Int), ns.length ≤ n → Only H → SqL K H a (ns.map V.int) → sp [.ref a] H (fun v _ => v = .bl true) fun _ _ _ => False) ∧
        ∀ base : Heap, K.In base → base.Ns mainGlobals mg → FnOk l.prog w K mg base (L2.CX l.prog w) k fa fd [x] sp) :
    PySem.W.WalkO q loose XP YP l.row.toRowW d [] (fun f vs => PySem.call f vs) := by
  refine Att.attach_call hn hdf fun w s₀ s₁ mg mb fa o pm cd doc a vs ns G Y ho hd hcd hmg hobj hints hlen hg => ?_
  obtain ⟨K, fd, sp, KX, hb, hsp, hF⟩ := F w mg fa _ Y G.T.g hmg
  exact law_call KX G.T.g G.T.b G.T.builtins G.T.nolimit hg hobj hints (Nat.le_trans hlen hn2) hr hF hb (fun H hO hS => hsp H a ns hlen hO hS) fun H e s' ⟨_, _, _, _, _, _, _, _, _, _, _, _, z⟩ => z
end Fb

/-! FbO: the order of data; sorted, max, min of lists of tuples. -/
namespace Fb
open PySem PySem.Spec PyProof.Rows L2 Evl
/-! ### sorting by insertion -/
section
variable {α β : Type}
def ins (lt : α → α → Bool) (x : α) : List α → List α
  | [] => [x]
  | y :: ys => if lt y x = true then y :: ins lt x ys else x :: y :: ys
def isort (lt : α → α → Bool) : List α → List α
  | [] => []
  | x :: xs => ins lt x (isort lt xs)
variable {lt : α → α → Bool}
theorem ins_perm (x : α) : ∀ l : List α, (ins lt x l).Perm (x :: l)
  | [] => List.Perm.refl _
  | y :: ys => by
    unfold ins
    split
    · exact ((ins_perm x ys).cons y).trans (List.Perm.swap x y ys)
    · exact List.Perm.refl _
theorem isort_perm : ∀ l : List α, (isort lt l).Perm l
  | [] => List.Perm.refl _
  | x :: xs => (ins_perm x _).trans ((isort_perm xs).cons x)
theorem isort_len (l : List α) : (isort lt l).length = l.length := (isort_perm l).length_eq
theorem isort_mem {l : List α} {x : α} : x ∈ isort lt l ↔ x ∈ l := (isort_perm l).mem_iff
theorem ins_srtd (O : SrtO.Swo lt) (x : α) : ∀ {l : List α}, SrtO.Srtd lt l → SrtO.Srtd lt (ins lt x l)
  | [], _ => List.pairwise_singleton _ _
  | y :: ys, h => by
    obtain ⟨h1, h2⟩ := List.pairwise_cons.mp h
    unfold ins
    split
    · rename_i hy
      refine List.pairwise_cons.mpr ⟨fun z hz => ?_, ins_srtd O x h2⟩
      rcases List.mem_cons.mp ((ins_perm x ys).mem_iff.mp hz) with rfl | hz
      · exact O.asym _ _ hy
      · exact h1 z hz
    · rename_i hy
      have hy' : lt y x = false := by simpa using hy
      refine List.pairwise_cons.mpr ⟨fun z hz => ?_, h⟩
      rcases List.mem_cons.mp hz with rfl | hz
      · exact hy'
      · exact O.tr x y z hy' (h1 z hz)
theorem isort_srtd (O : SrtO.Swo lt) : ∀ l : List α, SrtO.Srtd lt (isort lt l)
  | [] => List.Pairwise.nil
  | x :: xs => ins_srtd O x (isort_srtd O xs)
theorem ins_stb (O : SrtO.Swo lt) (x : α) : ∀ l : List α, SrtO.Stb lt (ins lt x l) (x :: l)
  | [] => SrtO.Stb.refl _
  | y :: ys => by
    refine ⟨ins_perm x (y :: ys), fun z => ?_⟩
    unfold ins
    split
    · rename_i hy
      have ih := (ins_stb O x ys).cls z
      cases hzx : SrtO.eqv lt z x with
      | false =>
        rw [List.filter_cons_of_neg (a := x) (by rw [hzx]; decide)] at ih ⊢
        cases hzy : SrtO.eqv lt z y with
        | true => rw [List.filter_cons_of_pos hzy, List.filter_cons_of_pos hzy, ih]
        | false => rw [List.filter_cons_of_neg (by rw [hzy]; decide), List.filter_cons_of_neg (by rw [hzy]; decide), ih]
      | true =>
        have hzy : SrtO.eqv lt z y = false := by
          cases q : SrtO.eqv lt z y with
          | false => rfl
          | true =>
            have e := SrtO.eqv_trans O (v := y) hzx
            rw [q] at e
            obtain ⟨_, e2⟩ := SrtO.eqv_iff.mp e.symm
            rw [hy] at e2
            cases e2
        rw [List.filter_cons_of_neg (by rw [hzy]; decide), ih, List.filter_cons_of_pos hzx, List.filter_cons_of_pos hzx, List.filter_cons_of_neg (by rw [hzy]; decide)]
    · rfl
theorem Stb_cons {x : α} {l m : List α} (h : SrtO.Stb lt l m) : SrtO.Stb lt (x :: l) (x :: m) := ⟨h.perm.cons x, fun z => by
  rw [List.filter_cons, List.filter_cons, h.cls z]⟩
theorem isort_stb (O : SrtO.Swo lt) : ∀ l : List α, SrtO.Stb lt (isort lt l) l
  | [] => SrtO.Stb.refl _
  | x :: xs => (ins_stb O x _).trans (Stb_cons (isort_stb O xs))
theorem ins_map {lt2 : β → β → Bool} (f : α → β) (x : α) : ∀ (l : List α), (∀ y ∈ l, lt2 (f y) (f x) = lt y x) → ins lt2 (f x) (l.map f) = (ins lt x l).map f
  | [], _ => rfl
  | y :: ys, h => by
    have ih := ins_map f x ys fun z hz => h z (List.mem_cons_of_mem _ hz)
    have hy := h y List.mem_cons_self
    show (if lt2 (f y) (f x) = true then f y :: ins lt2 (f x) (ys.map f) else f x :: f y :: ys.map f) = (if lt y x = true then y :: ins lt x ys else x :: y :: ys).map f
    rw [hy, ih]
    split <;> rfl
theorem isort_map {lt2 : β → β → Bool} (f : α → β) : ∀ (l : List α), (∀ x ∈ l, ∀ y ∈ l, lt2 (f x) (f y) = lt x y) → isort lt2 (l.map f) = (isort lt l).map f
  | [], _ => rfl
  | x :: xs, h => by
    show ins lt2 (f x) (isort lt2 (xs.map f)) = (ins lt x (isort lt xs)).map f
    rw [isort_map f xs fun y hy z hz => h y (List.mem_cons_of_mem _ hy) z (List.mem_cons_of_mem _ hz)]
    exact ins_map f x _ fun y hy => h y (List.mem_cons_of_mem _ (isort_mem.mp hy)) x List.mem_cons_self
/-- two rearrangements of a list whose items the order parts are sorted to the same list -/
theorem isort_perm_eq (O : SrtO.Swo lt) {l m : List α} (p : l.Perm m) (h : ∀ x ∈ l, ∀ y ∈ l, lt x y = false → lt y x = false → x = y) : isort lt l = isort lt m := by
  have hp : (isort lt l).Perm (isort lt m) := ((isort_perm l).trans p).trans (isort_perm m).symm
  have h2 : ∀ x ∈ isort lt l, ∀ y ∈ isort lt l, lt x y = false → lt y x = false → x = y := fun x hx y hy => h x (isort_mem.mp hx) y (isort_mem.mp hy)
  refine go (isort_srtd O l) (isort_srtd O m) hp h2
where
  go : ∀ {a b : List α}, SrtO.Srtd lt a → SrtO.Srtd lt b → a.Perm b → (∀ x ∈ a, ∀ y ∈ a, lt x y = false → lt y x = false → x = y) → a = b
  | [], b, _, _, hp, _ => (List.Perm.eq_nil hp.symm).symm
  | x :: a, [], _, _, hp, _ => absurd hp.length_eq (by simp)
  | x :: a, y :: b, ha, hb, hp, h => by
    obtain ⟨ha1, ha2⟩ := List.pairwise_cons.mp ha
    obtain ⟨hb1, hb2⟩ := List.pairwise_cons.mp hb
    have hy : y ∈ x :: a := hp.mem_iff.mpr List.mem_cons_self
    have hx : x ∈ y :: b := hp.mem_iff.mp List.mem_cons_self
    have e : x = y := by
      rcases List.mem_cons.mp hy with q | q
      · exact q.symm
      · rcases List.mem_cons.mp hx with q2 | q2
        · exact q2
        · exact h x List.mem_cons_self y hy (hb1 x q2) (ha1 y q)
    subst e
    rw [go ha2 hb2 hp.cons_inv fun u hu v hv => h u (List.mem_cons_of_mem _ hu) v (List.mem_cons_of_mem _ hv)]
/-- a sorted list stays -/
theorem isort_id (O : SrtO.Swo lt) : ∀ {l : List α}, SrtO.Srtd lt l → isort lt l = l
  | [], _ => rfl
  | x :: xs, h => by
    obtain ⟨h1, h2⟩ := List.pairwise_cons.mp h
    show ins lt x (isort lt xs) = x :: xs
    rw [isort_id O h2]
    cases xs with
    | nil => rfl
    | cons y ys =>
      show (if lt y x = true then _ else _) = _
      rw [if_neg (by rw [h1 y List.mem_cons_self]; decide)]
end
/-! ### the order of data -/
abbrev ltD : PyData → PyData → Bool := PySem.W.dataLt
theorem swo_data : SrtO.Swo ltD := by
  refine ⟨fun x y h => ?_, fun x y z h1 h2 => ?_⟩
  · cases q : ltD y x with
    | false => rfl
    | true =>
      have t := (listOrd itemOrd).trans _ _ _ h q
      rw [(listOrd itemOrd).irrefl] at t
      cases t
  · cases q : ltD z x with
    | false => rfl
    | true =>
      rcases (listOrd itemOrd).negTrans _ (PySem.W.keyToks y) _ q with t | t
      · rw [show ltD z y = true from t] at h2
        cases h2
      · rw [show ltD y x = true from t] at h1
        cases h1
def sortD : List PyData → List PyData := isort ltD
/-- comparable, place by place, up to the first that differs -/
def cmpT : List PyData → List PyData → Bool
  | x :: xs, y :: ys => PySem.W.alike x y && (if PyData.eqv x y = true then cmpT xs ys else true)
  | _, _ => true
structure SortOk (ds : List PyData) : Prop where
  tup : ∀ d ∈ ds, ∃ x r, d = .tuple (x :: r)
  lay : ∀ d ∈ ds, d.canLay0 = true
  dp : ∀ d ∈ ds, d.depth ≤ 8
  fst : ∀ x r y q, PyData.tuple (x :: r) ∈ ds → PyData.tuple (y :: q) ∈ ds → PySem.W.dataType x = PySem.W.dataType y
  cmp : ∀ xs ys, PyData.tuple xs ∈ ds → PyData.tuple ys ∈ ds → cmpT xs ys = true
theorem alike_cmpT : ∀ {xs ys : List PyData}, PySem.W.alikeAll xs ys = true → cmpT xs ys = true
  | [], _, _ => by unfold cmpT; rfl
  | x :: xs, [], _ => by unfold cmpT; rfl
  | x :: xs, y :: ys, h => by
    obtain ⟨h1, h2⟩ := PySem.W.alike_all_cons h
    unfold cmpT
    rw [h1, alike_cmpT h2]
    simp
section
variable {prog : Program} {w : World} {A : Around} {s : Shared}
theorem katLex_cmp {b fin : Bool} {Q : Bool → Shared → Prop} : ∀ (xs ys : List PyData) (i : Nat) (vs ws : List Value) (as bs : List Addr), ReadsAll s.heap vs xs as → ReadsAll s.heap ws ys bs → cmpT xs ys = true → PyData.canLayAll0 xs = true → PyData.canLayAll0 ys = true →
    A.units + min (PyData.depthAll xs) (PyData.depthAll ys) < cLine → (b = true → i = 0 → ∀ x r t, xs = x :: r → x ≠ .tuple t) → fin = decide (xs.length < ys.length) → Q (PyProof.Rows.lexLt itemOrd (PySem.W.keyToksAll xs) (PySem.W.keyToksAll ys)) s → PySem.W.KatLex prog w A b fin Q (vs.zip ws) i s
  | [], [], i, _, _, _, _, ra, rb, _, _, _, _, _, hf, hq => by
    cases ra
    cases rb
    have e : fin = false := by rw [hf]; rfl
    subst e
    rw [lex_irrefl] at hq
    exact PySem.W.kat_nil hq
  | [], y :: ys, i, _, _, _, _, ra, rb, _, _, _, _, _, hf, hq => by
    cases ra
    have e : fin = true := by rw [hf]; exact decide_eq_true (Nat.succ_pos _)
    subst e
    rw [PySem.W.toks_all_cons] at hq
    simp only [PySem.W.keyToksAll] at hq
    rw [lex_diff (O := itemOrd) (by simp)] at hq
    rw [List.zip_nil_left]
    exact PySem.W.kat_nil (by simpa [itemLt] using hq)
  | x :: xs, [], i, _, _, _, _, ra, rb, _, _, _, _, _, hf, hq => by
    cases rb
    have e : fin = false := by rw [hf]; exact decide_eq_false (Nat.not_lt_zero _)
    subst e
    rw [PySem.W.toks_all_cons] at hq
    simp only [PySem.W.keyToksAll] at hq
    rw [lex_diff (O := itemOrd) (by simp)] at hq
    rw [List.zip_nil_right]
    exact PySem.W.kat_nil (by simpa [itemLt] using hq)
  | x :: xs, y :: ys, i, _, _, _, _, ra, rb, h, lx, ly, hu, hb, hf, hq => by
    unfold cmpT at h
    rw [Bool.and_eq_true] at h
    obtain ⟨h1, h2⟩ := h
    simp only [PyData.canLayAll0, Bool.and_eq_true] at lx ly
    have hf' : fin = decide (xs.length < ys.length) := by
      rw [hf]
      simp only [List.length_cons, Nat.add_lt_add_iff_right]
    cases ra with
    | cons r rs =>
      cases rb with
      | cons r' rs' =>
        rw [List.zip_cons_cons]
        refine PySem.W.kat_cons (PySem.W.eqAt_alike x y A s _ _ _ _ r r' h1 (SeqAt.room_head hu) prog w _ _ ?_)
        cases hx : PyData.eqv x y with
        | true =>
          rw [PySem.W.dataLt_all_yes h1 hx] at hq
          rw [hx, if_pos rfl] at h2
          exact PySem.W.kat_yes (katLex_cmp xs ys (i + 1) _ _ _ _ rs rs' h2 lx.2 ly.2 (SeqAt.room_tail hu) (fun _ hi => absurd hi (Nat.succ_ne_zero i)) hf' hq)
        | false =>
          rw [PySem.W.dataLt_all_no h1 hx] at hq
          refine PySem.W.kat_no (PySem.W.oneLt_alike (fun hbi t => ?_) r r' h1 (PySem.W.ne_none_of h1 hx) (SeqAt.room_head hu) hq)
          rw [Bool.and_eq_true] at hbi
          exact hb hbi.1 (by simpa using hbi.2) x xs t rfl
end
/-- what a value reads as -/
noncomputable def rdV (h : Heap) (v : Value) : PyData := open Classical in if q : ∃ d : PyData, d.canLay0 = true ∧ ∃ as, Reads h v d as then q.choose else .none
theorem rdV_eq {h : Heap} {v : Value} {d : PyData} {as : List Addr} (r : Reads h v d as) (hl : d.canLay0 = true) : rdV h v = d := by
  have q : ∃ d : PyData, d.canLay0 = true ∧ ∃ as, Reads h v d as := ⟨d, hl, as, r⟩
  unfold rdV
  rw [dif_pos q]
  obtain ⟨h1, as', h2⟩ := q.choose_spec
  exact SeqAt.Reads.unique _ _ v _ _ h1 h2 r
theorem readsAll_each {h : Heap} : ∀ {vs : List Value} {ds : List PyData} {as : List Addr}, ReadsAll h vs ds as → PySem.W.EachIs (fun v d => ∃ as, Reads h v d as) vs ds
  | _, _, _, .nil => .nil
  | _, _, _, .cons r rs => .cons ⟨_, r⟩ (readsAll_each rs)
section
variable {X : Cx}
theorem zip_get {α β : Type} : ∀ {xs : List α} {ys : List β} {i : Nat} {x : α} {y : β}, xs[i]? = some x → ys[i]? = some y → (x, y) ∈ xs.zip ys
  | x' :: xs, y' :: ys, 0, x, y, h1, h2 => by
    simp at h1 h2
    subst h1 h2
    simp
  | x' :: xs, y' :: ys, i + 1, x, y, h1, h2 => by
    rw [List.zip_cons_cons]
    exact List.mem_cons_of_mem _ (zip_get (i := i) (by simpa using h1) (by simpa using h2))
  | [], _, i, _, _, h1, _ => by simp at h1
  | _ :: _, [], i, _, _, _, h2 => by simp at h2
theorem readsAll_ix {h : Heap} : ∀ {vs : List Value} {ds : List PyData} {as : List Addr} {i : Nat} {v : Value}, ReadsAll h vs ds as → vs[i]? = some v → ∃ d as', ds[i]? = some d ∧ Reads h v d as'
  | _, _, _, i, _, .nil, e => by simp at e
  | _, _, _, 0, _, .cons r _, e => by simp at e; subst e; exact ⟨_, _, rfl, r⟩
  | _, _, _, i + 1, _, .cons _ rs, e => by
    obtain ⟨d, as', h1, h2⟩ := readsAll_ix (i := i) rs (by simpa using e)
    exact ⟨d, as', by simpa using h1, h2⟩
/-- sorted(xs), a list of tuples that can be compared -/
def rSortD (K : PySem.W.Frag) : List V → Hp → VK → Prop := fun vs H Q => ∃ (a : Addr) (xs : List V) (ds : List PyData), vs = [V.ref a] ∧ SqL K H a xs ∧ L2.DpAll K H xs ds ∧ SortOk ds ∧
  ∀ (zs : List (V × PyData)) (p : Addr), (∀ z ∈ zs, z ∈ xs.zip ds) → zs.map (·.2) = sortD ds → H p = none → Q (.ref p) (upd H p (.lst (zs.map (·.1))))
theorem dpAll_ref {K : PySem.W.Frag} {H : Hp} : ∀ {xs : List V} {ds : List PyData}, L2.DpAll K H xs ds → (∀ d ∈ ds, ∃ x r, d = .tuple (x :: r)) → ∀ x ∈ xs, ∃ t, x = V.ref t
  | _, _, .nil, _, x, hx => by cases hx
  | _, _, .cons h t, hd, x, hx => by
    rcases List.mem_cons.mp hx with rfl | hx
    · obtain ⟨y, r, rfl⟩ := hd _ List.mem_cons_self
      cases h with
      | tup _ _ => exact ⟨_, rfl⟩
    · exact dpAll_ref t (fun d hm => hd d (List.mem_cons_of_mem _ hm)) x hx
/-- the items can be sorted, wherever the objects are kept -/
theorem sortable_data {prog : Program} {w : World} {A : Around} {s : Shared} {h₀ : Heap} {a : Addr} {vs : List Value} {ds : List PyData} {as : List Addr} (hr : ReadsAll h₀ vs ds as) (ok : SortOk ds) (h0 : 0 < vs.length) (hu : A.units + 64 < cLine) (kk : ∀ b o, h₀.get? b = some o → b ≠ a ∧ s.heap.get? b = some o) :
    SrtO.SortableO prog w A s a vs fun v u => ltD (rdV h₀ v) (rdV h₀ u) := by
  intro h' keep
  have kp : ∀ b o, h₀.get? b = some o → h'.get? b = some o := fun b o e => keep b o (kk b o e).1 (kk b o e).2
  have hr' : ReadsAll h' vs ds as := ReadsAll.keeps kp hr
  have each := readsAll_each hr'
  have hlen : ds.length = vs.length := (SeqAt.ReadsAll.length _ _ _ hr).symm
  obtain ⟨d0, ds0, rfl⟩ : ∃ d0 ds0, ds = d0 :: ds0 := by
    cases ds with
    | nil => simp at hlen; omega
    | cons d0 ds0 => exact ⟨d0, ds0, rfl⟩
  obtain ⟨x0, r0, rfl⟩ := ok.tup d0 List.mem_cons_self
  refine ⟨tuples' (PySem.W.dataType x0 != Value.type "tuple"), fun Q E hq => ?_, fun p q hm hm' => ?_⟩
  · obtain ⟨fs, t1, t2, t3⟩ := PySem.W.each_katTups each ok.tup
    refine PySem.W.kat_kind (T := PySem.W.dataType x0) t1 (by omega) (fun f hf => ?_) (beq_self_eq_true _) hq
    obtain ⟨x, r, as', m1, m2⟩ := t3 f hf
    rw [← ok.fst x r x0 r0 m1 List.mem_cons_self]
    exact PySem.W.looks_reads m2
  · obtain ⟨pv, pk⟩ := p
    obtain ⟨qv, qk⟩ := q
    dsimp only at hm hm'
    obtain ⟨i, hi⟩ := List.mem_iff_getElem?.mp hm
    obtain ⟨j, hj⟩ := List.mem_iff_getElem?.mp hm'
    obtain ⟨d, as1, hd, ra⟩ := readsAll_ix hr' hi
    obtain ⟨d', as2, hd', rb⟩ := readsAll_ix hr' hj
    obtain ⟨d1, as3, hd1, ra0⟩ := readsAll_ix hr hi
    obtain ⟨d2, as4, hd2, rb0⟩ := readsAll_ix hr hj
    rw [hd] at hd1
    rw [hd'] at hd2
    cases hd1
    cases hd2
    have md := List.mem_of_getElem? hd
    have md' := List.mem_of_getElem? hd'
    have e1 := rdV_eq ra0 (ok.lay d md)
    have e2 := rdV_eq rb0 (ok.lay d' md')
    show wpAny (model prog w) A (keyLt' _ pv qv) (fun r s' => s' = { s with heap := h' } ∧ r = ltD (rdV h₀ pv) (rdV h₀ qv)) (fun _ _ => False) { s with heap := h' }
    rw [e1, e2]
    have lay := ok.lay d md
    have lay' := ok.lay d' md'
    have dp := ok.dp d md
    obtain ⟨x1, r1, rfl⟩ := ok.tup d md
    obtain ⟨x2, r2, rfl⟩ := ok.tup d' md'
    cases ra with
    | @tuple l o xs n _ _ h1 h2 h3 h4 =>
      cases rb with
      | @tuple l' o' xs' n' _ _ k1 k2 k3 k4 =>
        have n1 : xs.size = (x1 :: r1).length := by simpa using SeqAt.ReadsAll.length _ _ _ h4
        have n2 : xs'.size = (x2 :: r2).length := by simpa using SeqAt.ReadsAll.length _ _ _ k4
        have dp' : PyData.depthAll (x1 :: r1) ≤ 8 := by simp only [PyData.depth] at dp; omega
        refine PySem.W.kat_lt (s := { s with heap := h' }) h1 h3 k1 k3 (katLex_cmp (x1 :: r1) (x2 :: r2) 0 _ _ _ _ h4 k4 (ok.cmp _ _ md md') (by simpa only [PyData.canLay0] using lay) (by simpa only [PyData.canLay0] using lay') (by have := Nat.min_le_left (PyData.depthAll (x1 :: r1)) (PyData.depthAll (x2 :: r2)); omega) (fun hb _ x r t ex => ?_) (by rw [n1, n2]) ⟨rfl, (PySem.W.dataLt_tuple _ _).symm⟩)
        obtain ⟨rfl, rfl⟩ := List.cons.inj ex
        rw [← ok.fst x1 r1 x0 r0 md List.mem_cons_self] at hb
        exact PySem.W.dataType_tuple hb t
theorem cr_sortD (hu : X.A.units + 70 < cLine) : CallR X (.builtin "sorted") (rSortD X.K) := by
  intro pins s σ H vs us Q I r h
  obtain ⟨a, xs, ds, rfl, hs, hd, ok, q⟩ := h
  obtain ⟨its, rv, hl, hz⟩ := I.list hs
  obtain ⟨u, rfl, ru⟩ := vals1 r
  obtain rfl : u = Value.ref a := ru
  obtain ⟨as, hr⟩ := L2.Dp.readsAll I ds xs its hd rv
  obtain ⟨e1, e2⟩ := refs_back rv (dpAll_ref hd ok.tup)
  have O : SrtO.Swo fun v u => ltD (rdV s.heap v) (rdV s.heap u) := ⟨fun x y => swo_data.asym _ _, fun x y z => swo_data.tr _ _ _⟩
  refine SrtO.sorted_ord O hl.isList (by rw [← rv.length]; exact hz) (fun h2 h₁ a' ha kk => sortable_data (s := { s with heap := h₁ }) hr ok (by omega) (by show X.A.units + 1 + 1 + 64 < cLine; omega) kk) fun out h1 h2 => ?_
  obtain ⟨ep, he'⟩ := PyProof.Rows.sortedAll_at s.heap its out.toArray
  have h3 : ∀ u ∈ out, ∃ a, u = Value.ref a := fun u hu => e2 u (h2.perm.mem_iff.mp hu)
  have hlen : (out.map backV).length ≤ sizeLine := by
    rw [List.length_map, h2.perm.length_eq, ← rv.length]
    exact hz
  have hds : its.map (rdV s.heap) = ds := by
    have hL : its.length = ds.length := SeqAt.ReadsAll.length _ _ _ hr
    refine List.ext_getElem? fun i => ?_
    rw [List.getElem?_map]
    cases hi : its[i]? with
    | none =>
      have : ds.length ≤ i := by rw [← hL]; exact List.getElem?_eq_none_iff.mp hi
      rw [List.getElem?_eq_none this]
      rfl
    | some v =>
      obtain ⟨d, as', h4, h5⟩ := readsAll_ix hr hi
      rw [h4, Option.map_some, rdV_eq h5 (ok.lay d (List.mem_of_getElem? h4))]
  have hout : out.map (rdV s.heap) = sortD ds := by
    rw [← hds]
    exact SrtO.stb_uniq swo_data (SrtO.srtd_map h1) (isort_srtd swo_data _) ((SrtO.Stb.map swo_data (rdV s.heap) h2).trans ⟨(isort_perm _).symm, fun x => ((isort_stb swo_data _).cls x).symm⟩)
  have hq := q (out.map fun v => (backV v, rdV s.heap v)) (s.heap.objs.size + 1) (fun z hz => ?_) (by rw [List.map_map]; exact hout) (I.hok.fresh (Nat.le_succ _))
  · rw [List.map_map] at hq
    exact ⟨.ref _, upd H (s.heap.objs.size + 1) (.lst (out.map backV)), I.laid (t' := s.toks) (fun _ _ => PyProof.Rows.sortedAll_old) (Nat.le_succ _) ⟨hlen, out, ep, vals_back h3, he'⟩, rfl, hq⟩
  · obtain ⟨v, hv, rfl⟩ := List.mem_map.mp hz
    have hv' : v ∈ its := h2.perm.mem_iff.mp hv
    obtain ⟨i, hi⟩ := List.mem_iff_getElem?.mp hv'
    obtain ⟨d, as', h4, h5⟩ := readsAll_ix hr hi
    rw [rdV_eq h5 (ok.lay d (List.mem_of_getElem? h4))]
    refine zip_get (i := i) ?_ h4
    rw [e1, List.getElem?_map, hi]
    rfl
theorem dpAll_pick {K : PySem.W.Frag} {G : Hp} {xs : List V} {ds : List PyData} (h : DpAll K G xs ds) : ∀ {zs : List (V × PyData)}, (∀ z ∈ zs, z ∈ xs.zip ds) → DpAll K G (zs.map (·.1)) (zs.map (·.2))
  | [], _ => .nil
  | z :: zs, hz => .cons (pick h (hz z List.mem_cons_self)) (dpAll_pick h fun y hy => hz y (List.mem_cons_of_mem _ hy))
where
  pick : ∀ {xs : List V} {ds : List PyData} {z : V × PyData}, DpAll K G xs ds → z ∈ xs.zip ds → Dp K G z.1 z.2
  | _, _, _, .nil, hz => by simp at hz
  | _, _, _, .cons h t, hz => by
    rw [List.zip_cons_cons] at hz
    rcases List.mem_cons.mp hz with rfl | hz
    · exact h
    · exact pick t hz
variable {a b e : Expr} {r : Rho} {pos p : Pos}
theorem pv_sorted {xs : List PyData} (hm : X.mg "sorted" = none) (hu : X.A.units + 70 < cLine) (ha : Pv X a r (.d (.list xs))) (ok : SortOk xs) (hg : Gl X "sorted" := by rfl) (he : starEach [a] X.env = (false, eval a X.env) :: starEach [] X.env := by rfl) (hpl : (backTo pos (starEach [] X.env)).any (·.1) = false := by rfl) :
    Pv X (.Call (.Name "sorted" p) [a] [] pos) r (.d (.list (sortD xs))) :=
  pv_callB (cr_sortD hu) hg hm PyProof.Rows.boot_sorted (pa_cons ha pa_nil he) (fun vs G H Q g hd k => by
    obtain ⟨v, rfl, hv⟩ := dens1 hd
    cases hv with
    | lst q1 q2 =>
      refine ⟨_, _, xs, rfl, .inl (ex_rd g q1), DpAll.l2 _ _ (dpAll_up g _ _ q2), ok, fun zs l hz hs hl => k _ _ _ (Gr.new g hl) (Dp.lst (.inl upd_same) ?_)⟩
      rw [← hs]
      exact dpAll_up (Ex.new (fresh_back g hl)) _ _ (dpAll_pick q2 hz)) (he := he) (hpl := hpl)
/-- max(xs), min(xs), xs a list of things alike -/
theorem cr_maxD (hc : X.calm = true) (hu : X.A.units + 70 < cLine) : CallR X (.builtin "max") (fun vs H Q => ∃ (a : Addr) (xs : List V) (d : PyData) (ds : List PyData), vs = [V.ref a] ∧ SqL X.K H a xs ∧ L2.DpAll X.K H xs (d :: ds) ∧ PySem.W.AlikeAll (d :: ds) ∧ PyData.depthAll (d :: ds) ≤ 8 ∧ PyData.canLayAll0 (d :: ds) = true ∧ ∀ (i : Nat) (x : V), xs[i]? = some x → (d :: ds)[i]? = some (PySem.W.maxD d ds) → Q x H) := by
  intro pins s σ H vs us Q I r h
  obtain ⟨a, xs, d, ds, rfl, hs, hd, al, dp, lay, q⟩ := h
  obtain ⟨its, rv, hl, hz⟩ := I.list hs
  rw [Vals.ref1 r]
  obtain ⟨as, hr⟩ := L2.Dp.readsAll I (d :: ds) xs its hd rv
  refine PySem.W.max_list_data (I.ok.hd hc) hl.isList (by simpa using hr) al (by omega) fun i v h' tk bs hv rd kp => ?_
  have hv' : its[i]? = some v := by simpa using hv
  obtain ⟨x, hx, rx⟩ := vals_ix rv hv'
  obtain ⟨d', as', h4, h5⟩ := readsAll_ix hr hv'
  have e := SeqAt.Reads.unique _ _ v _ _ (lay_mem0 lay d' (List.mem_of_getElem? h4)) (Reads.keeps kp h5) rd
  rw [e] at h4
  exact ⟨x, H, I.kept kp, rx, q i x hx h4⟩
where
  vals_ix : ∀ {xs : List V} {its : List Value} {i : Nat} {v : Value}, Vals xs its → its[i]? = some v → ∃ x, xs[i]? = some x ∧ RelV x v
  | _, _, i, _, .nil, e => by simp at e
  | _, _, 0, _, .cons r _, e => by simp at e; subst e; exact ⟨_, rfl, r⟩
  | _, _, i + 1, _, .cons _ t, e => by
    obtain ⟨x, h1, h2⟩ := vals_ix (i := i) t (by simpa using e)
    exact ⟨x, by simpa using h1, h2⟩
  lay_mem0 : ∀ {ds : List PyData}, PyData.canLayAll0 ds = true → ∀ d ∈ ds, d.canLay0 = true
  | x :: xs, h, d, hd => by
    simp only [PyData.canLayAll0, Bool.and_eq_true] at h
    rcases List.mem_cons.mp hd with rfl | hd
    · exact h.1
    · exact lay_mem0 h.2 d hd
theorem cr_minD (hc : X.calm = true) (hu : X.A.units + 70 < cLine) : CallR X (.builtin "min") (fun vs H Q => ∃ (a : Addr) (xs : List V) (d : PyData) (ds : List PyData), vs = [V.ref a] ∧ SqL X.K H a xs ∧ L2.DpAll X.K H xs (d :: ds) ∧ PySem.W.AlikeAll (d :: ds) ∧ PyData.depthAll (d :: ds) ≤ 8 ∧ PyData.canLayAll0 (d :: ds) = true ∧ ∀ (i : Nat) (x : V), xs[i]? = some x → (d :: ds)[i]? = some (PySem.W.minD d ds) → Q x H) := by
  intro pins s σ H vs us Q I r h
  obtain ⟨a, xs, d, ds, rfl, hs, hd, al, dp, lay, q⟩ := h
  obtain ⟨its, rv, hl, hz⟩ := I.list hs
  rw [Vals.ref1 r]
  obtain ⟨as, hr⟩ := L2.Dp.readsAll I (d :: ds) xs its hd rv
  refine PySem.W.min_list_data (I.ok.hd hc) hl.isList (by simpa using hr) al (by omega) fun i v h' tk bs hv rd kp => ?_
  have hv' : its[i]? = some v := by simpa using hv
  obtain ⟨x, hx, rx⟩ := cr_maxD.vals_ix rv hv'
  obtain ⟨d', as', h4, h5⟩ := readsAll_ix hr hv'
  have e := SeqAt.Reads.unique _ _ v _ _ (cr_maxD.lay_mem0 lay d' (List.mem_of_getElem? h4)) (Reads.keeps kp h5) rd
  rw [e] at h4
  exact ⟨x, H, I.kept kp, rx, q i x hx h4⟩
theorem pv_maxL {d : PyData} {ds : List PyData} (hm : X.mg "max" = none) (hu : X.A.units + 70 < cLine) (ha : Pv X a r (.d (.list (d :: ds)))) (al : PySem.W.AlikeAll (d :: ds)) (dp : PyData.depthAll (d :: ds) ≤ 8) (lay : PyData.canLayAll0 (d :: ds) = true) (hc : X.calm = true := by rfl) (hg : Gl X "max" := by rfl) (he : starEach [a] X.env = (false, eval a X.env) :: starEach [] X.env := by rfl) (hpl : (backTo pos (starEach [] X.env)).any (·.1) = false := by rfl) :
    Pv X (.Call (.Name "max" p) [a] [] pos) r (.d (PySem.W.maxD d ds)) :=
  pv_callB (cr_maxD hc hu) hg hm PyProof.Rows.boot_max (pa_cons ha pa_nil he) (fun vs G H Q g hd k => by
    obtain ⟨v, rfl, hv⟩ := dens1 hd
    cases hv with
    | lst q1 q2 =>
      refine ⟨_, _, d, ds, rfl, .inl (ex_rd g q1), DpAll.l2 _ _ (dpAll_up g _ _ q2), al, dp, lay, fun i x hx hi => k _ _ _ (Gr.refl g) ?_⟩
      obtain ⟨v', h1, h2⟩ := DpAll.get q2 hi
      rw [hx] at h1
      cases h1
      exact h2) (he := he) (hpl := hpl)
theorem pv_minL {d : PyData} {ds : List PyData} (hm : X.mg "min" = none) (hu : X.A.units + 70 < cLine) (ha : Pv X a r (.d (.list (d :: ds)))) (al : PySem.W.AlikeAll (d :: ds)) (dp : PyData.depthAll (d :: ds) ≤ 8) (lay : PyData.canLayAll0 (d :: ds) = true) (hc : X.calm = true := by rfl) (hg : Gl X "min" := by rfl) (he : starEach [a] X.env = (false, eval a X.env) :: starEach [] X.env := by rfl) (hpl : (backTo pos (starEach [] X.env)).any (·.1) = false := by rfl) :
    Pv X (.Call (.Name "min" p) [a] [] pos) r (.d (PySem.W.minD d ds)) :=
  pv_callB (cr_minD hc hu) hg hm PyProof.Rows.boot_min (pa_cons ha pa_nil he) (fun vs G H Q g hd k => by
    obtain ⟨v, rfl, hv⟩ := dens1 hd
    cases hv with
    | lst q1 q2 =>
      refine ⟨_, _, d, ds, rfl, .inl (ex_rd g q1), DpAll.l2 _ _ (dpAll_up g _ _ q2), al, dp, lay, fun i x hx hi => k _ _ _ (Gr.refl g) ?_⟩
      obtain ⟨v', h1, h2⟩ := DpAll.get q2 hi
      rw [hx] at h1
      cases h1
      exact h2) (he := he) (hpl := hpl)
end
end Fb

/-! FbU: walks over a dict with tuple keys (locked meanwhile); list(d), sorted(d); d[k] = v. -/
namespace Fb
open PySem PySem.Spec PyProof.Rows L2 Evl
section
variable {K : PySem.W.Frag} {G G' : Hp} {d : Addr}
/-- what stands at d is exchanged, and is neither a list nor a tuple -/
structure Swp (d : Addr) (G G' : Hp) : Prop where
  ne : ∀ a, a ≠ d → G' a = G a
  nl : ∀ xs, ¬ Rd G d (.lst xs)
  nt : ∀ xs, ¬ Rd G d (.tup xs)
theorem Swp.rd (s : Swp d G G') {a : Addr} {u : HO} (h : Rd G a u) (hn : a ≠ d) : Rd G' a u := by
  rcases h with h | ⟨o, h⟩
  · exact .inl (by rw [s.ne a hn]; exact h)
  · exact .inr ⟨o, by rw [s.ne a hn]; exact h⟩
theorem Swp.t (s : Swp d G G') {a : Addr} {xs : List V} (h : SqT K G a xs) : SqT K G' a xs := by
  rcases h with h | h
  · exact .inl (s.rd h fun z => by subst z; exact s.nt xs h)
  · exact .inr h
theorem Swp.l (s : Swp d G G') {a : Addr} {xs : List V} (h : SqL K G a xs) : SqL K G' a xs := by
  rcases h with h | h
  · exact .inl (s.rd h fun z => by subst z; exact s.nl xs h)
  · exact .inr h
mutual
theorem dp_swp (s : Swp d G G') : ∀ (y : PyData) (v : V), Dp K G v y → Dp K G' v y
  | .none, _, h => by cases h; exact .non
  | .bool _, _, h => by cases h; exact .bl _
  | .int _, _, h => by cases h; exact .int _
  | .str _, _, h => by cases h; exact .str _
  | .list ds, _, h => by
    cases h with
    | lst h1 h2 => exact .lst (s.rd h1 fun z => by subst z; exact s.nl _ h1) (dpAll_swp s ds _ h2)
  | .tuple ds, _, h => by
    cases h with
    | @tup a xs _ h1 h2 =>
      refine .tup ?_ (dpAll_swp s ds _ h2)
      rcases h1 with h1 | ⟨h1, h3⟩
      · exact .inl (by rw [s.ne a fun z => by subst z; exact s.nt _ (.inl h1)]; exact h1)
      · exact .inr ⟨s.t h1, h3⟩
  | .dict _, _, h => nomatch h
theorem dpAll_swp (s : Swp d G G') : ∀ (ys : List PyData) (vs : List V), DpAll K G vs ys → DpAll K G' vs ys
  | [], _, h => by cases h; exact .nil
  | y :: ys, _, h => by
    cases h with
    | cons h1 h2 => exact .cons (dp_swp s y _ h1) (dpAll_swp s ys _ h2)
end
theorem prd_swp (s : Swp d G G') {ws : List (List Key × V)} {kvs : List (List Key × PyData)} (h : PrD K G ws kvs) : PrD K G' ws kvs := L2.Paired.mapP h fun _ _ z => ⟨z.1, dp_swp s _ _ z.2⟩
theorem denF_swp (s : Swp d G G') (ht : ∀ ws, Rd G d (.dT ws) → Rd G' d (.dT ws)) {x : V} : ∀ {y : Fd}, DenF K G x y → DenF K G' x y
  | .d y, h => dp_swp s y x h
  | .t kvs, ⟨a, ws, h1, h2, h3⟩ => ⟨a, ws, h1, (by
      by_cases z : a = d
      · subst z; exact ht _ h2
      · exact s.rd h2 z), prd_swp s h3⟩
theorem den_swp (s : Swp d G G') (ht : ∀ ws, Rd G d (.dT ws) → Rd G' d (.dT ws)) (hk : ∀ ws, ¬ Rd G d (.dK ws)) (hi : ∀ C dx fs, G d ≠ some (.ins C dx fs)) (hz : ∀ o u, G d ≠ some (.frz o u)) {x : V} : ∀ {y : Dn}, Den K G x y → Den K G' x y
  | .d y, h => dp_swp s y x h
  | .t kvs, ⟨a, ws, h1, h2, h3⟩ => ⟨a, ws, h1, (by
      by_cases z : a = d
      · subst z; exact ht _ h2
      · exact s.rd h2 z), prd_swp s h3⟩
  | .k kvs, ⟨a, ws, h1, h2, h3⟩ => ⟨a, ws, h1, s.rd h2 (fun z => by subst z; exact hk _ h2), L2.Paired.mapP h3 fun _ _ z => ⟨z.1, dp_swp s _ _ z.2⟩⟩
  | .v y, h => h
  | .sc ns, ⟨a, h1, h2⟩ => ⟨a, h1, s.l h2⟩
  | .ob p C fs, ⟨dx, ws, h1, h2, h3⟩ => ⟨dx, ws, h1, (by rw [s.ne p fun z => by subst z; exact hi _ _ _ h2]; exact h2), L2.Paired.mapP h3 fun _ _ z => ⟨z.1, denF_swp s ht z.2⟩⟩
  | .z kvs, ⟨a, o, ws, h1, h2, h3⟩ => ⟨a, o, ws, h1, (by rw [s.ne a fun z => by subst z; exact hz _ _ h2]; exact h2), prd_swp s h3⟩
end
theorem swp_t {d : Addr} {G : Hp} {ws : List (List Key × V)} {u : HO} (hd : G d = some (.dT ws)) : Swp d G (upd G d u) := by
  refine ⟨fun a ha => upd_ne ha, fun xs z => ?_, fun xs z => ?_⟩
  · rcases z with z | ⟨o, z⟩
    · rw [hd] at z; cases z
    · rw [hd] at z; cases z
  · rcases z with z | ⟨o, z⟩
    · rw [hd] at z; cases z
    · rw [hd] at z; cases z
theorem swp_z {d : Addr} {G : Hp} {ws : List (List Key × V)} {u : HO} {od : Obj} (hd : G d = some (.frz od (.dT ws))) : Swp d G (upd G d u) := by
  refine ⟨fun a ha => upd_ne ha, fun xs z => ?_, fun xs z => ?_⟩
  · rcases z with z | ⟨o, z⟩
    · rw [hd] at z; cases z
    · rw [hd] at z; cases z
  · rcases z with z | ⟨o, z⟩
    · rw [hd] at z; cases z
    · rw [hd] at z; cases z
section
variable {X : Cx} {a b c e f o : Expr} {es : List Expr} {r : Rho} {d d1 d2 d3 : Dn} {pos p p1 p2 apos cpos : Pos} {k : List Key} {kvs : List (List Key × PyData)}
theorem en_set_den {K : PySem.W.Frag} {G : Hp} {σ : L2.St} {r : Rho} {i : Nat} {d : Dn} {v : V} (n : En K G σ r) (hi : i < r.length) (hv : σ[i]? = some (some v)) (q : Den K G v d) : En K G σ (r.set i (some d)) := by
  refine ⟨by rw [List.length_set]; exact n.len, fun j e hj => ?_⟩
  by_cases hij : i = j
  · subst hij
    rw [List.getElem?_set_self hi] at hj
    cases hj
    exact ⟨v, hv, q⟩
  · rw [List.getElem?_set_ne hij] at hj
    exact n.at_ j e hj
/-- the dict in slot i is locked while e runs -/
theorem pv_lock (i : Nat) {y : PyData} (hi : r[i]? = some (some (.t kvs))) (h : Pv X e (r.set i (some (.z kvs))) (.d y)) : Pv X e r (.d y) := fun σ G H g n => by
  obtain ⟨v, hv, q, ws, rfl, hd, hp⟩ := n.at_ i _ hi
  have hl : i < r.length := (List.getElem?_eq_some_iff.mp hi).1
  rcases hd with hd | ⟨o, hd⟩
  · have hH := g _ _ hd
    refine wE_of (pe_lock pe_w) ⟨q, .dT ws, hH, trivial, fun od => ?_⟩
    have sw : Swp q G (upd G q (.frz od (.dT ws))) := swp_t hd
    have n2 : En X.K (upd G q (.frz od (.dT ws))) σ r := ⟨n.len, fun j dn hj => by
      obtain ⟨u, h1, h2⟩ := n.at_ j dn hj
      refine ⟨u, h1, den_swp sw (fun w z => ?_) (fun w z => ?_) (fun _ _ _ z => by rw [hd] at z; cases z) (fun _ _ z => by rw [hd] at z; cases z) h2⟩
      · rcases z with z | ⟨_, z⟩
        · rw [hd] at z
          cases z
          exact .inr ⟨od, upd_same⟩
        · rw [hd] at z; cases z
      · rcases z with z | ⟨_, z⟩
        · rw [hd] at z; cases z
        · rw [hd] at z; cases z⟩
    have g2 : Ex (upd G q (.frz od (.dT ws))) (upd H q (.frz od (.dT ws))) := fun a u z => by
      by_cases ha : a = q
      · subst ha; rw [upd_same] at z ⊢; exact z
      · rw [upd_ne ha] at z ⊢; exact g a u z
    refine wE_imp (h σ _ _ g2 (en_set_den n2 hl hv ⟨q, od, ws, rfl, upd_same, prd_swp sw hp⟩)) fun v2 H2 ⟨G2, k2, q2⟩ => ?_
    have e2 : G2 q = some (.frz od (.dT ws)) := k2.g _ _ upd_same
    refine ⟨k2.h _ _ upd_same, upd G2 q (.dT ws), ⟨fun a u z => ?_, fun a u z => ?_, fun a u z => ?_, fun a z1 z2 => ?_⟩, ?_⟩
    · by_cases ha : a = q
      · subst ha; rw [upd_same]; rw [hd] at z; exact z
      · rw [upd_ne ha]; exact k2.g a u (by rw [upd_ne ha]; exact z)
    · by_cases ha : a = q
      · subst ha; rw [upd_same] at z ⊢; exact z
      · rw [upd_ne ha] at z ⊢; exact k2.s a u z
    · by_cases ha : a = q
      · subst ha; rw [upd_same]; rw [hH] at z; exact z
      · rw [upd_ne ha]; exact k2.h a u (by rw [upd_ne ha]; exact z)
    · have ha : a ≠ q := fun w => by subst w; rw [hd] at z1; cases z1
      rw [upd_ne ha] at z2
      intro u hu
      exact k2.f a (by rw [upd_ne ha]; exact z1) z2 u (by rw [upd_ne ha]; exact hu)
    · exact dp_swp (swp_z e2) y v2 q2
  · exact h σ G H g (en_set_den n hl hv ⟨q, o, ws, rfl, hd, hp⟩)
/-- for .. in d, d locked: the keys -/
theorem wk_keysZ {tg : Expr} (h : Pv X e r (.z kvs)) : Wk X tg e r (kvs.map fun q => Dn.d (keyD q.1)) := ⟨_, pi_keys pe_w, fun σ G H g n R k => wE_imp (h σ G H g n) fun v H1 ⟨G1, k1, q, o, ws, ev, hq, hp⟩ => by
  have hl := prd_len hp
  refine ⟨q, o, ev, .inr ⟨ws, k1.s _ _ hq, k _ G1 H1 k1 (fun i H2 e2 hi => ⟨e2 _ _ hq, by rw [hl]; simpa using hi⟩) (fun i G2 H2 x H3 e2 s2 y d hd => ?_) (fun i H2 e2 hi => ⟨e2 _ _ hq, by rw [hl]; simpa using hi⟩)⟩⟩
  obtain ⟨rfl, kk, v', b, hi, rfl, hb⟩ := y
  obtain ⟨G3, k3, h3⟩ := Gr.tup s2 hb
  rw [List.getElem?_map] at hd
  have ek : ∃ q', kvs[i]? = some q' ∧ q'.1 = kk := by
    have : ∀ {ws : List (List Key × V)} {kvs : List (List Key × PyData)} {i : Nat} {kk : List Key} {v' : V}, PrD X.K G1 ws kvs → ws[i]? = some (kk, v') → ∃ q', kvs[i]? = some q' ∧ q'.1 = kk := by
      intro ws kvs i kk v' hp
      induction hp generalizing i with
      | nil => intro z; simp at z
      | cons h1 _ ih =>
        intro z
        cases i with
        | zero => simp at z; subst z; exact ⟨_, rfl, h1.1.symm⟩
        | succ i => obtain ⟨q', z1, z2⟩ := ih (by simpa using z); exact ⟨q', by simpa using z1, z2⟩
    exact this hp hi
  obtain ⟨q', e1, e2'⟩ := ek
  rw [e1] at hd
  cases hd
  exact ⟨G3, k3, by show Dp X.K G3 (V.ref b) (keyD q'.1); rw [e2']; exact key_dp h3⟩⟩
theorem keys_in {K : PySem.W.Frag} {G H : Hp} (g : Ex G H) : ∀ {ws : List (List Key × V)} {kvs : List (List Key × PyData)} {bs : List Addr}, PrD K G ws kvs → IsKeys H ws bs → ∃ G2, Gr G H G2 H ∧ DpAll K G2 (bs.map V.ref) (kvs.map fun q => keyD q.1)
  | _, _, _, .nil, h => by cases h; exact ⟨G, Gr.refl g, .nil⟩
  | _, _, _, .cons h1 t, h => by
    cases h with
    | cons hb h =>
      obtain ⟨G2, k2, q2⟩ := keys_in g t h
      obtain ⟨G3, k3, h3⟩ := Gr.tup k2.s hb
      exact ⟨G3, k2.trans k3, .cons (by dsimp only; rw [← h1.1]; exact key_dp h3) (dpAll_up k3.g _ _ q2)⟩
/-- list(d) -/
theorem pv_listT (hm : X.mg "list" = none) (ha : Pv X a r (.t kvs)) (hc : X.calm = true := by rfl) (hg : Gl X "list" := by rfl) (he : starEach [a] X.env = (false, eval a X.env) :: starEach [] X.env := by rfl) (hpl : (backTo pos (starEach [] X.env)).any (·.1) = false := by rfl) :
    Pv X (.Call (.Name "list" p) [a] [] pos) r (.d (.list (kvs.map fun q => keyD q.1))) :=
  pv_callTy (call_list_dT hc) hg hm PyProof.Rows.boot_list (pa_cons ha pa_nil he) (fun vs G H Q g hd k => by
    obtain ⟨v, rfl, q, ws, ev, hq, hp⟩ := dens1 hd
    refine ⟨q, ws, by rw [ev], ex_rd g hq, fun l bs hl hb => ?_⟩
    obtain ⟨G2, k2, q2⟩ := keys_in g hp hb
    exact k _ _ _ (k2.trans (Gr.new k2.s hl)) (Dp.lst (.inl upd_same) (dpAll_up (Ex.new (fresh_back k2.s hl)) _ _ q2))) (he := he) (hpl := hpl)
/-- sorted(d) -/
theorem cr_sortT (hc : X.calm = true) (hu : X.A.units + 70 < cLine) : CallR X (.builtin "sorted") (fun vs H Q => ∃ (d : Addr) (ws : List (List Key × V)), vs = [V.ref d] ∧ Rd H d (.dT ws) ∧ SortOk (ws.map fun q => keyD q.1) ∧
    ∀ (bs : List Addr) (zs : List (V × PyData)) (p : Addr), IsKeys H ws bs → (∀ z ∈ zs, z ∈ (bs.map V.ref).zip (ws.map fun q => keyD q.1)) → zs.map (·.2) = sortD (ws.map fun q => keyD q.1) → H p = none → Q (.ref p) (upd H p (.lst (zs.map (·.1))))) := by
  intro pins s σ H vs us Q I r h
  obtain ⟨d, ws, rfl, hd, ok, q⟩ := h
  obtain ⟨u, rfl, rx⟩ := r.one
  cases rx
  obtain ⟨z, hs, ks, pr, oo, es, ep, ho, hx, hdt, he, hn⟩ := (show ObjOk X.prog X.w H s.heap d (.dT ws) from hd.ok I.hok)
  have l1 : es.size = ks.length := size_of_entries he
  have l2 : ws.length = ks.length := Paired.length pr
  refine Calls.call_function_entry PyProof.Rows.kind_sorted PyProof.Rows.plain_sorted PyProof.Rows.entry_sorted (PyProof.Rows.args_sorted1 _) ?_
  unfold Builtin.«sorted»
  refine wpAny_bind (m := checkCount "sorted" 1 1 _) (wpAny_pure ?_)
  refine wpAny_bind (PySem.W.kdu_collect (A := X.A.in1) (kdl_raw hs hx hdt) (I.ok.hd hc) ho (by omega) fun h' tk acc' kp it => ?_)
  have ea : acc'.toList = ks.map fun x => Value.ref x.2.1 := by
    have hl : acc'.toList.length = ks.length := by rw [Array.length_toList, it.1]; exact l1
    apply List.ext_getElem?
    intro j
    rw [List.getElem?_map]
    cases hj : acc'.toList[j]? with
    | none =>
      have h1 := List.getElem?_eq_none_iff.mp hj
      rw [List.getElem?_eq_none (by omega)]
      all_goals rfl
    | some v =>
      obtain ⟨en, hen, hv⟩ := it.2 j v (by rw [← Array.getElem?_toList]; exact hj)
      have qe := entry_at he j
      rw [hen] at qe
      cases hb : ks[j]? with
      | none =>
        rw [hb] at qe
        exact nomatch (show some en = none from qe)
      | some b =>
        rw [hb] at qe
        have e2 : en = entryOfKey (tupleKind (mixKind X.prog X.w)) b := Option.some.inj qe
        rw [hv, e2]
        all_goals rfl
  have eb : acc'.toList = (ks.map fun x => x.2.1).map Value.ref := by rw [ea, List.map_map]; all_goals rfl
  rw [eb]
  have hik := isKeys_of pr
  generalize hbs : (ks.map fun x => x.2.1) = bs at eb hik
  have rv : Vals (bs.map V.ref) (bs.map Value.ref) := vals_refs bs
  have hbl : bs.length = ks.length := by rw [← hbs, List.length_map]
  have I1 : L2.Inv X pins σ H { s with heap := h', toks := tk } := I.kept kp
  have hD : L2.DpAll X.K H (bs.map V.ref) (ws.map fun q => keyD q.1) := by
    have : ∀ {ws : List (List Key × V)} {bs : List Addr}, IsKeys H ws bs → L2.DpAll X.K H (bs.map V.ref) (ws.map fun q => keyD q.1) := by
      intro ws bs hh
      unfold IsKeys at hh
      induction hh with
      | nil => exact .nil
      | cons h1 _ ih => exact .cons (Dp.l2 _ _ (key_dp h1)) ih
    exact this hik
  obtain ⟨as, hr⟩ := L2.Dp.readsAll I1 _ _ _ hD rv
  have hr : ReadsAll h' (bs.map Value.ref) (ws.map fun q => keyD q.1) as := hr
  obtain ⟨e1, e2⟩ := refs_back rv (dpAll_ref hD ok.tup)
  have O : SrtO.Swo fun v u => ltD (rdV h' v) (rdV h' u) := ⟨fun x y => swo_data.asym _ _, fun x y z => swo_data.tr _ _ _⟩
  refine wpAny_bind (wpAny_newList ?_ (by rw [List.length_map]; omega))
  have hoL : (h'.push (seqObj "list" (bs.map Value.ref).toArray 0)).get? h'.objs.size = some (seqObj "list" (bs.map Value.ref).toArray 0) := Heap.get?_push_size _ rfl
  show wpAny _ _ _ _ _ { s with heap := h'.push (seqObj "list" (bs.map Value.ref).toArray 0), toks := tk }
  have kk : ∀ b o, h'.get? b = some o → b ≠ h'.objs.size ∧ (h'.push (seqObj "list" (bs.map Value.ref).toArray 0)).get? b = some o := fun b o e => ⟨Nat.ne_of_lt (Heap.lt_size e), Heap.get?_push_of_some _ e⟩
  refine wpAny_bind (wpAny_holding (wpAny_call_entry PyProof.Rows.slot_list_sort ⟨_, hoL, rfl⟩ PyProof.Rows.entry_list_sort
    (SrtO.list_sort_ord O (s := { s with heap := h'.push (seqObj "list" (bs.map Value.ref).toArray 0), toks := tk }) hoL (by rw [List.length_map]; omega) (fun h2 => sortable_data (s := { s with heap := h'.push (seqObj "list" (bs.map Value.ref).toArray 0), toks := tk }) hr ok (by omega) (by show X.A.units + 1 + 1 + 64 < cLine; omega) kk) fun out h1 h2 => ⟨_, rfl, ?_⟩)
    (PyProof.Rows.args_list_sort _)))
  obtain ⟨e', he'⟩ := PyProof.Rows.sortedHeap_at (vs := bs.map Value.ref) (out := out.toArray) hoL
  have h3 : ∀ u ∈ out, ∃ a, u = Value.ref a := fun u hu => e2 u (h2.perm.mem_iff.mp hu)
  have hlen : (out.map backV).length ≤ sizeLine := by
    rw [List.length_map, h2.perm.length_eq, List.length_map]
    omega
  have hds : (bs.map Value.ref).map (rdV h') = ws.map fun q => keyD q.1 := by
    have hL : (bs.map Value.ref).length = (ws.map fun q => keyD q.1).length := SeqAt.ReadsAll.length _ _ _ hr
    refine List.ext_getElem? fun i => ?_
    rw [List.getElem?_map]
    cases hi : (bs.map Value.ref)[i]? with
    | none =>
      have : (ws.map fun q => keyD q.1).length ≤ i := by rw [← hL]; exact List.getElem?_eq_none_iff.mp hi
      rw [List.getElem?_eq_none this]
      rfl
    | some v =>
      obtain ⟨d, as', h4, h5⟩ := readsAll_ix hr hi
      rw [h4, Option.map_some, rdV_eq h5 (ok.lay d (List.mem_of_getElem? h4))]
  have hout : out.map (rdV h') = sortD (ws.map fun q => keyD q.1) := by
    rw [← hds]
    exact SrtO.stb_uniq swo_data (SrtO.srtd_map h1) (isort_srtd swo_data _) ((SrtO.Stb.map swo_data (rdV h') h2).trans ⟨(isort_perm _).symm, fun x => ((isort_stb swo_data _).cls x).symm⟩)
  have hq := q bs (out.map fun v => (backV v, rdV h' v)) h'.objs.size hik (fun z hz => ?_) (by rw [List.map_map]; exact hout) (I1.hok.fresh (Nat.le_refl _))
  · rw [List.map_map] at hq
    refine wpAny_pure ⟨_, rfl, .ref h'.objs.size, upd H h'.objs.size (.lst (out.map backV)), I1.laid (t' := tk) (fun b u e => ?_) (Nat.le_refl _) (show ObjOk X.prog X.w _ _ _ (.lst (out.map backV)) from ⟨hlen, out, e', vals_back h3, he'⟩), rfl, hq⟩
    have hb : b < h'.objs.size := Heap.lt_size e
    rw [PyProof.Rows.sortedHeap_old (Nat.ne_of_lt hb) (by rw [size_push']; exact Nat.lt_succ_of_lt hb)]
    exact Heap.get?_push_of_some _ e
  · obtain ⟨v, hv, rfl⟩ := List.mem_map.mp hz
    have hv' : v ∈ bs.map Value.ref := h2.perm.mem_iff.mp hv
    obtain ⟨i, hi⟩ := List.mem_iff_getElem?.mp hv'
    obtain ⟨d, as', h4, h5⟩ := readsAll_ix hr hi
    rw [rdV_eq h5 (ok.lay d (List.mem_of_getElem? h4))]
    refine zip_get (i := i) ?_ h4
    rw [e1, List.getElem?_map, hi]
    rfl
theorem prd_keys {K : PySem.W.Frag} {G : Hp} {ws : List (List Key × V)} {kvs : List (List Key × PyData)} (h : PrD K G ws kvs) : (ws.map fun q => keyD q.1) = kvs.map fun q => keyD q.1 := by
  induction h with
  | nil => rfl
  | cons h1 _ ih => rw [List.map_cons, List.map_cons, ih, h1.1]
theorem pv_sortedT (hm : X.mg "sorted" = none) (hu : X.A.units + 70 < cLine) (ha : Pv X a r (.t kvs)) (ok : SortOk (kvs.map fun q => keyD q.1)) (hc : X.calm = true := by rfl) (hg : Gl X "sorted" := by rfl) (he : starEach [a] X.env = (false, eval a X.env) :: starEach [] X.env := by rfl) (hpl : (backTo pos (starEach [] X.env)).any (·.1) = false := by rfl) :
    Pv X (.Call (.Name "sorted" p) [a] [] pos) r (.d (.list (sortD (kvs.map fun q => keyD q.1)))) :=
  pv_callB (cr_sortT hc hu) hg hm PyProof.Rows.boot_sorted (pa_cons ha pa_nil he) (fun vs G H Q g hd k => by
    obtain ⟨v, rfl, q, ws, ev, hq, hp⟩ := dens1 hd
    have ek := prd_keys hp
    refine ⟨q, ws, by rw [ev], ex_rd g hq, by rw [ek]; exact ok, fun bs zs l hb hz hs hl => ?_⟩
    obtain ⟨G2, k2, q2⟩ := keys_in g hp hb
    rw [ek] at hz hs
    refine k _ _ _ (k2.trans (Gr.new k2.s hl)) (Dp.lst (.inl upd_same) ?_)
    rw [← hs]
    exact dpAll_up (Ex.new (fresh_back k2.s hl)) _ _ (dpAll_pick q2 hz)) (he := he) (hpl := hpl)
end
end Fb

/-! FbV: dicts and lists of a def's own: made, changed, read, handed back. -/
namespace Fb
open PySem PySem.Spec PyProof.Rows L2 Evl
/-- a dict with tuple keys that is owned; a list that is owned -/
structure DtAt (K : PySem.W.Frag) (G H : Hp) (d : Addr) (kvs : List (List Key × PyData)) : Prop where
  no : G d = none
  ex : ∃ ws, H d = some (.dT ws) ∧ PrD K G ws kvs
structure LsAt (K : PySem.W.Frag) (G H : Hp) (d : Addr) (ys : List PyData) : Prop where
  no : G d = none
  ex : ∃ vs, H d = some (.lst vs) ∧ DpAll K G vs ys
section
variable {K : PySem.W.Frag} {G H G2 H2 : Hp} {d l : Addr} {kvs : List (List Key × PyData)} {ys : List PyData} {os : List Addr} {r r' r'' : Rho}
theorem DtAt.frame (A : DtAt K G H d kvs) (k : Gx os G H G2 H2) (hd : d ∉ os) : DtAt K G2 H2 d kvs := by
  obtain ⟨no, ws, h1, h2⟩ := A
  exact ⟨k.out no (some_nt h1), ws, k.h _ _ hd h1, prd_up k.g h2⟩
theorem DtAt.up (A : DtAt K G H d kvs) (k : Gr G H G2 H2) : DtAt K G2 H2 d kvs := A.frame (os := []) k.x (by simp)
theorem LsAt.frame (A : LsAt K G H d ys) (k : Gx os G H G2 H2) (hd : d ∉ os) : LsAt K G2 H2 d ys := by
  obtain ⟨no, ws, h1, h2⟩ := A
  exact ⟨k.out no (some_nt h1), ws, k.h _ _ hd h1, dpAll_up k.g _ _ h2⟩
theorem LsAt.up (A : LsAt K G H d ys) (k : Gr G H G2 H2) : LsAt K G2 H2 d ys := A.frame (os := []) k.x (by simp)
theorem LsAt.is (A : LsAt K G H d ys) {zs : List PyData} (h : ys = zs) : LsAt K G H d zs := h ▸ A
theorem DtAt.is (A : DtAt K G H d kvs) {zs : List (List Key × PyData)} (h : kvs = zs) : DtAt K G H d zs := h ▸ A
theorem DtAt.ne (A : DtAt K G H d kvs) (B : LsAt K G H l ys) : d ≠ l := fun z => by
  subst z
  obtain ⟨_, ws, h1, _⟩ := A
  obtain ⟨_, vs, h2, _⟩ := B
  rw [h1] at h2
  cases h2
/-- one more thing that is owned may be read -/
theorem Own.more {p : Addr} {i : Nat} {d : Dn} {o : HO} (O : Own K os r r' G H) (hp : G p = none) (hi : r'[i]? = some (some (.v (.ref p)))) (ho : H p = some o) (h1 : ∀ xs, o ≠ .tup xs) (h2 : ∀ z u, o ≠ .frz z u) (hd : ∀ G', Ex G G' → G' p = some o → Den K G' (.ref p) d) : Own K (p :: os) r (r'.set i (some d)) G H := by
  refine ⟨fun a ha => ?_, fun a ha => ?_, fun σ n => ?_⟩
  · rcases List.mem_cons.mp ha with rfl | ha
    · exact hp
    · exact O.no a ha
  · rcases List.mem_cons.mp ha with rfl | ha
    · exact ⟨o, ho, h1, h2⟩
    · exact O.ob a ha
  · have n1 := O.en σ n
    have e : Ex (plus G H os) (plus G H (p :: os)) := fun a u h => by
      by_cases ha : a ∈ os
      · rw [plus_in ha] at h
        rw [plus_in (List.mem_cons_of_mem _ ha)]
        exact h
      · rw [plus_out ha] at h
        by_cases hap : a = p
        · subst hap; rw [hp] at h; cases h
        · rw [plus_out (by simp [hap, ha])]; exact h
    refine (n1.up e).re hi (hd _ (plus_g fun a ha => ?_) (by rw [plus_in (by simp)]; exact ho))
    rcases List.mem_cons.mp ha with rfl | ha
    · exact hp
    · exact O.no a ha
theorem DtAt.more {i : Nat} (A : DtAt K G H d kvs) (O : Own K os r r' G H) (hi : r'[i]? = some (some (.v (.ref d)))) : Own K (d :: os) r (r'.set i (some (.t kvs))) G H := by
  obtain ⟨no, ws, h1, h2⟩ := A
  exact O.more no hi h1 (fun _ z => nomatch z) (fun _ _ z => nomatch z) fun G' e q => ⟨d, ws, rfl, .inl q, prd_up e h2⟩
theorem LsAt.more {i : Nat} (A : LsAt K G H d ys) (O : Own K os r r' G H) (hi : r'[i]? = some (some (.v (.ref d)))) : Own K (d :: os) r (r'.set i (some (.d (.list ys)))) G H := by
  obtain ⟨no, ws, h1, h2⟩ := A
  exact O.more no hi h1 (fun _ z => nomatch z) (fun _ _ z => nomatch z) fun G' e q => Dp.lst (.inl q) (dpAll_up e _ _ h2)
theorem DtAt.own {i : Nat} (A : DtAt K G H d kvs) (hi : r[i]? = some (some (.v (.ref d)))) : Own K [d] r (r.set i (some (.t kvs))) G H := A.more Own.refl hi
theorem LsAt.own {i : Nat} (A : LsAt K G H d ys) (hi : r[i]? = some (some (.v (.ref d)))) : Own K [d] r (r.set i (some (.d (.list ys)))) G H := A.more Own.refl hi
/-- handed back -/
theorem Gr.give {p : Addr} {o : HO} {G0 H0 : Hp} (k : Gr G0 H0 G H) (hp : H0 p = none) (hG : G p = none) (ho : H p = some o) : Gr G0 H0 (L2.upd G p o) H := by
  refine ⟨k.g.trans (Ex.new hG), fun a u h => ?_, k.h, fun a h1 h2 => ?_⟩
  · by_cases ha : a = p
    · subst ha; rw [upd_same] at h; rw [ho]; exact h
    · rw [upd_ne ha] at h; exact k.s a u h
  · by_cases ha : a = p
    · subst ha; exact .of hp
    · rw [upd_ne ha] at h2; exact k.f a h1 h2
theorem DtAt.give {G0 H0 : Hp} (A : DtAt K G H d kvs) (k : Gr G0 H0 G H) (hp : H0 d = none) : ∃ G', Gr G0 H0 G' H ∧ Den K G' (.ref d) (.t kvs) := by
  obtain ⟨no, ws, h1, h2⟩ := A
  exact ⟨_, k.give hp no h1, d, ws, rfl, .inl upd_same, prd_up (Ex.new no) h2⟩
theorem LsAt.give {G0 H0 : Hp} (A : LsAt K G H d ys) (k : Gr G0 H0 G H) (hp : H0 d = none) : ∃ G', Gr G0 H0 G' H ∧ Dp K G' (.ref d) (.list ys) := by
  obtain ⟨no, ws, h1, h2⟩ := A
  exact ⟨_, k.give hp no h1, Dp.lst (.inl upd_same) (dpAll_up (Ex.new no) _ _ h2)⟩
theorem DtAt.new (g : Ex G H) (h : H d = none) : DtAt K G (upd H d (.dT [])) d [] := ⟨fresh_back g h, [], upd_same, .nil⟩
theorem LsAt.new (g : Ex G H) (h : H d = none) : LsAt K G (upd H d (.lst [])) d [] := ⟨fresh_back g h, [], upd_same, .nil⟩
end
section
variable {X : Cx} {a b c e o i : Expr} {es : List Expr} {sts ss rest : List Stmt} {r r' : Rho} {pos p p1 p2 p3 p4 apos cpos : Pos} {D : Ends} {G0 H0 G H : Hp} {W : WX} {Q : V → Hp → Hp → Prop} {os : List Addr} {d : Addr} {kvs : List (List Key × PyData)} {ys : List PyData}
/-- x = {}, x = [] -/
theorem gx_newD (j : Nat) {x : Str} {p' : Pos} (h : ∀ d G1 H1, H0 d = none → Gx [] G0 H0 G1 H1 → DtAt X.K G1 H1 d [] → Go X rest D G1 H1 (r.set j (some (.v (.ref d))))) (hN : X.N.Nodup) (hi : X.N[j]? = some x := by rfl) (hx : Loc X.env.scope x := by first | exact Or.inl rfl | exact Or.inr rfl)
    (hs : swapsWith (.Dict [] [] p) (some (.Name x p')) pos.line X.env = pure false := by rfl) (hf : X.fn x = true ∨ X.env.scope.names.lookup x = some .local := by first | exact .inl rfl | exact .inr rfl) : Go X (.Assign [.Name x p'] (.Dict [] [] p) pos :: rest) D G0 H0 r :=
  gx_set j (fun G H g => fx_newD g.s fun l hl => ⟨.v (.ref l), rfl, h l G _ (fresh_back g.h hl) (g.x.trans (Gx.lay g.s hl)) (DtAt.new g.s hl)⟩) hN hi hx hs hf
theorem gx_newL (j : Nat) {x : Str} {p' : Pos} (h : ∀ d G1 H1, H0 d = none → Gx [] G0 H0 G1 H1 → LsAt X.K G1 H1 d [] → Go X rest D G1 H1 (r.set j (some (.v (.ref d))))) (hN : X.N.Nodup) (hi : X.N[j]? = some x := by rfl) (hx : Loc X.env.scope x := by first | exact Or.inl rfl | exact Or.inr rfl)
    (hs : swapsWith (.List [] p) (some (.Name x p')) pos.line X.env = pure false := by rfl) (hf : X.fn x = true ∨ X.env.scope.names.lookup x = some .local := by first | exact .inl rfl | exact .inr rfl) : Go X (.Assign [.Name x p'] (.List [] p) pos :: rest) D G0 H0 r :=
  gx_set j (fun G H g => fx_newL g.s fun l hl => ⟨.v (.ref l), rfl, h l G _ (fresh_back g.h hl) (g.x.trans (Gx.lay g.s hl)) (LsAt.new g.s hl)⟩) hN hi hx hs hf
/-- d[k] = e -/
theorem gx_putT {k : List Key} {y : PyData} {p' : Pos} (hu : X.A.units + 1 < cLine) (A : DtAt X.K G0 H0 d kvs) (O : ∀ G H, Gr G0 H0 G H → Own X.K os r r' G H) (hv : Pv X e r' (.d y)) (hy : imm y = true) (ho : Pv X o r (.v (.ref d))) (hi : Pv X i r (.d (keyD k))) (hk : kInt k = true) (hl : kvs.length ≤ 100000)
    (h : ∀ G1 H1, Gx [d] G0 H0 G1 H1 → DtAt X.K G1 H1 d (putA kvs k y) → Go X rest D G1 H1 r) (hs : swapsWith e (some (.Subscript o i p')) pos.line X.env = pure false := by rfl) : Go X (.Assign [.Subscript o i p'] e pos :: rest) D G0 H0 r := fun σ G H g n => by
  have O1 := O G H g
  refine wSs_of (pss_cons (ps_dput hu pe_w pe_w pe_w hs) pss_w) (wE_imp (hv σ _ H (plus_s g.s) (O1.en σ n)) fun v H1 ⟨G1', k1', q1'⟩ => ?_)
  have k1 := own_back O1.no k1'
  have q1 := O1.tup k1' hy q1'
  refine wE_imp (ho σ _ H1 k1.s (n.up k1.g)) fun x H2 ⟨G2, k2, q2⟩ => wE_imp (hi σ G2 H2 k2.s ((n.up k1.g).up k2.g)) fun z H3 ⟨G3, k3, q3⟩ => ?_
  obtain rfl : x = .ref d := q2
  obtain ⟨b, rfl, hb⟩ := key_tr hk q3
  have gg := ((g.trans k1).trans k2).trans k3
  obtain ⟨no, ws, h1, h2⟩ := A.up gg
  have hlen := prd_len h2
  refine ⟨d, _, rfl, DPut.t h1 (k3.s _ _ hb) (by rw [hlen, sizeLine_eq]; omega), ?_⟩
  refine h G3 _ (gg.x.trans (Gx.set k3.s (by simp) no)) ⟨no, _, upd_same, prd_put h2 k (dp_up (k2.g.trans k3.g) _ _ q1)⟩ σ G3 _ (Gr.refl (k3.s.mut no)) (((n.up k1.g).up k2.g).up k3.g)
/-- l.append(e) -/
theorem gx_append {y : PyData} (A : LsAt X.K G0 H0 d ys) (O : ∀ G H, Gr G0 H0 G H → Own X.K os r r' G H) (hv : Pv X e r' (.d y)) (hy : imm y = true) (ho : Pv X o r (.v (.ref d))) (hl : ys.length ≤ 100000)
    (h : ∀ G1 H1, Gx [d] G0 H0 G1 H1 → LsAt X.K G1 H1 d (ys ++ [y]) → Go X rest D G1 H1 r)
    (hbase : attributeBase o "append" X.env (eval o X.env) = eval o X.env := by rfl)
    (hfew : ((backTo cpos (starEach [e] X.env)).all (fun x => !x.1) && (backToKw cpos (keywordEach [] X.env)).all (fun x => x.1.isSome) && decide ([e].length + ([] : List Keyword).length + (if ([] : List Keyword).isEmpty then 0 else 1) < 30)) = true := by rfl)
    (hline : (apos.endLine == cpos.line) = true := by rfl) (hs : starEach [e] X.env = (false, eval e X.env) :: starEach [] X.env := by rfl) (hplain : (backTo cpos (starEach [] X.env)).any (·.1) = false := by rfl)
    (hsw : swapsWith (.Call (.Attribute o "append" apos) [e] [] cpos) none pos.line X.env = pure false := by rfl) :
    Go X (.Expr (.Call (.Attribute o "append" apos) [e] [] cpos) pos :: rest) D G0 H0 r :=
  gx_expr (fun G H g => fx_append (fx_pv g.s ho fun v G1 H1 g1 q1 => by
    obtain rfl : v = .ref d := q1
    have A1 := (A.up g).up g1
    obtain ⟨no, vs, h1, h2⟩ := A1
    refine ⟨d, vs, rfl, h1, fx_own g1.s (O G1 H1 (g.trans g1)) hv hy fun yv G2 H2 g2 q2 => ?_⟩
    have no2 := g2.out no (some_nt h1)
    have hlen := DpAll.len h2
    refine ⟨vs, g2.h _ _ h1, by rw [hlen, sizeLine_eq]; omega, no2, h G2 _ (((g.trans g1).trans g2).x.trans (Gx.set g2.s (by simp) no2)) ⟨no2, _, upd_same, DpAll.app (dpAll_up g2.g _ _ h2) (.cons q2 .nil)⟩⟩) hbase hfew hline hs hplain) hsw
/-- x = e, what is owned being read -/
theorem gx_let (j : Nat) {x : Str} {p' : Pos} {y : PyData} (O : ∀ G H, Gr G0 H0 G H → Own X.K os r r' G H) (he : Pv X e r' (.d y)) (hy : imm y = true) (h : ∀ G1 H1, Gr G0 H0 G1 H1 → Go X rest D G1 H1 (r.set j (some (.d y)))) (hN : X.N.Nodup) (hi : X.N[j]? = some x := by rfl) (hx : Loc X.env.scope x := by first | exact Or.inl rfl | exact Or.inr rfl)
    (hs : swapsWith e (some (.Name x p')) pos.line X.env = pure false := by rfl) (hf : X.fn x = true ∨ X.env.scope.names.lookup x = some .local := by first | exact .inl rfl | exact .inr rfl) : Go X (.Assign [.Name x p'] e pos :: rest) D G0 H0 r :=
  gx_set j (fun G H g => fx_own g.s (O G H g) he hy fun v G1 H1 g1 q1 => ⟨.d y, q1, h G1 H1 (g.trans g1)⟩) hN hi hx hs hf
/-- if c: .., what is owned being read -/
theorem gx_test {q : Bool} (O : ∀ G H, Gr G0 H0 G H → Own X.K os r r' G H) (hc : Pt X c r' q) (h1 : q = true → ∀ G1 H1, Gr G0 H0 G1 H1 → Go X ss { D with nx := wSs X rest D } G1 H1 r) (h2 : q = false → ∀ G1 H1, Gr G0 H0 G1 H1 → Go X rest D G1 H1 r) : Go X (.If c ss [] pos :: rest) D G0 H0 r :=
  gx_when fun G H g => ft_own g.s (O G H g) hc fun G1 H1 g1 => ⟨fun z => h1 z G1 H1 (g.trans g1), fun z => h2 z G1 H1 (g.trans g1)⟩
/-- return e, what is owned being read -/
theorem gx_retO {y : PyData} (O : ∀ G H, Gr G0 H0 G H → Own X.K os r r' G H) (he : Pv X e r' (.d y)) (hy : imm y = true) (h : ∀ v G1 H1, Gr G0 H0 G1 H1 → Dp X.K G1 v y → D.rt v H1) : Go X (.Return (some e) pos :: rest) D G0 H0 r :=
  gx_ret fun G H g => fx_own g.s (O G H g) he hy fun v G1 H1 g1 q1 => h v G1 H1 (g.trans g1) q1
/-- the growth so far forgotten -/
theorem Go.at (h : Go X sts D G0 H0 r) {G1 H1 : Hp} (k : Gr G0 H0 G1 H1) : Go X sts D G1 H1 r := fun σ G H g n => h σ G H (k.trans g) n
end
end Fb

/-! FbP: facts, wishes, plans as plain Lean. -/
namespace Fb
open PySem PySem.Spec PyProof.Rows L2 Evl
abbrev Pr := Int × Int
structure Wsh where
  name : Str
  room : Int
  hour : Int
  long : Int
  rank : Int
deriving DecidableEq
inductive Fct where
  | off (b : Pr)
  | pin (b m p : Pr)
  | wish (b m : Pr) (w : Wsh)
deriving DecidableEq
def prD (p : Pr) : PyData := .tuple [.int p.1, .int p.2]
def wshD (w : Wsh) : PyData := .tuple [.str w.name, .int w.room, .int w.hour, .int w.long, .int w.rank]
def Fct.d : Fct → PyData
  | .off b => .tuple [.str "off", prD b]
  | .pin b m p => .tuple [.str "pin", prD b, prD m, prD p]
  | .wish b m w => .tuple [.str "wish", prD b, prD m, wshD w]
def Fct.bk : Fct → Pr
  | .off b => b
  | .pin b _ _ => b
  | .wish b _ _ => b
def kB (b : Pr) : List Key := [.inl b.1, .inl b.2]
theorem keyD_kB (b : Pr) : keyD (kB b) = prD b := rfl
theorem kInt_kB (b : Pr) : kInt (kB b) = true := rfl
theorem kB_inj {a b : Pr} (h : kB a = kB b) : a = b := by
  unfold kB at h
  simp only [List.cons.injEq, Sum.inl.injEq, and_true] at h
  exact Prod.ext h.1 h.2
/-! ### facts that are some -/
structure WshOk (r : Int) (w : Wsh) : Prop where
  name : isName (.str w.name) = true
  room : 0 ≤ w.room ∧ w.room ≤ r - 1
  hour : 0 ≤ w.hour ∧ w.hour ≤ 24 - w.long
  long : 1 ≤ w.long ∧ w.long ≤ 6
  rank : 0 ≤ w.rank ∧ w.rank ≤ 9
def BkgOk (c : Int) (b : Pr) : Prop := 0 ≤ b.1 ∧ b.1 ≤ c - 1 ∧ 0 ≤ b.2 ∧ b.2 ≤ 11
def MomOk (c : Int) (m : Pr) : Prop := 1 ≤ m.1 ∧ m.1 ≤ 9999 ∧ 0 ≤ m.2 ∧ m.2 ≤ c - 1
def FctOk (c r : Int) : Fct → Prop
  | .off b => BkgOk c b
  | .pin b m p => BkgOk c b ∧ MomOk c m ∧ 0 ≤ p.1 ∧ p.1 ≤ r - 1 ∧ 0 ≤ p.2 ∧ p.2 ≤ 23
  | .wish b m w => BkgOk c b ∧ MomOk c m ∧ WshOk r w ∧ m.2 = b.1
theorem within_iff {i lo hi : Int} : within (.int i) lo hi = true ↔ lo ≤ i ∧ i ≤ hi := by
  show (decide (lo ≤ i) && decide (i ≤ hi)) = true ↔ _
  rw [Bool.and_eq_true, decide_eq_true_iff, decide_eq_true_iff]
theorem isBooking_iff {c : Int} {b : Pr} : isBooking c (prD b) = true ↔ BkgOk c b := by
  show (within (.int b.1) 0 (c - 1) && within (.int b.2) 0 11) = true ↔ _
  rw [Bool.and_eq_true, within_iff, within_iff]
  unfold BkgOk
  constructor
  · rintro ⟨⟨a, b⟩, c, d⟩; exact ⟨a, b, c, d⟩
  · rintro ⟨a, b, c, d⟩; exact ⟨⟨a, b⟩, c, d⟩
theorem booking_of {c : Int} {y : PyData} (h : isBooking c y = true) : ∃ b, y = prD b ∧ BkgOk c b := by
  unfold isBooking at h
  split at h
  · rw [Bool.and_eq_true] at h
    obtain ⟨i, rfl, i1, i2⟩ := within_int h.1
    obtain ⟨j, rfl, j1, j2⟩ := within_int h.2
    exact ⟨(i, j), rfl, i1, i2, j1, j2⟩
  · cases h
theorem isWish_iff {r : Int} {w : Wsh} : isWish r (wshD w) = true ↔ WshOk r w := by
  show (isName (.str w.name) && (decide (1 ≤ w.long) && decide (w.long ≤ 6)) && ((within (.int w.room) 0 (r - 1) && within (.int w.hour) 0 (24 - w.long)) && within (.int w.rank) 0 9)) = true ↔ _
  simp only [Bool.and_eq_true, within_iff, decide_eq_true_iff]
  constructor
  · rintro ⟨⟨a, b⟩, ⟨c, d⟩, e⟩; exact ⟨a, c, d, b, e⟩
  · rintro ⟨a, c, d, b, e⟩; exact ⟨⟨a, b⟩, ⟨c, d⟩, e⟩
theorem wish_of {r : Int} {y : PyData} (h : isWish r y = true) : ∃ w, y = wshD w ∧ WshOk r w := by
  have h0 := h
  unfold isWish at h
  split at h
  · rename_i nm room hour long rank
    simp only [Bool.and_eq_true] at h
    obtain ⟨⟨h1, _⟩, h2, h3⟩ := h
    unfold isPlace at h2
    rw [Bool.and_eq_true] at h2
    obtain ⟨i, rfl, _⟩ := within_int h2.1
    obtain ⟨j, rfl, _⟩ := within_int h2.2
    obtain ⟨k, rfl, _⟩ := within_int h3
    unfold isName at h1
    split at h1
    · rename_i z
      exact ⟨⟨z, i, j, long, k⟩, rfl, isWish_iff.mp h0⟩
    · cases h1
  · cases h
theorem isFact_iff {c r : Int} {f : Fct} : isFact c r f.d = true ↔ FctOk c r f := by
  cases f with
  | off b =>
    show (decide (("off" : Str) = "off") && isBooking c (prD b)) = true ↔ _
    rw [decide_eq_true rfl, Bool.true_and]
    exact isBooking_iff
  | pin b m p =>
    show (isBooking c (prD b) && isMoment c (prD m) && (decide (("pin" : Str) = "wish") && (isWish r (prD p) && sameCopy (prD m) (prD b)) || decide (("pin" : Str) = "pin") && isSpot r (prD p))) = true ↔ _
    rw [decide_eq_true (p := ("pin" : Str) = "pin") rfl, decide_eq_false (p := ("pin" : Str) = "wish") (by decide +kernel), Bool.false_and, Bool.false_or, Bool.true_and]
    rw [show isMoment c (prD m) = (within (.int m.1) 1 9999 && within (.int m.2) 0 (c - 1)) from rfl, show isSpot r (prD p) = (within (.int p.1) 0 (r - 1) && within (.int p.2) 0 (24 - 1)) from rfl]
    simp only [Bool.and_eq_true, within_iff, isBooking_iff]
    unfold FctOk MomOk
    constructor
    · rintro ⟨⟨a, ⟨b1, b2⟩, b3, b4⟩, ⟨c1, c2⟩, c3, c4⟩; exact ⟨a, ⟨b1, b2, b3, b4⟩, c1, c2, c3, by omega⟩
    · rintro ⟨a, ⟨b1, b2, b3, b4⟩, c1, c2, c3, c4⟩; exact ⟨⟨a, ⟨b1, b2⟩, b3, b4⟩, ⟨c1, c2⟩, c3, by omega⟩
  | wish b m w =>
    show (isBooking c (prD b) && isMoment c (prD m) && (decide (("wish" : Str) = "wish") && (isWish r (wshD w) && sameCopy (prD m) (prD b)) || decide (("wish" : Str) = "pin") && isSpot r (wshD w))) = true ↔ _
    rw [decide_eq_true (p := ("wish" : Str) = "wish") rfl, decide_eq_false (p := ("wish" : Str) = "pin") (by decide +kernel), Bool.false_and, Bool.or_false, Bool.true_and]
    rw [show isMoment c (prD m) = (within (.int m.1) 1 9999 && within (.int m.2) 0 (c - 1)) from rfl, show sameCopy (prD m) (prD b) = decide (m.2 = b.1) from rfl]
    simp only [Bool.and_eq_true, within_iff, isBooking_iff, isWish_iff, decide_eq_true_iff]
    unfold FctOk MomOk
    constructor
    · rintro ⟨⟨a, ⟨b1, b2⟩, b3, b4⟩, c1, c2⟩; exact ⟨a, ⟨b1, b2, b3, b4⟩, c1, c2⟩
    · rintro ⟨a, ⟨b1, b2, b3, b4⟩, c1, c2⟩; exact ⟨⟨a, ⟨b1, b2⟩, b3, b4⟩, c1, c2⟩
theorem fact_of {c r : Int} {y : PyData} (h : isFact c r y = true) : ∃ f : Fct, y = f.d ∧ FctOk c r f := by
  have h0 := h
  unfold isFact at h
  split at h
  · rw [Bool.and_eq_true, decide_eq_true_iff] at h
    obtain ⟨b, rfl, hb⟩ := booking_of h.2
    rw [h.1]
    exact ⟨.off b, rfl, hb⟩
  · rename_i z q m t
    have h' := h
    rw [Bool.and_eq_true, Bool.and_eq_true] at h
    obtain ⟨⟨h1, h2⟩, h3⟩ := h
    obtain ⟨b, rfl, hb⟩ := booking_of h1
    unfold isMoment at h2
    split at h2
    · rw [Bool.and_eq_true] at h2
      obtain ⟨i, rfl, i1, i2⟩ := within_int h2.1
      obtain ⟨j, rfl, j1, j2⟩ := within_int h2.2
      rw [Bool.or_eq_true, Bool.and_eq_true, Bool.and_eq_true, Bool.and_eq_true, decide_eq_true_iff, decide_eq_true_iff] at h3
      rcases h3 with ⟨rfl, h4, h5⟩ | ⟨rfl, h4⟩
      · obtain ⟨w, rfl, hw⟩ := wish_of h4
        exact ⟨.wish b (i, j) w, rfl, isFact_iff.mp h0⟩
      · unfold isSpot at h4
        split at h4
        · unfold isPlace at h4
          rw [Bool.and_eq_true] at h4
          obtain ⟨k, rfl, _⟩ := within_int h4.1
          obtain ⟨l, rfl, _⟩ := within_int h4.2
          exact ⟨.pin b (i, j) (k, l), rfl, isFact_iff.mp h0⟩
        · cases h4
    · cases h2
  · cases h
theorem facts_of {c r : Int} : ∀ {ys : List PyData}, (∀ y ∈ ys, isFact c r y = true) → ∃ fs : List Fct, ys = fs.map Fct.d ∧ ∀ f ∈ fs, FctOk c r f
  | [], _ => ⟨[], rfl, fun _ h => by cases h⟩
  | y :: ys, h => by
    obtain ⟨f, rfl, hf⟩ := fact_of (h y List.mem_cons_self)
    obtain ⟨fs, rfl, hfs⟩ := facts_of fun z hz => h z (List.mem_cons_of_mem _ hz)
    exact ⟨f :: fs, rfl, fun g hg => by
      rcases List.mem_cons.mp hg with rfl | hg
      · exact hf
      · exact hfs g hg⟩
/-! ### equality of data -/
theorem eqv_pr (a b : Pr) : PyData.eqv (prD a) (prD b) = decide (a = b) := by
  obtain ⟨a1, a2⟩ := a
  obtain ⟨b1, b2⟩ := b
  simp only [prD, PyData.eqv, PyData.eqvAll, Bool.and_true]
  rw [Bool.eq_iff_iff]
  simp [Prod.ext_iff]
theorem eqv_wsh (a b : Wsh) : PyData.eqv (wshD a) (wshD b) = decide (a = b) := by
  obtain ⟨a1, a2, a3, a4, a5⟩ := a
  obtain ⟨b1, b2, b3, b4, b5⟩ := b
  simp only [wshD, PyData.eqv, PyData.eqvAll, Bool.and_true]
  rw [Bool.eq_iff_iff]
  simp [and_assoc]
theorem word_ne : (("off" : Str) == "pin") = false ∧ (("off" : Str) == "wish") = false ∧ (("pin" : Str) == "wish") = false ∧ (("pin" : Str) == "off") = false ∧ (("wish" : Str) == "off") = false ∧ (("wish" : Str) == "pin") = false := by decide +kernel
theorem eqv_fct (f g : Fct) : PyData.eqv f.d g.d = decide (f = g) := by
  obtain ⟨w1, w2, w3, w4, w5, w6⟩ := word_ne
  cases f <;> cases g <;> simp only [Fct.d, PyData.eqv, PyData.eqvAll, w1, w2, w3, w4, w5, w6, Bool.false_and, Bool.and_true] <;> first | (rw [eqv_pr, eqv_pr, eqv_pr, Bool.eq_iff_iff]; simp) | (rw [eqv_pr, eqv_pr, eqv_wsh, Bool.eq_iff_iff]; simp) | (rw [eqv_pr, Bool.eq_iff_iff]; simp) | (symm; exact decide_eq_false (fun z => nomatch z))
theorem any_eqv_fct (g : Fct) (fs : List Fct) : ((fs.map Fct.d).any fun z => PyData.eqv z g.d) = decide (g ∈ fs) := by
  rw [List.any_map, Bool.eq_iff_iff, List.any_eq_true, decide_eq_true_iff]
  constructor
  · rintro ⟨f, hf, h⟩
    simp only [Function.comp, eqv_fct, decide_eq_true_iff] at h
    exact h ▸ hf
  · intro h
    exact ⟨g, h, by simp only [Function.comp, eqv_fct, decide_eq_true_iff]⟩
theorem any_eqv_pr (b : Pr) (l : List Pr) : ((l.map prD).any fun z => PyData.eqv z (prD b)) = decide (b ∈ l) := by
  rw [List.any_map, Bool.eq_iff_iff, List.any_eq_true, decide_eq_true_iff]
  constructor
  · rintro ⟨f, hf, h⟩
    simp only [Function.comp, eqv_pr, decide_eq_true_iff] at h
    exact h ▸ hf
  · intro h
    exact ⟨b, h, by simp only [Function.comp, eqv_pr, decide_eq_true_iff]⟩
/-! ### good data -/
theorem gd_int (i : Int) : Good (.int i) := ⟨rfl, rfl, by simp [PyData.depth]⟩
theorem gd_small {z : Str} (h : z.cps.toList.all (fun c => decide (c ∈ smallTxt.cps.toList)) = true) : Good (.str z) := by
  refine ⟨rfl, ?_, by simp [PyData.depth]⟩
  show PyData.strOk z = true
  have hs : smallTxt.cps.toList.all (fun c => decide (c < 0x110000)) = true := by decide +kernel
  rw [List.all_eq_true] at h hs
  unfold PyData.strOk
  rw [← Array.all_toList, List.all_eq_true]
  intro c hc
  exact hs c (by simpa using h c hc)
theorem good_pr (b : Pr) : Good (prD b) := good_tup (by intro x hx; simp at hx; rcases hx with rfl | rfl <;> exact gd_int _) (by simp [PyData.depthAll, PyData.depth])
theorem dep_pr (b : Pr) : (prD b).depth ≤ 2 := by simp [prD, PyData.depth, PyData.depthAll]
theorem dep_wsh (w : Wsh) : (wshD w).depth ≤ 2 := by simp [wshD, PyData.depth, PyData.depthAll]
theorem gd_name {z : Str} (h : isName (.str z) = true) : Good (.str z) := by
  have h1 : (decide (1 ≤ (z.length : Int)) && decide ((z.length : Int) ≤ 4) && z.cps.toList.all fun c => decide (c ∈ smallTxt.cps.toList)) = true := h
  simp only [Bool.and_eq_true] at h1
  exact gd_small (by simpa using h1.2)
theorem good_wsh {r : Int} {w : Wsh} (h : WshOk r w) : Good (wshD w) := by
  have gz := gd_name h.name
  exact good_tup (by intro x hx; simp at hx; rcases hx with rfl | rfl | rfl | rfl | rfl <;> first | exact gz | exact gd_int _) (by simp [PyData.depthAll, PyData.depth])
theorem gd_word {z : Str} (h : z = "wish" ∨ z = "pin" ∨ z = "off") : Good (.str z) := by
  rcases h with rfl | rfl | rfl <;> exact ⟨rfl, by decide +kernel, by simp [PyData.depth]⟩
theorem dep_fct (f : Fct) : f.d.depth ≤ 4 := by
  cases f <;> simp only [Fct.d, PyData.depth, PyData.depthAll] <;> simp only [prD, wshD, PyData.depth, PyData.depthAll] <;> decide
theorem good_fct {c r : Int} {f : Fct} (h : FctOk c r f) : Good f.d := by
  cases f with
  | off b => exact good_tup (by intro x hx; simp at hx; rcases hx with rfl | rfl; exact gd_word (.inr (.inr rfl)); exact good_pr _) (by simp [PyData.depthAll, PyData.depth, prD])
  | pin b m p => exact good_tup (by intro x hx; simp at hx; rcases hx with rfl | rfl | rfl | rfl; exact gd_word (.inr (.inl rfl)); exact good_pr _; exact good_pr _; exact good_pr _) (by simp [PyData.depthAll, PyData.depth, prD])
  | wish b m w => exact good_tup (by intro x hx; simp at hx; rcases hx with rfl | rfl | rfl | rfl; exact gd_word (.inl rfl); exact good_pr _; exact good_pr _; exact good_wsh h.2.2.1) (by simp [PyData.depthAll, PyData.depth, prD, wshD])
theorem alike_pr (a b : Pr) : PySem.W.alike (prD a) (prD b) = true := by simp [prD, PySem.W.alike, PySem.W.alikeAll]
theorem alike_wsh (a b : Wsh) : PySem.W.alike (wshD a) (wshD b) = true := by simp [wshD, PySem.W.alike, PySem.W.alikeAll]
/-- facts can be sorted -/
theorem sortOk_fct {c r : Int} {fs : List Fct} (h : ∀ f ∈ fs, FctOk c r f) : SortOk (fs.map Fct.d) := by
  have items : ∀ f : Fct, ∃ s x, f.d = .tuple (.str s :: x) := fun f => by cases f <;> exact ⟨_, _, rfl⟩
  refine ⟨fun d hd => ?_, fun d hd => ?_, fun d hd => ?_, fun x r y q hx hy => ?_, fun xs ys hx hy => ?_⟩
  · obtain ⟨f, _, rfl⟩ := List.mem_map.mp hd
    obtain ⟨s, x, e⟩ := items f
    exact ⟨_, _, e⟩
  · obtain ⟨f, hf, rfl⟩ := List.mem_map.mp hd
    exact (good_fct (h f hf)).lay
  · obtain ⟨f, hf, rfl⟩ := List.mem_map.mp hd
    exact (good_fct (h f hf)).dp
  · obtain ⟨f, _, e1⟩ := List.mem_map.mp hx
    obtain ⟨g, _, e2⟩ := List.mem_map.mp hy
    obtain ⟨s, z, e3⟩ := items f
    obtain ⟨t, z', e4⟩ := items g
    rw [e3] at e1
    rw [e4] at e2
    cases e1
    cases e2
    rfl
  · obtain ⟨f, _, e1⟩ := List.mem_map.mp hx
    obtain ⟨g, _, e2⟩ := List.mem_map.mp hy
    obtain ⟨w1, w2, w3, w4, w5, w6⟩ := word_ne
    cases f <;> cases g <;> (cases e1; cases e2; simp [cmpT, PySem.W.alike, PyData.eqv, alike_pr, alike_wsh, w1, w2, w3, w4, w5, w6])
/-- pairs can be sorted -/
theorem sortOk_pr (l : List Pr) : SortOk (l.map prD) := by
  refine ⟨fun d hd => ?_, fun d hd => ?_, fun d hd => ?_, fun x r y q hx hy => ?_, fun xs ys hx hy => ?_⟩
  · obtain ⟨f, _, rfl⟩ := List.mem_map.mp hd
    exact ⟨_, _, rfl⟩
  · obtain ⟨f, hf, rfl⟩ := List.mem_map.mp hd
    exact (good_pr f).lay
  · obtain ⟨f, hf, rfl⟩ := List.mem_map.mp hd
    exact (good_pr f).dp
  · obtain ⟨f, _, e1⟩ := List.mem_map.mp hx
    obtain ⟨g, _, e2⟩ := List.mem_map.mp hy
    cases e1
    cases e2
    rfl
  · obtain ⟨f, _, e1⟩ := List.mem_map.mp hx
    obtain ⟨g, _, e2⟩ := List.mem_map.mp hy
    cases e1
    cases e2
    exact alike_cmpT (by simp [PySem.W.alike, PySem.W.alikeAll])
def ltP2 (a b : Pr) : Bool := decide (a.1 < b.1 ∨ a.1 = b.1 ∧ a.2 < b.2)
def ltFc (f g : Fct) : Bool := ltD f.d g.d
theorem lt_pr (a b : Pr) : ltD (prD a) (prD b) = ltP2 a b := by
  show PyProof.Rows.lexLt itemOrd _ _ = _
  simp only [prD, PySem.W.keyToks, PySem.W.keyToksAll, List.cons_append, List.nil_append]
  rw [show PyProof.Rows.lexLt itemOrd (Sum.inl 1 :: Sum.inl a.1 :: [Sum.inl 1, Sum.inl a.2, Sum.inl 0]) (Sum.inl 1 :: Sum.inl b.1 :: [Sum.inl 1, Sum.inl b.2, Sum.inl 0]) = PyProof.Rows.lexLt itemOrd (Sum.inl a.1 :: [Sum.inl 1, Sum.inl a.2, Sum.inl 0]) (Sum.inl b.1 :: [Sum.inl 1, Sum.inl b.2, Sum.inl 0]) from lex_self (O := itemOrd) _ _ _]
  unfold ltP2
  by_cases h1 : a.1 = b.1
  · rw [h1, lex_self (O := itemOrd), lex_self (O := itemOrd)]
    by_cases h2 : a.2 = b.2
    · rw [h2, lex_irrefl]
      symm
      exact decide_eq_false (by omega)
    · rw [lex_diff (O := itemOrd) (by simpa using h2)]
      show decide (a.2 < b.2) = _
      rw [Bool.eq_iff_iff, decide_eq_true_iff, decide_eq_true_iff]
      omega
  · rw [lex_diff (O := itemOrd) (by simpa using h1)]
    show decide (a.1 < b.1) = _
    rw [Bool.eq_iff_iff, decide_eq_true_iff, decide_eq_true_iff]
    omega
theorem sort_pr (l : List Pr) : sortD (l.map prD) = (isort ltP2 l).map prD := isort_map prD l fun x _ y _ => lt_pr x y
theorem sort_fct (l : List Fct) : sortD (l.map Fct.d) = (isort ltFc l).map Fct.d := isort_map Fct.d l fun x _ y _ => rfl
theorem swo_P2 : SrtO.Swo ltP2 := by
  refine ⟨fun x y h => ?_, fun x y z h1 h2 => ?_⟩
  · unfold ltP2 at h ⊢
    rw [decide_eq_true_iff] at h
    exact decide_eq_false (by omega)
  · unfold ltP2 at h1 h2 ⊢
    rw [decide_eq_false_iff_not] at h1 h2
    exact decide_eq_false (by omega)
theorem swo_Fc : SrtO.Swo ltFc := ⟨fun x y => swo_data.asym _ _, fun x y z => swo_data.tr _ _ _⟩
theorem ltP2_tot {a b : Pr} (h1 : ltP2 a b = false) (h2 : ltP2 b a = false) : a = b := by
  unfold ltP2 at h1 h2
  rw [decide_eq_false_iff_not] at h1 h2
  exact Prod.ext (by omega) (by omega)
end Fb

/-! FbQ: plans as plain Lean: what plans.py computes. -/
namespace Fb
open PySem PySem.Spec PyProof.Rows L2 Evl
section
variable {κ κ' α β : Type} [DecidableEq κ] [DecidableEq κ']
abbrev mapA (f : κ → κ') (g : α → β) (kvs : List (κ × α)) : List (κ' × β) := kvs.map fun e => (f e.1, g e.2)
theorem putA_map {f : κ → κ'} (hf : ∀ a b, f a = f b → a = b) (g : α → β) (kvs : List (κ × α)) (k : κ) (v : α) : putA (mapA f g kvs) (f k) (g v) = mapA f g (putA kvs k v) := by
  have hd : ∀ a b, decide (f a = f b) = decide (a = b) := fun a b => by
    rw [Bool.eq_iff_iff, decide_eq_true_iff, decide_eq_true_iff]
    exact ⟨hf a b, fun h => h ▸ rfl⟩
  unfold putA mapA
  rw [List.any_map]
  have e : ((fun kv : κ' × β => decide (kv.1 = f k)) ∘ fun e : κ × α => (f e.1, g e.2)) = fun kv : κ × α => decide (kv.1 = k) := funext fun kv => hd _ _
  rw [e]
  split
  · rw [List.map_map, List.map_map]
    refine List.map_congr_left fun kv _ => ?_
    simp only [Function.comp]
    by_cases h : kv.1 = k
    · rw [if_pos h, if_pos (by rw [h])]
    · rw [if_neg h, if_neg fun z => h (hf _ _ z)]
  · rw [List.map_append]
    rfl
theorem getA_map {f : κ → κ'} (hf : ∀ a b, f a = f b → a = b) (g : α → β) : ∀ (kvs : List (κ × α)) (k : κ), getA (mapA f g kvs) (f k) = (getA kvs k).map g
  | [], _ => rfl
  | e :: kvs, k => by
    have ih := getA_map hf g kvs k
    unfold getA at ih ⊢
    unfold mapA at ih ⊢
    rw [List.map_cons]
    by_cases h : e.1 = k
    · rw [List.find?_cons_of_pos (by simpa using congrArg f h), List.find?_cons_of_pos (by simpa using h)]
      rfl
    · rw [List.find?_cons_of_neg (by simpa using fun z => h (hf _ _ z)), List.find?_cons_of_neg (by simpa using h)]
      exact ih
theorem mergeA_map {f : κ → κ'} (hf : ∀ a b, f a = f b → a = b) (g : α → β) : ∀ (more kvs : List (κ × α)), mergeA (mapA f g kvs) (mapA f g more) = mapA f g (mergeA kvs more)
  | [], _ => rfl
  | e :: more, kvs => by
    show mergeA (putA (mapA f g kvs) (f e.1) (g e.2)) (mapA f g more) = mapA f g (mergeA (putA kvs e.1 e.2) more)
    rw [putA_map hf g]
    exact mergeA_map hf g more _
theorem getA_put (kvs : List (κ × α)) (k j : κ) (v : α) : getA (putA kvs k v) j = if j = k then some v else getA kvs j := by
  unfold putA
  split
  · rename_i h
    induction kvs with
    | nil => simp at h
    | cons e kvs ih =>
      unfold getA at ih ⊢
      rw [List.map_cons]
      by_cases he : e.1 = k
      · rw [if_pos he]
        by_cases hj : j = k
        · rw [List.find?_cons_of_pos (by simp [he, hj]), if_pos hj]
          rfl
        · rw [List.find?_cons_of_neg (by simp [he]; exact fun z => hj z.symm), List.find?_cons_of_neg (by simp [he]; exact fun z => hj z.symm), if_neg hj]
          by_cases ha : (kvs.any fun kv => decide (kv.1 = k)) = true
          · have := ih ha
            rw [if_neg hj] at this
            exact this
          · have e2 : kvs.map (fun kv => if kv.1 = k then (kv.1, v) else kv) = kvs := by
              have : ∀ kv ∈ kvs, kv.1 ≠ k := fun kv hkv z => ha (List.any_eq_true.mpr ⟨kv, hkv, by simpa using z⟩)
              conv => rhs; rw [← List.map_id kvs]
              exact List.map_congr_left fun kv hkv => if_neg (this kv hkv)
            rw [e2]
      · rw [if_neg he]
        by_cases hj : e.1 = j
        · rw [List.find?_cons_of_pos (by simpa using hj), List.find?_cons_of_pos (by simpa using hj), if_neg fun z => he (hj.trans z)]
        · rw [List.find?_cons_of_neg (by simpa using hj), List.find?_cons_of_neg (by simpa using hj)]
          refine ih ?_
          rw [List.any_cons] at h
          simpa [he] using h
  · rename_i h
    have hn : ∀ kv ∈ kvs, kv.1 ≠ k := fun kv hkv z => h (List.any_eq_true.mpr ⟨kv, hkv, by simpa using z⟩)
    clear h
    induction kvs with
    | nil =>
      unfold getA
      by_cases hj : j = k
      · rw [if_pos hj, List.nil_append, List.find?_cons_of_pos (by simpa using hj.symm)]
        try rfl
      · rw [if_neg hj, List.nil_append, List.find?_cons_of_neg (by simpa using fun z => hj (Eq.symm z))]
        try rfl
    | cons e kvs ih =>
      have ih := ih fun kv hkv => hn kv (List.mem_cons_of_mem _ hkv)
      unfold getA at ih ⊢
      rw [List.cons_append]
      by_cases hj : e.1 = j
      · rw [List.find?_cons_of_pos (by simpa using hj), List.find?_cons_of_pos (by simpa using hj), if_neg fun z => hn e List.mem_cons_self (hj.trans z)]
      · rw [List.find?_cons_of_neg (by simpa using hj), List.find?_cons_of_neg (by simpa using hj)]
        exact ih
theorem getA_mem {kvs : List (κ × α)} {k : κ} {v : α} (h : getA kvs k = some v) : (k, v) ∈ kvs := by
  unfold getA at h
  cases q : kvs.find? fun kv => decide (kv.1 = k) with
  | none => rw [q] at h; cases h
  | some e =>
    rw [q] at h
    cases h
    have h1 := List.find?_some q
    have h2 := List.mem_of_find?_eq_some q
    have h3 : e.1 = k := by simpa using h1
    rw [← h3]
    exact h2
theorem getA_none {kvs : List (κ × α)} {k : κ} : getA kvs k = none ↔ k ∉ kvs.map (·.1) := by
  unfold getA
  rw [Option.map_eq_none_iff, List.find?_eq_none]
  constructor
  · intro h z
    obtain ⟨e, he, rfl⟩ := List.mem_map.mp z
    exact h e he (by simp)
  · intro h e he z
    exact h (List.mem_map.mpr ⟨e, he, by simpa using z⟩)
/-- the keys behind a store -/
theorem putA_keys (kvs : List (κ × α)) (k : κ) (v : α) : (putA kvs k v).map (·.1) = if k ∈ kvs.map (·.1) then kvs.map (·.1) else kvs.map (·.1) ++ [k] := by
  unfold putA
  by_cases h : k ∈ kvs.map (·.1)
  · rw [if_pos h, if_pos (by obtain ⟨e, he, rfl⟩ := List.mem_map.mp h; exact List.any_eq_true.mpr ⟨e, he, by simp⟩), List.map_map]
    refine List.map_congr_left fun e _ => ?_
    simp only [Function.comp]
    split <;> rfl
  · rw [if_neg h, if_neg (by
      intro z
      obtain ⟨e, he, h2⟩ := List.any_eq_true.mp z
      exact h (List.mem_map.mpr ⟨e, he, by simpa using h2⟩)), List.map_append]
    rfl
theorem putA_nodup {kvs : List (κ × α)} (h : (kvs.map (·.1)).Nodup) (k : κ) (v : α) : ((putA kvs k v).map (·.1)).Nodup := by
  rw [putA_keys]
  split
  · exact h
  · rename_i hk
    rw [List.nodup_append]
    exact ⟨h, by simp, fun a ha b hb => by simp at hb; subst hb; exact fun z => hk (z ▸ ha)⟩
theorem mergeA_nodup : ∀ (more : List (κ × α)) {kvs : List (κ × α)}, (kvs.map (·.1)).Nodup → ((mergeA kvs more).map (·.1)).Nodup
  | [], _, h => h
  | e :: more, kvs, h => mergeA_nodup more (putA_nodup h e.1 e.2)
theorem mergeA_mem {P : κ → α → Prop} : ∀ (more : List (κ × α)) {kvs : List (κ × α)}, (∀ e ∈ kvs, P e.1 e.2) → (∀ e ∈ more, P e.1 e.2) → ∀ e ∈ mergeA kvs more, P e.1 e.2
  | [], _, h, _ => h
  | x :: more, kvs, h, hm => mergeA_mem more (kvs := putA kvs x.1 x.2) (fun e he => by
      unfold putA at he
      split at he
      · obtain ⟨y, hy, rfl⟩ := List.mem_map.mp he
        split
        · rename_i hk; dsimp only; rw [hk]; exact hm x List.mem_cons_self
        · exact h y hy
      · rcases List.mem_append.mp he with he | he
        · exact h e he
        · simp at he; subst he; exact hm x List.mem_cons_self) fun e he => hm e (List.mem_cons_of_mem _ he)
theorem putA_mem {P : κ → α → Prop} {kvs : List (κ × α)} {k : κ} {v : α} (h : ∀ e ∈ kvs, P e.1 e.2) (hv : P k v) : ∀ e ∈ putA kvs k v, P e.1 e.2 := mergeA_mem [(k, v)] h (by simpa using hv)
end
/-! ### wishes, pins -/
def offS (fs : List Fct) : List Pr := fs.filterMap fun | .off b => some b | _ => none
def wishE (offs : List Pr) : Fct → Option (Pr × (Pr × Wsh))
  | .wish b m w => if b ∈ offs then none else some (b, (m, w))
  | _ => none
def wishL (fs : List Fct) : List (Pr × (Pr × Wsh)) := fs.filterMap (wishE (offS fs))
def wishesS (fs : List Fct) : List (Pr × (Pr × Wsh)) := mergeA [] (wishL fs)
def mwD (e : Pr × Wsh) : PyData := .tuple [prD e.1, wshD e.2]
abbrev wsT (ws : List (Pr × (Pr × Wsh))) : List (List Key × PyData) := mapA kB mwD ws
def ltPP (x y : Pr × Pr) : Bool := ltP2 x.1 y.1 || (decide (x.1 = y.1) && ltP2 x.2 y.2)
def maxPP (x y : Pr × Pr) : Pr × Pr := if ltPP x y = true then y else x
def pinStep (acc : List (Pr × (Pr × Pr))) : Fct → List (Pr × (Pr × Pr))
  | .pin b m p => putA acc b (maxPP ((getA acc b).getD (m, p)) (m, p))
  | _ => acc
def pinsS (fs : List Fct) : List (Pr × (Pr × Pr)) := fs.foldl pinStep []
def ppD (e : Pr × Pr) : PyData := .tuple [prD e.1, prD e.2]
abbrev psT (ps : List (Pr × (Pr × Pr))) : List (List Key × PyData) := mapA kB ppD ps
/-! ### the order -/
def keyV (k : Str) (m : Pr) (w : Wsh) : Int := if k = "rank" then -w.rank else if k = "first" then m.1 else if k = "short" then w.long else w.hour
def keyI (ks : List Str) (e : Pr × (Pr × Wsh)) : List Int := ks.map (fun k => keyV k e.2.1 e.2.2) ++ [e.2.1.1, e.2.1.2, e.1.1, e.1.2]
def ltI : List Int → List Int → Bool
  | x :: xs, y :: ys => if x = y then ltI xs ys else decide (x < y)
  | [], _ :: _ => true
  | _, [] => false
def keyDt (ks : List Str) (e : Pr × (Pr × Wsh)) : PyData := .tuple (ks.map (fun k => .int (keyV k e.2.1 e.2.2)) ++ [prD e.2.1, prD e.1])
def orderS (ks : List Str) (ws : List (Pr × (Pr × Wsh))) : List Pr := (isort (fun e e' => ltI (keyI ks e) (keyI ks e')) ws).map (·.1)
/-! ### places -/
def isFreeS (tk : List (Pr × Pr)) (room hour long : Int) : Bool := (upto hour long.toNat).all fun a => !(getA tk (room, a)).isSome
def fillS (tk : List (Pr × Pr)) (b : Pr) (room hour long : Int) : List (Pr × Pr) := (upto hour long.toNat).foldl (fun t a => putA t (room, a) b) tk
abbrev tkT (tk : List (Pr × Pr)) : List (List Key × PyData) := mapA kB prD tk
def absZ (i : Int) : Int := if i < 0 then -i else i
def candK (w : Wsh) (c : Pr) : List Int := [if c.1 = w.room then 0 else 1, absZ (c.2 - w.hour), absZ (c.1 - w.room), c.2, c.1]
def candD (w : Wsh) (c : Pr) : PyData := .tuple ((candK w c).map PyData.int)
def candsS (rooms : Int) (tk : List (Pr × Pr)) (w : Wsh) : List Pr := (upto 0 rooms.toNat).flatMap fun o => ((upto 0 (25 - w.long).toNat).filter fun a => isFreeS tk o a w.long).map fun a => (o, a)
def ltC (w : Wsh) (a b : Pr) : Bool := ltI (candK w a) (candK w b)
def nearestS (rooms : Int) (tk : List (Pr × Pr)) (w : Wsh) : Option Pr := match candsS rooms tk w with
  | [] => none
  | c :: cs => some (cs.foldl (fun a y => if ltC w y a = true then y else a) c)
def plD : Option Pr → PyData
  | none => .none
  | some p => prD p
abbrev fdT (fd : List (Pr × Option Pr)) : List (List Key × PyData) := mapA kB plD fd
structure PlSt where
  tk : List (Pr × Pr)
  fd : List (Pr × Option Pr)
def step1 (ws : List (Pr × (Pr × Wsh))) (ps : List (Pr × (Pr × Pr))) (s : PlSt) (b : Pr) : PlSt := match getA ps b, getA ws b with
  | some (_, p), some (_, w) => if decide (p.2 + w.long ≤ 24) && isFreeS s.tk p.1 p.2 w.long then ⟨fillS s.tk b p.1 p.2 w.long, putA s.fd b (some p)⟩ else s
  | _, _ => s
def step2 (rooms : Int) (ws : List (Pr × (Pr × Wsh))) (s : PlSt) (b : Pr) : PlSt := match getA s.fd b, getA ws b with
  | none, some (_, w) => match nearestS rooms s.tk w with
    | none => ⟨s.tk, putA s.fd b none⟩
    | some p => ⟨fillS s.tk b p.1 p.2 w.long, putA s.fd b (some p)⟩
  | _, _ => s
def plan1 (ks : List Str) (fs : List Fct) : PlSt := (orderS ks (wishesS fs)).foldl (step1 (wishesS fs) (pinsS fs)) ⟨[], []⟩
def plan2 (rooms : Int) (ks : List Str) (fs : List Fct) : PlSt := (orderS ks (wishesS fs)).foldl (step2 rooms (wishesS fs)) (plan1 ks fs)
def placedS (rooms : Int) (ks : List Str) (fs : List Fct) : List (Pr × Option Pr) := (plan2 rooms ks fs).fd
/-! ### orders of ints -/
theorem ltI_irr : ∀ xs : List Int, ltI xs xs = false
  | [] => rfl
  | x :: xs => by
    show (if x = x then ltI xs xs else _) = false
    rw [if_pos rfl, ltI_irr xs]
theorem swo_I : SrtO.Swo ltI := by
  refine ⟨fun x y h => asym x y h, fun x y z h1 h2 => tr x y z h1 h2⟩
where
  asym : ∀ x y : List Int, ltI x y = true → ltI y x = false
  | x :: xs, y :: ys, h => by
    have h : (if x = y then ltI xs ys else decide (x < y)) = true := h
    show (if y = x then ltI ys xs else decide (y < x)) = false
    by_cases e : x = y
    · rw [if_pos e] at h
      rw [if_pos e.symm]
      exact asym xs ys h
    · rw [if_neg e, decide_eq_true_iff] at h
      rw [if_neg (fun z => e z.symm)]
      exact decide_eq_false (by omega)
  | [], y :: ys, _ => rfl
  | [], [], h => by cases h
  | x :: xs, [], h => by cases h
  tr : ∀ x y z : List Int, ltI y x = false → ltI z y = false → ltI z x = false
  | x :: xs, y :: ys, z :: zs, h1, h2 => by
    have h1 : (if y = x then ltI ys xs else decide (y < x)) = false := h1
    have h2 : (if z = y then ltI zs ys else decide (z < y)) = false := h2
    show (if z = x then ltI zs xs else decide (z < x)) = false
    by_cases e1 : y = x
    · rw [if_pos e1] at h1
      by_cases e2 : z = y
      · rw [if_pos e2] at h2
        rw [if_pos (e2.trans e1)]
        exact tr xs ys zs h1 h2
      · rw [if_neg e2, decide_eq_false_iff_not] at h2
        rw [if_neg (by omega)]
        exact decide_eq_false (by omega)
    · rw [if_neg e1, decide_eq_false_iff_not] at h1
      by_cases e2 : z = y
      · rw [if_neg (by omega)]
        exact decide_eq_false (by omega)
      · rw [if_neg e2, decide_eq_false_iff_not] at h2
        rw [if_neg (by omega)]
        exact decide_eq_false (by omega)
  | [], [], [], _, _ => rfl
  | [], [], z :: zs, _, _ => rfl
  | [], y :: ys, [], _, h2 => by cases h2
  | [], y :: ys, z :: zs, _, _ => rfl
  | x :: xs, [], _, h1, _ => by cases h1
  | x :: xs, y :: ys, [], _, h2 => by cases h2
theorem ltI_tot : ∀ {x y : List Int}, ltI x y = false → ltI y x = false → x = y
  | [], [], _, _ => rfl
  | [], y :: ys, h, _ => by cases h
  | x :: xs, [], _, h => by cases h
  | x :: xs, y :: ys, h1, h2 => by
    have h1 : (if x = y then ltI xs ys else decide (x < y)) = false := h1
    have h2 : (if y = x then ltI ys xs else decide (y < x)) = false := h2
    by_cases e : x = y
    · rw [if_pos e] at h1
      rw [if_pos e.symm] at h2
      rw [e, ltI_tot h1 h2]
    · rw [if_neg e, decide_eq_false_iff_not] at h1
      rw [if_neg fun z => e z.symm, decide_eq_false_iff_not] at h2
      omega
/-- tokens of ints: the order of tuples of ints is ltI -/
theorem toks_ints : ∀ (xs ys : List Int) (l m : List (Int ⊕ List Nat)), xs.length = ys.length → PyProof.Rows.lexLt itemOrd (xs.flatMap (fun x => [Sum.inl 1, Sum.inl x]) ++ l) (ys.flatMap (fun x => [Sum.inl 1, Sum.inl x]) ++ m) = if xs = ys then PyProof.Rows.lexLt itemOrd l m else ltI xs ys
  | [], [], l, m, _ => by rw [if_pos rfl]; rfl
  | [], y :: ys, _, _, h => by cases h
  | x :: xs, [], _, _, h => by cases h
  | x :: xs, y :: ys, l, m, h => by
    have ih := toks_ints xs ys l m (by simpa using h)
    rw [List.flatMap_cons, List.flatMap_cons]
    show PyProof.Rows.lexLt itemOrd (Sum.inl 1 :: Sum.inl x :: (xs.flatMap _ ++ l)) (Sum.inl 1 :: Sum.inl y :: (ys.flatMap _ ++ m)) = _
    rw [lex_self (O := itemOrd)]
    by_cases e : x = y
    · rw [e, lex_self (O := itemOrd), ih]
      by_cases e2 : xs = ys
      · rw [if_pos e2, if_pos (by rw [e2])]
      · rw [if_neg e2, if_neg (by simpa using e2)]
        show _ = if y = y then ltI xs ys else _
        rw [if_pos rfl]
    · rw [lex_diff (O := itemOrd) (by simpa using e), if_neg (by simp [e])]
      show decide (x < y) = if x = y then _ else _
      rw [if_neg e]
theorem toksAll_ints : ∀ (xs : List Int) (rest : List PyData), PySem.W.keyToksAll (xs.map PyData.int ++ rest) = xs.flatMap (fun x => [Sum.inl 1, Sum.inl x]) ++ PySem.W.keyToksAll rest
  | [], _ => rfl
  | x :: xs, rest => by
    rw [List.map_cons, List.cons_append, PySem.W.toks_all_cons, toksAll_ints xs rest, List.flatMap_cons]
    rfl
theorem lt_ints {xs ys : List Int} (h : xs.length = ys.length) : ltD (.tuple (xs.map PyData.int)) (.tuple (ys.map PyData.int)) = ltI xs ys := by
  show PySem.W.dataLt _ _ = _
  rw [PySem.W.dataLt_tuple]
  have e1 := toksAll_ints xs []
  have e2 := toksAll_ints ys []
  rw [List.append_nil] at e1 e2
  rw [e1, e2, toks_ints xs ys _ _ h]
  split
  · rename_i e
    rw [e, lex_irrefl, ltI_irr]
  · rfl
theorem lt_candD (w : Wsh) (a b : Pr) : ltD (candD w a) (candD w b) = ltC w a b := lt_ints rfl
theorem ltI_app : ∀ (xs ys : List Int) (l m : List Int), xs.length = ys.length → ltI (xs ++ l) (ys ++ m) = if xs = ys then ltI l m else ltI xs ys
  | [], [], l, m, _ => by rw [if_pos rfl]; rfl
  | [], y :: ys, _, _, h => by cases h
  | x :: xs, [], _, _, h => by cases h
  | x :: xs, y :: ys, l, m, h => by
    have ih := ltI_app xs ys l m (by simpa using h)
    show (if x = y then ltI (xs ++ l) (ys ++ m) else decide (x < y)) = if x :: xs = y :: ys then ltI l m else (if x = y then ltI xs ys else decide (x < y))
    by_cases e : x = y
    · rw [if_pos e, if_pos e, ih]
      by_cases e2 : xs = ys
      · rw [if_pos e2, if_pos (by rw [e, e2])]
      · rw [if_neg e2, if_neg (by simp [e2])]
    · rw [if_neg e, if_neg e, if_neg (by simp [e])]
theorem lt_keyD (ks : List Str) (e e' : Pr × (Pr × Wsh)) : ltD (keyDt ks e) (keyDt ks e') = ltI (keyI ks e) (keyI ks e') := by
  show PySem.W.dataLt _ _ = _
  unfold keyDt keyI
  rw [PySem.W.dataLt_tuple]
  have h1 := toksAll_ints (ks.map fun k => keyV k e.2.1 e.2.2) [prD e.2.1, prD e.1]
  have h2 := toksAll_ints (ks.map fun k => keyV k e'.2.1 e'.2.2) [prD e'.2.1, prD e'.1]
  rw [List.map_map] at h1 h2
  rw [show ks.map (fun k => PyData.int (keyV k e.2.1 e.2.2)) = ks.map (PyData.int ∘ fun k => keyV k e.2.1 e.2.2) from rfl, show ks.map (fun k => PyData.int (keyV k e'.2.1 e'.2.2)) = ks.map (PyData.int ∘ fun k => keyV k e'.2.1 e'.2.2) from rfl, h1, h2]
  rw [toks_ints _ _ _ _ (by simp), ltI_app _ _ _ _ (by simp)]
  split
  · simp only [PySem.W.keyToksAll, PySem.W.keyToks, prD, List.cons_append, List.nil_append, List.append_assoc]
    have a : ∀ (x y : Int) (l m : List (Int ⊕ List Nat)), PyProof.Rows.lexLt itemOrd (Sum.inl x :: l) (Sum.inl y :: m) = if x = y then PyProof.Rows.lexLt itemOrd l m else decide (x < y) := fun x y l m => by
      by_cases e : x = y
      · rw [e, if_pos rfl, lex_self (O := itemOrd)]
      · rw [if_neg e, lex_diff (O := itemOrd) (by simpa using e)]
        rfl
    rw [a, a, a, a, a, a, a, a, a, a, a, a, a]
    simp only [if_pos, lex_irrefl]
    rfl
  · rfl
end Fb

namespace Fb
open PySem PySem.Spec PyProof.Rows L2 Evl
abbrev szName : Str := "SIZES"
def top (i : Nat) : Stmt := PySem.Challenge.pw_farbook_k09_refused.main.body.getD i (.Pass ⟨0, 0, 0, 0⟩)
abbrev s_is_within : Stmt := top 17
abbrev n_is_within : List Str := ["thing", "low", "high"]
abbrev p_is_within : List Str := ["thing", "low", "high"]
theorem sc_is_within : FnScope n_is_within p_is_within (defScope s_is_within) := ⟨rfl, rfl, rfl, by decide +kernel, rfl, by decide +kernel, by decide +kernel⟩
abbrev s_is_world : Stmt := top 18
abbrev n_is_world : List Str := ["thing", "one"]
abbrev p_is_world : List Str := ["thing"]
theorem sc_is_world : FnScope n_is_world p_is_world (defScope s_is_world) := ⟨rfl, rfl, rfl, by decide +kernel, rfl, by decide +kernel, by decide +kernel⟩
abbrev s_look_world : Stmt := top 19
abbrev n_look_world : List Str := ["thing"]
abbrev p_look_world : List Str := ["thing"]
theorem sc_look_world : FnScope n_look_world p_look_world (defScope s_look_world) := ⟨rfl, rfl, rfl, by decide +kernel, rfl, by decide +kernel, by decide +kernel⟩
abbrev s_is_name : Stmt := top 20
abbrev n_is_name : List Str := ["thing", "sign"]
abbrev p_is_name : List Str := ["thing"]
theorem sc_is_name : FnScope n_is_name p_is_name (defScope s_is_name) := ⟨rfl, rfl, rfl, by decide +kernel, rfl, by decide +kernel, by decide +kernel⟩
abbrev s_is_place : Stmt := top 21
abbrev n_is_place : List Str := ["world", "long", "room", "hour"]
abbrev p_is_place : List Str := ["world", "long", "room", "hour"]
theorem sc_is_place : FnScope n_is_place p_is_place (defScope s_is_place) := ⟨rfl, rfl, rfl, by decide +kernel, rfl, by decide +kernel, by decide +kernel⟩
abbrev s_is_wish : Stmt := top 22
abbrev n_is_wish : List Str := ["world", "thing"]
abbrev p_is_wish : List Str := ["world", "thing"]
theorem sc_is_wish : FnScope n_is_wish p_is_wish (defScope s_is_wish) := ⟨rfl, rfl, rfl, by decide +kernel, rfl, by decide +kernel, by decide +kernel⟩
abbrev s_look_wish : Stmt := top 23
abbrev n_look_wish : List Str := ["world", "thing"]
abbrev p_look_wish : List Str := ["world", "thing"]
theorem sc_look_wish : FnScope n_look_wish p_look_wish (defScope s_look_wish) := ⟨rfl, rfl, rfl, by decide +kernel, rfl, by decide +kernel, by decide +kernel⟩
abbrev s_is_booking : Stmt := top 24
abbrev n_is_booking : List Str := ["world", "thing"]
abbrev p_is_booking : List Str := ["world", "thing"]
theorem sc_is_booking : FnScope n_is_booking p_is_booking (defScope s_is_booking) := ⟨rfl, rfl, rfl, by decide +kernel, rfl, by decide +kernel, by decide +kernel⟩
abbrev s_wishes_in : Stmt := top 26
abbrev n_wishes_in : List Str := ["facts", "off", "fact"]
abbrev p_wishes_in : List Str := ["facts"]
theorem sc_wishes_in : FnScope n_wishes_in p_wishes_in (defScope s_wishes_in) := ⟨rfl, rfl, rfl, by decide +kernel, rfl, by decide +kernel, by decide +kernel⟩
abbrev s_Copy_init : Stmt := inClass (top 36) 0
abbrev n_Copy_init : List Str := ["self", "world", "mine"]
abbrev p_Copy_init : List Str := ["self", "world", "mine"]
theorem sc_Copy_init : FnScope n_Copy_init p_Copy_init (defScope s_Copy_init) := ⟨rfl, rfl, rfl, by decide +kernel, rfl, by decide +kernel, by decide +kernel⟩
abbrev s_Copy_put : Stmt := inClass (top 36) 1
abbrev n_Copy_put : List Str := ["self", "fact"]
abbrev p_Copy_put : List Str := ["self", "fact"]
theorem sc_Copy_put : FnScope n_Copy_put p_Copy_put (defScope s_Copy_put) := ⟨rfl, rfl, rfl, by decide +kernel, rfl, by decide +kernel, by decide +kernel⟩
abbrev s_Copy_tick : Stmt := inClass (top 36) 2
abbrev n_Copy_tick : List Str := ["self"]
abbrev p_Copy_tick : List Str := ["self"]
theorem sc_Copy_tick : FnScope n_Copy_tick p_Copy_tick (defScope s_Copy_tick) := ⟨rfl, rfl, rfl, by decide +kernel, rfl, by decide +kernel, by decide +kernel⟩
abbrev s_Copy_look_known : Stmt := inClass (top 36) 3
abbrev n_Copy_look_known : List Str := ["self", "booking"]
abbrev p_Copy_look_known : List Str := ["self", "booking"]
theorem sc_Copy_look_known : FnScope n_Copy_look_known p_Copy_look_known (defScope s_Copy_look_known) := ⟨rfl, rfl, rfl, by decide +kernel, rfl, by decide +kernel, by decide +kernel⟩
abbrev s_Copy_wish : Stmt := inClass (top 36) 4
abbrev n_Copy_wish : List Str := ["self", "thing", "booking"]
abbrev p_Copy_wish : List Str := ["self", "thing"]
theorem sc_Copy_wish : FnScope n_Copy_wish p_Copy_wish (defScope s_Copy_wish) := ⟨rfl, rfl, rfl, by decide +kernel, rfl, by decide +kernel, by decide +kernel⟩
abbrev s_Copy_off : Stmt := inClass (top 36) 5
abbrev n_Copy_off : List Str := ["self", "booking"]
abbrev p_Copy_off : List Str := ["self", "booking"]
theorem sc_Copy_off : FnScope n_Copy_off p_Copy_off (defScope s_Copy_off) := ⟨rfl, rfl, rfl, by decide +kernel, rfl, by decide +kernel, by decide +kernel⟩
abbrev s_Copy_pin : Stmt := inClass (top 36) 6
abbrev n_Copy_pin : List Str := ["self", "booking", "room", "hour", "long"]
abbrev p_Copy_pin : List Str := ["self", "booking", "room", "hour"]
theorem sc_Copy_pin : FnScope n_Copy_pin p_Copy_pin (defScope s_Copy_pin) := ⟨rfl, rfl, rfl, by decide +kernel, rfl, by decide +kernel, by decide +kernel⟩
abbrev s_Copy_told : Stmt := inClass (top 36) 7
abbrev n_Copy_told : List Str := ["self"]
abbrev p_Copy_told : List Str := ["self"]
theorem sc_Copy_told : FnScope n_Copy_told p_Copy_told (defScope s_Copy_told) := ⟨rfl, rfl, rfl, by decide +kernel, rfl, by decide +kernel, by decide +kernel⟩
abbrev s_Copy_place : Stmt := inClass (top 36) 10
abbrev n_Copy_place : List Str := ["self", "booking"]
abbrev p_Copy_place : List Str := ["self", "booking"]
theorem sc_Copy_place : FnScope n_Copy_place p_Copy_place (defScope s_Copy_place) := ⟨rfl, rfl, rfl, by decide +kernel, rfl, by decide +kernel, by decide +kernel⟩
abbrev s_Copy_day : Stmt := inClass (top 36) 11
abbrev n_Copy_day : List Str := ["self", "room", "row", "wishes", "found", "booking", "at"]
abbrev p_Copy_day : List Str := ["self", "room"]
theorem sc_Copy_day : FnScope n_Copy_day p_Copy_day (defScope s_Copy_day) := ⟨rfl, rfl, rfl, by decide +kernel, rfl, by decide +kernel, by decide +kernel⟩
abbrev s_Copy_listed : Stmt := inClass (top 36) 12
abbrev n_Copy_listed : List Str := ["self", "word", "wishes", "found", "one", "pins", "fact"]
abbrev p_Copy_listed : List Str := ["self", "word"]
theorem sc_Copy_listed : FnScope n_Copy_listed p_Copy_listed (defScope s_Copy_listed) := ⟨rfl, rfl, rfl, by decide +kernel, rfl, by decide +kernel, by decide +kernel⟩
abbrev s_law_cell : Stmt := top 38
abbrev n_law_cell : List Str := ["script", "k"]
abbrev p_law_cell : List Str := ["script", "k"]
theorem sc_law_cell : FnScope n_law_cell p_law_cell (defScope s_law_cell) := ⟨rfl, rfl, rfl, by decide +kernel, rfl, by decide +kernel, by decide +kernel⟩
abbrev s_law_seed : Stmt := top 39
abbrev n_law_seed : List Str := ["seed", "k"]
abbrev p_law_seed : List Str := ["seed", "k"]
theorem sc_law_seed : FnScope n_law_seed p_law_seed (defScope s_law_seed) := ⟨rfl, rfl, rfl, by decide +kernel, rfl, by decide +kernel, by decide +kernel⟩
abbrev s_law_pick : Stmt := top 40
abbrev n_law_pick : List Str := ["seed", "many"]
abbrev p_law_pick : List Str := ["seed", "many"]
theorem sc_law_pick : FnScope n_law_pick p_law_pick (defScope s_law_pick) := ⟨rfl, rfl, rfl, by decide +kernel, rfl, by decide +kernel, by decide +kernel⟩
abbrev s_law_world : Stmt := top 41
abbrev n_law_world : List Str := ["cell", "keys", "some", "k", "key"]
abbrev p_law_world : List Str := ["cell"]
theorem sc_law_world : FnScope n_law_world p_law_world (defScope s_law_world) := ⟨rfl, rfl, rfl, by decide +kernel, rfl, by decide +kernel, by decide +kernel⟩
abbrev s_law_wish : Stmt := top 42
abbrev n_law_wish : List Str := ["world", "seed", "letters", "name", "k", "long", "hour"]
abbrev p_law_wish : List Str := ["world", "seed"]
theorem sc_law_wish : FnScope n_law_wish p_law_wish (defScope s_law_wish) := ⟨rfl, rfl, rfl, by decide +kernel, rfl, by decide +kernel, by decide +kernel⟩
abbrev s_law_word : Stmt := top 43
abbrev n_law_word : List Str := ["kind", "here", "thing", "spot", "caught"]
abbrev p_law_word : List Str := ["kind", "here", "thing", "spot"]
theorem sc_law_word : FnScope n_law_word p_law_word (defScope s_law_word) := ⟨rfl, rfl, rfl, by decide +kernel, rfl, by decide +kernel, by decide +kernel⟩
abbrev s_law_asked : Stmt := top 44
abbrev n_law_asked : List Str := ["kind", "here", "thing", "spot"]
abbrev p_law_asked : List Str := ["kind", "here", "thing", "spot"]
theorem sc_law_asked : FnScope n_law_asked p_law_asked (defScope s_law_asked) := ⟨rfl, rfl, rfl, by decide +kernel, rfl, by decide +kernel, by decide +kernel⟩
abbrev s_law : Stmt := top 45
abbrev n_law : List Str := ["script", "world", "here", "many", "k", "gone", "other", "odd", "bad", "before", "kind", "long", "fact", "spots"]
abbrev p_law : List Str := ["script"]
theorem sc_law : FnScope n_law p_law (defScope s_law) := ⟨rfl, rfl, rfl, by decide +kernel, rfl, by decide +kernel, by decide +kernel⟩
end Fb

namespace Fb
open PySem PySem.Spec PyProof.Rows L2 Evl
/-! ### worlds.py -/
structure Bl (mg : Str → Option Value) : Prop where
  len : mg "len" = none
  isinstance : mg "isinstance" = none
  int : mg "int" = none
  bool : mg "bool" = none
  str : mg "str" = none
  tuple : mg "tuple" = none
  list : mg "list" = none
  dict : mg "dict" = none
  set : mg "set" = none
  range : mg "range" = none
  sorted : mg "sorted" = none
  max : mg "max" = none
  min : mg "min" = none
  abs : mg "abs" = none
  enumerate : mg "enumerate" = none
  zip : mg "zip" = none
  sum : mg "sum" = none
def sizesGet (s : Str) : Option Int := if s = "wish" then some 4 else if s = "off" then some 2 else if s = "pin" then some 4 else none
structure Cs (K : PySem.W.Frag) (w : World) (mg : Str → Option Value) : Prop where
  hours : ∃ t, mg "HOURS" = some (.int 24 t)
  copies : ∃ t, mg "MOST_COPIES" = some (.int 5 t)
  rooms : ∃ t, mg "MOST_ROOMS" = some (.int 3 t)
  long : ∃ t, mg "MOST_LONG" = some (.int 6 t)
  wishes : ∃ t, mg "MOST_WISHES" = some (.int 12 t)
  small : ∃ t, mg "SMALL" = some (.str smallTxt t)
  keys : ∃ a, mg "KEYS" = some (.ref a) ∧ ∀ H, Dp K H (.ref a) (.tuple (keyNames.map PyData.str))
structure Cz (K : PySem.W.Frag) (w : World) (mg : Str → Option Value) : Prop where
  clock : ∃ t, mg "MOST_CLOCK" = some (.int 9999 t)
  sizes : ∃ a, mg szName = some (.ref a) ∧ Kd K w a sizesGet
def R_is_within : List Dn → Dn → Prop := fun ds d => ∃ y lo hi, ds = [.d y, .d (.int lo), .d (.int hi)] ∧ d = .d (.bool (within y lo hi))
def R_is_world : List Dn → Dn → Prop := fun ds d => ∃ y, ds = [.d y] ∧ szOk y = true ∧ d = .d (.bool (isWorld y))
def R_is_name : List Dn → Dn → Prop := fun ds d => ∃ y, ds = [.d y] ∧ szOk y = true ∧ d = .d (.bool (isName y))
def R_is_place : List Dn → Dn → Prop := fun ds d => ∃ c r ks long room hour, ds = [.d (wD c r ks), .d (.int long), .d room, .d hour] ∧ d = .d (.bool (isPlace r long room hour))
section
variable {P : Program} {w : World} {K : PySem.W.Frag} {mg : Str → Option Value} {base : Heap} {f : Addr} {fd : FuncData}
theorem int_of {y : PyData} (h1 : isInt y = true) (h2 : (!isBool y) = true) : ∃ i, y = .int i := by
  cases y with
  | int i => exact ⟨i, rfl⟩
  | bool b => cases h2
  | _ => cases h1
theorem tup_of {y : PyData} (h : isTup y = true) : ∃ xs, y = .tuple xs := by
  cases y with
  | tuple xs => exact ⟨xs, rfl⟩
  | _ => cases h
theorem str_of {y : PyData} (h : isStr y = true) : ∃ s, y = .str s := by
  cases y with
  | str s => exact ⟨s, rfl⟩
  | _ => cases h
theorem ok_is_within (F : Fun K "is_within" "is_within" s_is_within f fd) (B : Bl mg) : FnOk P w K mg base (L2.CX P w) 1 f fd p_is_within (spR K R_is_within noB) := by
  refine okP F sc_is_within (by rintro ds d ⟨y, lo, hi, rfl, rfl⟩; rfl) ?_
  rintro cdv A outer s H Q E ds d G hr ⟨y, lo, hi, rfl, rfl⟩ k
  refine go_ret (Pv.is (pv_and (pv_isi B.isinstance (pv_var 0) (pv_ty B.int PyProof.Rows.boot_int) (kit_int y)) fun h1 => pv_and (pv_not (pv_isi B.isinstance (pv_var 0) (pv_ty B.bool PyProof.Rows.boot_bool) (kit_bool y))) fun h2 => (show Pv _ _ _ (.d (.bool (within y lo hi))) from pv_one ?_)) ?_) k
  · obtain ⟨i, rfl⟩ := int_of h1 h2
    exact pv_le_le (pv_var 1) (pv_var 0) (pv_var 2)
  · cases y <;> rfl
abbrev FcW (P : Program) (w : World) (K : PySem.W.Frag) (mg : Str → Option Value) (base : Heap) : Prop := Fc P w K mg base 1 "is_within" (spR K R_is_within noB)
theorem filter_nil_iff {al : Type} {p : al → Bool} : ∀ {xs : List al}, (xs.filter p).isEmpty = xs.all fun x => !p x
  | [] => rfl
  | x :: xs => by
    rw [List.filter_cons, List.all_cons]
    cases q : p x with
    | true => rfl
    | false => exact filter_nil_iff
theorem map_isEmpty {al be : Type} {g : al → be} {xs : List al} : (xs.map g).isEmpty = xs.isEmpty := by cases xs <;> rfl
theorem keysOk_no {ks : List PyData} (h : (ks.all fun y => !noKey y) = false) : keysOk ks = false := by
  unfold keysOk
  split
  · rename_i ss hs
    have := strsOf_some hs
    subst this
    rw [List.all_map] at h
    have h2 : (ss.all (keyNames.contains ·)) = false := by
      rw [← h]
      congr 1
      funext s
      show keyNames.contains s = !(!keyNames.contains s)
      rw [Bool.not_not]
    rw [h2, Bool.false_and]
  · rfl
theorem keys_strs : ∀ {ks : List PyData}, (ks.all fun y => !noKey y) = true → ∃ ss : List Str, ks = ss.map PyData.str ∧ ss.all (keyNames.contains ·) = true
  | [], _ => ⟨[], rfl, rfl⟩
  | y :: ks, h => by
    rw [List.all_cons, Bool.and_eq_true] at h
    obtain ⟨ss, rfl, h2⟩ := keys_strs h.2
    cases y with
    | str s =>
      have h1 := h.1
      unfold noKey at h1
      rw [Bool.not_not] at h1
      exact ⟨s :: ss, rfl, by rw [List.all_cons, h1, h2]; rfl⟩
    | _ => cases h.1
theorem list3 {al : Type} {xs : List al} (h : xs.length = 3) : ∃ a b c, xs = [a, b, c] := by
  match xs, h with
  | [a, b, c], _ => exact ⟨a, b, c, rfl⟩
theorem isWorld_len {xs : List PyData} (h : ¬ xs.length = 3) : isWorld (.tuple xs) = false := by
  unfold isWorld
  split
  · rename_i e
    cases e
    exact absurd rfl h
  · rfl
theorem ok_is_world (F : Fun K "is_world" "is_world" s_is_world f fd) (B : Bl mg) (C : Cs K w mg) (Fw : FcW P w K mg base) : FnOk P w K mg base (L2.CX P w) 2 f fd p_is_world (spR K R_is_world noB) := by
  refine okP F sc_is_world (by rintro ds d ⟨y, rfl, _, rfl⟩; rfl) ?_
  rintro cdv A outer s H Q E ds d G hr ⟨y, rfl, hsz, rfl⟩ k
  obtain ⟨t5, h5⟩ := C.copies
  obtain ⟨t3, h3⟩ := C.rooms
  obtain ⟨ak, hk, dk⟩ := C.keys
  cases hT : isTup y with
  | false =>
    have hw : isWorld y = false := by cases y <;> first | rfl | cases hT
    exact go_when (Pw.pt (pw_orT ((pt_not (pt_val (pv_isi B.isinstance (pv_var 0) (pv_ty B.tuple PyProof.Rows.boot_tuple) (kit_tup y)))).is (by rw [hT]; rfl)))) (fun _ => go_ret (pv_bool.is (by rw [hw])) k) (fun h => nomatch h)
  | true =>
    obtain ⟨xs, rfl⟩ := tup_of hT
    by_cases hl : xs.length = 3
    · obtain ⟨a, b, c, rfl⟩ := list3 hl
      cases ha : within a 1 5 with
      | false =>
        have hw : isWorld (.tuple [a, b, c]) = false := by cases c <;> first | rfl | (show (within a 1 5 && _ && _) = false; rw [ha]; rfl)
        refine go_when (q := true) (Pw.pt (pw_orF ((pt_not (pt_val (pv_isi B.isinstance (pv_var 0) (pv_ty B.tuple PyProof.Rows.boot_tuple) (kit_tup _)))).is (by rfl)) (pw_orF ((pt_neI (pv_len B.len (pv_var 0) rfl) pv_int).is (by rfl)) (pw_or1 ((pt_not (pt_val (pv_call Fw hr (pa_cons (pv_ix (pv_var 0) pv_int rfl) (pa_cons pv_int (pa_cons (pv_gint h5) pa_nil))) ⟨a, 1, 5, rfl, rfl⟩))).is (by rw [ha]; rfl)))))) (fun _ => go_ret (pv_bool.is (by rw [hw])) k) (fun h => nomatch h)
      | true =>
        refine go_when (q := false) (Pw.pt (pw_orF ((pt_not (pt_val (pv_isi B.isinstance (pv_var 0) (pv_ty B.tuple PyProof.Rows.boot_tuple) (kit_tup _)))).is (by rfl)) (pw_orF ((pt_neI (pv_len B.len (pv_var 0) rfl) pv_int).is (by rfl)) (pw_or1 ((pt_not (pt_val (pv_call Fw hr (pa_cons (pv_ix (pv_var 0) pv_int rfl) (pa_cons pv_int (pa_cons (pv_gint h5) pa_nil))) ⟨a, 1, 5, rfl, rfl⟩))).is (by rw [ha]; rfl)))))) (fun h => nomatch h) (fun _ => ?_)
        cases hb : within b 1 3 with
        | false =>
          have hw : isWorld (.tuple [a, b, c]) = false := by cases c <;> first | rfl | (show (within a 1 5 && within b 1 3 && _) = false; rw [ha, hb]; rfl)
          exact go_when (q := true) (Pw.pt (pw_orT ((pt_not (pt_val (pv_call Fw hr (pa_cons (pv_ix (pv_var 0) pv_int rfl) (pa_cons pv_int (pa_cons (pv_gint h3) pa_nil))) ⟨b, 1, 3, rfl, rfl⟩))).is (by rw [hb]; rfl)))) (fun _ => go_ret (pv_bool.is (by rw [hw])) k) (fun h => nomatch h)
        | true =>
          cases hc : isTup c with
          | false =>
            have hw : isWorld (.tuple [a, b, c]) = false := by cases c <;> first | rfl | cases hc
            exact go_when (q := true) (Pw.pt (pw_orF ((pt_not (pt_val (pv_call Fw hr (pa_cons (pv_ix (pv_var 0) pv_int rfl) (pa_cons pv_int (pa_cons (pv_gint h3) pa_nil))) ⟨b, 1, 3, rfl, rfl⟩))).is (by rw [hb]; rfl)) (pw_or1 ((pt_not (pt_val (pv_isi B.isinstance (pv_ix (pv_var 0) pv_int rfl) (pv_ty B.tuple PyProof.Rows.boot_tuple) (kit_tup c)))).is (by rw [hc]; rfl))))) (fun _ => go_ret (pv_bool.is (by rw [hw])) k) (fun h => nomatch h)
          | true =>
            obtain ⟨ks, rfl⟩ := tup_of hc
            refine go_when (q := false) (Pw.pt (pw_orF ((pt_not (pt_val (pv_call Fw hr (pa_cons (pv_ix (pv_var 0) pv_int rfl) (pa_cons pv_int (pa_cons (pv_gint h3) pa_nil))) ⟨b, 1, 3, rfl, rfl⟩))).is (by rw [hb]; rfl)) (pw_or1 ((pt_not (pt_val (pv_isi B.isinstance (pv_ix (pv_var 0) pv_int rfl) (pv_ty B.tuple PyProof.Rows.boot_tuple) (kit_tup _)))).is (by rfl))))) (fun h => nomatch h) (fun _ => ?_)
            have hkl : ks.length ≤ 100000 := by
              have := (szOk_tup ((szOk_tup hsz).2 (.tuple ks) (by simp))).1
              omega
            refine go_when (pt_truth (pv_lc [("one", 1)] noKey id (fun y => [some (.d (.tuple [a, b, .tuple ks])), some (.d y)]) rfl sc_is_world.nd (wk_tup (pv_ix (pv_var 0) pv_int rfl)) (blkOk_by (N := n_is_world) (sc := defScope s_is_world) (by decide +kernel)) (fun y _ s H C cl fp => pg_name 1 sc_is_world.nd) (fun y hy s H C cl fp => pts_one (Pw.pt ?_)) (fun y hy _ s H C cl fp => pv_var 1) hkl (by simp) (fun _ _ => rfl))) ?_ ?_
            · cases hs : isStr y with
              | false =>
                refine Pw.is (b := true) ?_ (by cases y <;> first | rfl | cases hs)
                exact pw_orT ((pt_not (pt_val (pv_isi B.isinstance (pv_var 1) (pv_ty B.str PyProof.Rows.boot_str) (kit_str y)))).is (by rw [hs]; rfl))
              | true =>
                obtain ⟨z, rfl⟩ := str_of hs
                exact pw_orF ((pt_not (pt_val (pv_isi B.isinstance (pv_var 1) (pv_ty B.str PyProof.Rows.boot_str) (kit_str _)))).is (by rfl)) (pw_or1 (pt_ninS (pv_var 1) (pv_gref hk dk)))
            · intro hq
              have hn : (ks.all fun y => !noKey y) = false := by
                rw [← filter_nil_iff]
                rw [show truD (.list ((ks.filter noKey).map id)) = !((ks.filter noKey).map id).isEmpty from rfl, map_isEmpty] at hq
                simpa using hq
              have hw : isWorld (.tuple [a, b, .tuple ks]) = false := by
                show (within a 1 5 && within b 1 3 && keysOk ks) = false
                rw [keysOk_no hn, Bool.and_false]
              exact go_ret (pv_bool.is (by rw [hw])) k
            · intro hq
              have hn : (ks.all fun y => !noKey y) = true := by
                rw [← filter_nil_iff]
                rw [show truD (.list ((ks.filter noKey).map id)) = !((ks.filter noKey).map id).isEmpty from rfl, map_isEmpty] at hq
                simpa using hq
              obtain ⟨ss, rfl, hss⟩ := keys_strs hn
              rw [List.length_map] at hkl
              have hl1 : ss.length ≤ 1000 := by
                have := (szOk_tup ((szOk_tup hsz).2 (.tuple (ss.map PyData.str)) (by simp))).1
                rw [List.length_map] at this
                exact this
              have hw : isWorld (.tuple [a, b, .tuple (ss.map PyData.str)]) = decide ((dcn ss : Int) = ((ss.map PyData.str).length : Int)) := by
                show (within a 1 5 && within b 1 3 && keysOk (ss.map PyData.str)) = _
                unfold keysOk
                rw [ha, hb, strsOf_map]
                show (ss.all _ && decide (dcn ss = ss.length)) = _
                rw [hss, Bool.true_and, List.length_map, Bool.eq_iff_iff, decide_eq_true_iff, decide_eq_true_iff]
                omega
              exact go_ret ((pv_eqI (pv_lenSet B.len B.set (pv_ix (pv_var 0) pv_int rfl) hl1) (pv_len B.len (pv_ix (pv_var 0) pv_int rfl) rfl)).is (by rw [hw])) k
    · have hw := isWorld_len hl
      have hl' : ((xs.length : Int) = 3) = False := by
        rw [eq_iff_iff, iff_false]
        intro z
        exact hl (by omega)
      exact go_when (Pw.pt (pw_orF ((pt_not (pt_val (pv_isi B.isinstance (pv_var 0) (pv_ty B.tuple PyProof.Rows.boot_tuple) (kit_tup _)))).is (by rfl)) (pw_orT ((pt_neI (pv_len B.len (pv_var 0) rfl) pv_int).is (by rw [decide_eq_false (by rw [hl']; exact id)]; rfl))))) (fun _ => go_ret (pv_bool.is (by rw [hw])) k) (fun h => nomatch h)
/-- isinstance of the built-in classes, as tests -/
theorem pt_isT {X : Cx} {a : Expr} {r : Rho} {y : PyData} {pos p p2 : Pos} (B : Bl X.mg) (ha : Pv X a r (.d y)) (hg : Gl X "isinstance" := by rfl) (hg2 : Gl X "tuple" := by rfl) (he : starEach [a, .Name "tuple" p2] X.env = (false, eval a X.env) :: starEach [.Name "tuple" p2] X.env := by rfl) :
    Pt X (.Call (.Name "isinstance" p) [a, .Name "tuple" p2] [] pos) r (isTup y) := pt_val (pv_isi B.isinstance ha (pv_ty B.tuple PyProof.Rows.boot_tuple hg2) (kit_tup y) hg he)
theorem pt_isS {X : Cx} {a : Expr} {r : Rho} {y : PyData} {pos p p2 : Pos} (B : Bl X.mg) (ha : Pv X a r (.d y)) (hg : Gl X "isinstance" := by rfl) (hg2 : Gl X "str" := by rfl) (he : starEach [a, .Name "str" p2] X.env = (false, eval a X.env) :: starEach [.Name "str" p2] X.env := by rfl) :
    Pt X (.Call (.Name "isinstance" p) [a, .Name "str" p2] [] pos) r (isStr y) := pt_val (pv_isi B.isinstance ha (pv_ty B.str PyProof.Rows.boot_str hg2) (kit_str y) hg he)
abbrev tkR {P : Program} {w : World} {K : PySem.W.Frag} {mg : Str → Option Value} {base : Heap} {N : List Str} {qual : Str} {scope : Scope} {f : Addr} {cd : Value} {A : Around} {outer : List Env} {s : Shared} {H : Hp} {E : XK} :
    Takes (cxOf (L2.CX P w) P w K mg base N qual scope f cd A outer s H E) (fun cls d _ H => E cls d H) := takes_of rfl rfl rfl rfl
/-- a look: nothing, or an error of the class at C -/
def R_look (ok : List Dn → Bool → Prop) : List Dn → Dn → Prop := fun ds d => ok ds true ∧ d = .d .none
def B_look (ok : List Dn → Bool → Prop) (C : Addr) : List Dn → Addr → Prop := fun ds D => ok ds false ∧ D = C
def L_world : List Dn → Bool → Prop := fun ds b => ∃ y, ds = [.d y] ∧ szOk y = true ∧ isWorld y = b
abbrev FcIW (P : Program) (w : World) (K : PySem.W.Frag) (mg : Str → Option Value) (base : Heap) : Prop := Fc P w K mg base 2 "is_world" (spR K R_is_world noB)
theorem ok_look_world {C : Addr} (F : Fun K "look_world" "look_world" s_look_world f fd) (Fi : FcIW P w K mg base) (T : Ec K mg "BadWorld" C) : FnOk P w K mg base (L2.CX P w) 3 f fd p_look_world (spR K (R_look L_world) (B_look L_world C)) := by
  refine okE F sc_look_world (by rintro ds d ⟨⟨y, rfl, _⟩, _⟩; rfl) (by rintro ds d ⟨⟨y, rfl, _⟩, _⟩; rfl) ?_ ?_
  · rintro cdv A outer s H Q E ds d G hr ⟨⟨y, rfl, hsz, hw⟩, rfl⟩ k
    refine go_when (q := false) ((pt_not (pt_val (pv_call Fi hr (pa_cons (pv_var 0) pa_nil) ⟨y, rfl, hsz, rfl⟩))).is (by rw [hw]; rfl)) (fun h => nomatch h) (fun _ => go_nil fun σ H' ⟨G', g', _⟩ => k _ G' H' g' Dp.non)
  · rintro cdv A outer s H Q E ds D G hr ⟨⟨y, rfl, hsz, hw⟩, rfl⟩ k
    refine go_when (q := true) ((pt_not (pt_val (pv_call Fi hr (pa_cons (pv_var 0) pa_nil) ⟨y, rfl, hsz, rfl⟩))).is (by rw [hw]; rfl)) (fun _ => go_raise T tkR fun σ G' H' g' _ => k G' H' g') (fun h => nomatch h)
theorem ok_is_name (F : Fun K "is_name" "is_name" s_is_name f fd) (B : Bl mg) (C : Cs K w mg) : FnOk P w K mg base (L2.CX P w) 1 f fd p_is_name (spR K R_is_name noB) := by
  refine okP F sc_is_name (by rintro ds d ⟨y, rfl, _, rfl⟩; rfl) ?_
  rintro cdv A outer s H Q E ds d G hr ⟨y, rfl, hsz, rfl⟩ k
  obtain ⟨ts, hsm⟩ := C.small
  cases hs : isStr y with
  | false =>
    have hw : isName y = false := by cases y <;> first | rfl | cases hs
    exact go_ret ((pv_andF ((pv_isi B.isinstance (pv_var 0) (pv_ty B.str PyProof.Rows.boot_str) (kit_str y)).is (by rw [hs]))).is (by rw [hw])) k
  | true =>
    obtain ⟨z, rfl⟩ := str_of hs
    have hl := szOk_str hsz
    refine go_ret ((pv_andT ((pv_isi B.isinstance (pv_var 0) (pv_ty B.str PyProof.Rows.boot_str) (kit_str _)).is (by rfl)) (pv_and (pv_le_le pv_int (pv_len B.len (pv_var 0) rfl (strOk_sz hsz)) pv_int) fun _ => pv_one (pv_notT (pv_lc [("sign", 1)] (fun c : Nat => !decide (c ∈ smallTxt.cps.toList)) (fun c => .str ⟨#[c]⟩) (fun c => [some (.d (.str z)), some (.d (.str ⟨#[c]⟩))]) rfl sc_is_name.nd (wk_str (pv_var 0)) (blkOk_by (N := n_is_name) (sc := defScope s_is_name) (by decide +kernel)) (fun y _ s H C cl fp => pg_name 1 sc_is_name.nd) (fun y hy s H C cl fp => pts_one (pt_nin1 (pv_var 1) (pv_gstr hsm))) (fun y hy _ s H C cl fp => pv_var 1) (by have : z.cps.toList.length = z.length := rfl; omega) (by simp) (fun _ _ => rfl))))).is ?_) k
    congr 1
    show PyData.bool ((decide (1 ≤ (z.length : Int)) && decide ((z.length : Int) ≤ 4)) && !(!((z.cps.toList.filter fun c => !decide (c ∈ smallTxt.cps.toList)).map fun c => PyData.str ⟨#[c]⟩).isEmpty)) = PyData.bool (isName (.str z))
    rw [map_isEmpty, filter_nil_iff, Bool.not_not]
    simp only [Bool.not_not]
    rfl
theorem ok_is_place (F : Fun K "is_place" "is_place" s_is_place f fd) (C : Cs K w mg) (Fw : FcW P w K mg base) : FnOk P w K mg base (L2.CX P w) 2 f fd p_is_place (spR K R_is_place noB) := by
  refine okP F sc_is_place (by rintro ds d ⟨c, r, ks, long, room, hour, rfl, rfl⟩; rfl) ?_
  rintro cdv A outer s H Q E ds d G hr ⟨c, r, ks, long, room, hour, rfl, rfl⟩ k
  obtain ⟨t24, h24⟩ := C.hours
  exact go_ret (pv_and (pv_call Fw hr (pa_cons (pv_var 2) (pa_cons pv_int (pa_cons (pv_sub (pv_ix (pv_var 0) pv_int rfl) pv_int) pa_nil))) ⟨room, 0, r - 1, rfl, rfl⟩) fun _ => pv_one (pv_call Fw hr (pa_cons (pv_var 3) (pa_cons pv_int (pa_cons (pv_sub (pv_gint h24) (pv_var 1)) pa_nil))) ⟨hour, 0, 24 - long, rfl, rfl⟩)) k
end
end Fb

namespace Fb
open PySem PySem.Spec PyProof.Rows L2 Evl
/-! ### worlds.py: wishes, bookings, facts -/
def R_is_wish : List Dn → Dn → Prop := fun ds d => ∃ c r ks y, ds = [.d (wD c r ks), .d y] ∧ szOk y = true ∧ d = .d (.bool (isWish r y))
def R_is_booking : List Dn → Dn → Prop := fun ds d => ∃ c r ks y, ds = [.d (wD c r ks), .d y] ∧ d = .d (.bool (isBooking c y))
def R_is_fact : List Dn → Dn → Prop := fun ds d => ∃ c r ks y, ds = [.d (wD c r ks), .d y] ∧ szOk y = true ∧ d = .d (.bool (isFact c r y))
def L_wish : List Dn → Bool → Prop := fun ds b => ∃ c r ks y, ds = [.d (wD c r ks), .d y] ∧ szOk y = true ∧ isWish r y = b
/-- a tuple of facts -/
def areFacts (c r : Int) : PyData → Bool
  | .tuple fs => fs.all (isFact c r)
  | _ => false
def L_facts : List Dn → Bool → Prop := fun ds b => ∃ c r ks y, ds = [.d (wD c r ks), .d y] ∧ szOk y = true ∧ areFacts c r y = b
theorem list5 {al : Type} {xs : List al} (h : xs.length = 5) : ∃ a b c d e, xs = [a, b, c, d, e] := by
  match xs, h with
  | [a, b, c, d, e], _ => exact ⟨a, b, c, d, e, rfl⟩
theorem list2 {al : Type} {xs : List al} (h : xs.length = 2) : ∃ a b, xs = [a, b] := by
  match xs, h with
  | [a, b], _ => exact ⟨a, b, rfl⟩
theorem isWish_len {r : Int} {xs : List PyData} (h : ¬ xs.length = 5) : isWish r (.tuple xs) = false := by
  unfold isWish
  split
  · rename_i e
    cases e
    exact absurd rfl h
  · rfl
theorem isBooking_len {r : Int} {xs : List PyData} (h : ¬ xs.length = 2) : isBooking r (.tuple xs) = false := by
  unfold isBooking
  split
  · rename_i e
    cases e
    exact absurd rfl h
  · rfl
theorem lenNe {al : Type} {xs : List al} {n : Nat} (h : ¬ xs.length = n) : (!decide ((xs.length : Int) = (n : Int))) = true := by
  rw [decide_eq_false (fun z => h (by omega))]
  rfl
section
variable {P : Program} {w : World} {K : PySem.W.Frag} {mg : Str → Option Value} {base : Heap} {f : Addr} {fd : FuncData}
abbrev FcN (P : Program) (w : World) (K : PySem.W.Frag) (mg : Str → Option Value) (base : Heap) : Prop := Fc P w K mg base 1 "is_name" (spR K R_is_name noB)
abbrev FcPl (P : Program) (w : World) (K : PySem.W.Frag) (mg : Str → Option Value) (base : Heap) : Prop := Fc P w K mg base 2 "is_place" (spR K R_is_place noB)
theorem ok_is_wish (F : Fun K "is_wish" "is_wish" s_is_wish f fd) (B : Bl mg) (C : Cs K w mg) (Fw : FcW P w K mg base) (Fn : FcN P w K mg base) (Fp : FcPl P w K mg base) : FnOk P w K mg base (L2.CX P w) 3 f fd p_is_wish (spR K R_is_wish noB) := by
  refine okP F sc_is_wish (by rintro ds d ⟨c, r, ks, y, rfl, _, rfl⟩; rfl) ?_
  rintro cdv A outer s H Q E ds d G hr ⟨c, r, ks, y, rfl, hsz, rfl⟩ k
  obtain ⟨t6, h6⟩ := C.long
  cases hT : isTup y with
  | false =>
    have hw : isWish r y = false := by cases y <;> first | rfl | cases hT
    exact go_when (Pw.pt (pw_orT ((pt_not (pt_isT B (pv_var 1))).is (by rw [hT]; rfl)))) (fun _ => go_ret (pv_bool.is (by rw [hw])) k) (fun h => nomatch h)
  | true =>
    obtain ⟨xs, rfl⟩ := tup_of hT
    by_cases hl : xs.length = 5
    · obtain ⟨a, b, e, l, g, rfl⟩ := list5 hl
      have sa : szOk a = true := (szOk_tup hsz).2 a (by simp)
      cases ha : isName a with
      | false =>
        have hw : isWish r (.tuple [a, b, e, l, g]) = false := by cases l <;> first | rfl | (show (isName a && _ && _) = false; rw [ha]; rfl)
        exact go_when (q := true) (Pw.pt (pw_orF ((pt_not (pt_isT B (pv_var 1))).is (by rfl)) (pw_orF ((pt_neI (pv_len B.len (pv_var 1) rfl) pv_int).is (by rfl)) (pw_or1 ((pt_not (pt_val (pv_call Fn hr (pa_cons (pv_ix (pv_var 1) pv_int rfl) pa_nil) ⟨a, rfl, sa, rfl⟩))).is (by rw [ha]; rfl)))))) (fun _ => go_ret (pv_bool.is (by rw [hw])) k) (fun h => nomatch h)
      | true =>
        refine go_when (q := false) (Pw.pt (pw_orF ((pt_not (pt_isT B (pv_var 1))).is (by rfl)) (pw_orF ((pt_neI (pv_len B.len (pv_var 1) rfl) pv_int).is (by rfl)) (pw_or1 ((pt_not (pt_val (pv_call Fn hr (pa_cons (pv_ix (pv_var 1) pv_int rfl) pa_nil) ⟨a, rfl, sa, rfl⟩))).is (by rw [ha]; rfl)))))) (fun h => nomatch h) (fun _ => ?_)
        cases hL : within l 1 6 with
        | false =>
          have hw : isWish r (.tuple [a, b, e, l, g]) = false := by cases l <;> first | rfl | (rename_i i; show (isName a && (decide (1 ≤ i) && decide (i ≤ 6)) && _) = false; rw [show (decide (1 ≤ i) && decide (i ≤ 6)) = false from hL, Bool.and_false]; rfl)
          exact go_when (q := true) ((pt_not (pt_val (pv_call Fw hr (pa_cons (pv_ix (pv_var 1) pv_int rfl) (pa_cons pv_int (pa_cons (pv_gint h6) pa_nil))) ⟨l, 1, 6, rfl, rfl⟩))).is (by rw [hL]; rfl)) (fun _ => go_ret (pv_bool.is (by rw [hw])) k) (fun h => nomatch h)
        | true =>
          obtain ⟨i, rfl, i1, i2⟩ := within_int hL
          refine go_when (q := false) ((pt_not (pt_val (pv_call Fw hr (pa_cons (pv_ix (pv_var 1) pv_int rfl) (pa_cons pv_int (pa_cons (pv_gint h6) pa_nil))) ⟨.int i, 1, 6, rfl, rfl⟩))).is (by rw [hL]; rfl)) (fun h => nomatch h) (fun _ => ?_)
          refine go_ret ((pv_and (pv_call Fp hr (pa_cons (pv_var 0) (pa_cons (pv_ix (pv_var 1) pv_int rfl) (pa_cons (pv_ix (pv_var 1) pv_int rfl) (pa_cons (pv_ix (pv_var 1) pv_int rfl) pa_nil)))) ⟨c, r, ks, i, b, e, rfl, rfl⟩) fun _ => pv_one (pv_call Fw hr (pa_cons (pv_ix (pv_var 1) pv_int rfl) (pa_cons pv_int (pa_cons pv_int pa_nil))) ⟨g, 0, 9, rfl, rfl⟩)).is ?_) k
          show Dn.d (.bool (isPlace r i b e && within g 0 9)) = Dn.d (.bool (isName a && (decide (1 ≤ i) && decide (i ≤ 6)) && (isPlace r i b e && within g 0 9)))
          rw [ha, decide_eq_true i1, decide_eq_true i2]
          rfl
    · have hw := isWish_len (r := r) hl
      exact go_when (Pw.pt (pw_orF ((pt_not (pt_isT B (pv_var 1))).is (by rfl)) (pw_orT ((pt_neI (pv_len B.len (pv_var 1) rfl) pv_int).is (lenNe hl))))) (fun _ => go_ret (pv_bool.is (by rw [hw])) k) (fun h => nomatch h)
abbrev FcWi (P : Program) (w : World) (K : PySem.W.Frag) (mg : Str → Option Value) (base : Heap) : Prop := Fc P w K mg base 3 "is_wish" (spR K R_is_wish noB)
theorem ok_look_wish {C : Addr} (F : Fun K "look_wish" "look_wish" s_look_wish f fd) (Fi : FcWi P w K mg base) (T : Ec K mg "BadWish" C) : FnOk P w K mg base (L2.CX P w) 4 f fd p_look_wish (spR K (R_look L_wish) (B_look L_wish C)) := by
  refine okE F sc_look_wish (by rintro ds d ⟨⟨c, r, ks, y, rfl, _⟩, _⟩; rfl) (by rintro ds d ⟨⟨c, r, ks, y, rfl, _⟩, _⟩; rfl) ?_ ?_
  · rintro cdv A outer s H Q E ds d G hr ⟨⟨c, r, ks, y, rfl, hsz, hw⟩, rfl⟩ k
    refine go_when (q := false) ((pt_not (pt_val (pv_call Fi hr (pa_cons (pv_var 0) (pa_cons (pv_var 1) pa_nil)) ⟨c, r, ks, y, rfl, hsz, rfl⟩))).is (by rw [hw]; rfl)) (fun h => nomatch h) (fun _ => go_nil fun σ H' ⟨G', g', _⟩ => k _ G' H' g' Dp.non)
  · rintro cdv A outer s H Q E ds D G hr ⟨⟨c, r, ks, y, rfl, hsz, hw⟩, rfl⟩ k
    refine go_when (q := true) ((pt_not (pt_val (pv_call Fi hr (pa_cons (pv_var 0) (pa_cons (pv_var 1) pa_nil)) ⟨c, r, ks, y, rfl, hsz, rfl⟩))).is (by rw [hw]; rfl)) (fun _ => go_raise T tkR fun σ G' H' g' _ => k G' H' g') (fun h => nomatch h)
theorem ok_is_booking (F : Fun K "is_booking" "is_booking" s_is_booking f fd) (B : Bl mg) (C : Cs K w mg) (Fw : FcW P w K mg base) : FnOk P w K mg base (L2.CX P w) 2 f fd p_is_booking (spR K R_is_booking noB) := by
  refine okP F sc_is_booking (by rintro ds d ⟨c, r, ks, y, rfl, rfl⟩; rfl) ?_
  rintro cdv A outer s H Q E ds d G hr ⟨c, r, ks, y, rfl, rfl⟩ k
  obtain ⟨t12, h12⟩ := C.wishes
  cases hT : isTup y with
  | false =>
    have hw : isBooking c y = false := by cases y <;> first | rfl | cases hT
    exact go_when (Pw.pt (pw_orT ((pt_not (pt_isT B (pv_var 1))).is (by rw [hT]; rfl)))) (fun _ => go_ret (pv_bool.is (by rw [hw])) k) (fun h => nomatch h)
  | true =>
    obtain ⟨xs, rfl⟩ := tup_of hT
    by_cases hl : xs.length = 2
    · obtain ⟨a, b, rfl⟩ := list2 hl
      cases ha : within a 0 (c - 1) with
      | false =>
        have hw : isBooking c (.tuple [a, b]) = false := by show (within a 0 (c - 1) && _) = false; rw [ha]; rfl
        exact go_when (q := true) (Pw.pt (pw_orF ((pt_not (pt_isT B (pv_var 1))).is (by rfl)) (pw_orF ((pt_neI (pv_len B.len (pv_var 1) rfl) pv_int).is (by rfl)) (pw_or1 ((pt_not (pt_val (pv_call Fw hr (pa_cons (pv_ix (pv_var 1) pv_int rfl) (pa_cons pv_int (pa_cons (pv_sub (pv_ix (pv_var 0) pv_int rfl) pv_int) pa_nil))) ⟨a, 0, c - 1, rfl, rfl⟩))).is (by rw [ha]; rfl)))))) (fun _ => go_ret (pv_bool.is (by rw [hw])) k) (fun h => nomatch h)
      | true =>
        refine go_when (q := false) (Pw.pt (pw_orF ((pt_not (pt_isT B (pv_var 1))).is (by rfl)) (pw_orF ((pt_neI (pv_len B.len (pv_var 1) rfl) pv_int).is (by rfl)) (pw_or1 ((pt_not (pt_val (pv_call Fw hr (pa_cons (pv_ix (pv_var 1) pv_int rfl) (pa_cons pv_int (pa_cons (pv_sub (pv_ix (pv_var 0) pv_int rfl) pv_int) pa_nil))) ⟨a, 0, c - 1, rfl, rfl⟩))).is (by rw [ha]; rfl)))))) (fun h => nomatch h) (fun _ => ?_)
        refine go_ret ((pv_call Fw hr (pa_cons (pv_ix (pv_var 1) pv_int rfl) (pa_cons pv_int (pa_cons (pv_sub (pv_gint h12) pv_int) pa_nil))) ⟨b, 0, 12 - 1, rfl, rfl⟩).is ?_) k
        show Dn.d (.bool (within b 0 11)) = Dn.d (.bool (within a 0 (c - 1) && within b 0 11))
        rw [ha]
        rfl
    · have hw := isBooking_len (r := c) hl
      exact go_when (Pw.pt (pw_orF ((pt_not (pt_isT B (pv_var 1))).is (by rfl)) (pw_orT ((pt_neI (pv_len B.len (pv_var 1) rfl) pv_int).is (lenNe hl))))) (fun _ => go_ret (pv_bool.is (by rw [hw])) k) (fun h => nomatch h)
abbrev FcBo (P : Program) (w : World) (K : PySem.W.Frag) (mg : Str → Option Value) (base : Heap) : Prop := Fc P w K mg base 2 "is_booking" (spR K R_is_booking noB)
theorem ix_zero (x : PyData) (rest : List PyData) : ixD (.tuple (x :: rest)) 0 = some x := atI_nat (j := 0) rfl
theorem ix_one (x y : PyData) (rest : List PyData) : ixD (.tuple (x :: y :: rest)) 1 = some y := atI_nat (j := 1) rfl
theorem booking_int {c : Int} {y : PyData} (h : isBooking c y = true) : ∃ i j, y = .tuple [.int i, .int j] ∧ 0 ≤ i ∧ i ≤ c - 1 ∧ 0 ≤ j ∧ j ≤ 11 := by
  unfold isBooking at h
  split at h
  · rw [Bool.and_eq_true] at h
    obtain ⟨i, rfl, i1, i2⟩ := within_int h.1
    obtain ⟨j, rfl, j1, j2⟩ := within_int h.2
    exact ⟨i, j, rfl, i1, i2, j1, j2⟩
  · cases h
end
end Fb

namespace Fb
open PySem PySem.Spec PyProof.Rows L2 Evl
/-! ### copies.py: the book is made, written and read -/
structure Tc (K : PySem.W.Frag) (C : Addr) : Prop where
  cl : Cls K C
  nW : NoAttr K C "world"
  nM : NoAttr K C "mine"
  nF : NoAttr K C "facts"
  nC : NoAttr K C "clock"
  nO : NoAttr K C "own"
  nS : NoAttr K C "seen"
theorem pv_fldD {X : Cx} {o : Expr} {r : Rho} {q C : Addr} {fs : List (Str × Fd)} {f : Str} {x : PyData} {pos : Pos} (ho : Pv X o r (.ob q C fs)) (hc : Cls X.K C) (hn : NoAttr X.K C f) (hl : fs.lookup f = some (.d x)) (hb : attributeBase o f X.env (eval o X.env) = eval o X.env := by rfl) : Pv X (.Attribute o f pos) r (.d x) := pv_fld (fd := .d x) ho hc hn hl hb
theorem pv_fldT {X : Cx} {o : Expr} {r : Rho} {q C : Addr} {fs : List (Str × Fd)} {f : Str} {x : List (List Key × PyData)} {pos : Pos} (ho : Pv X o r (.ob q C fs)) (hc : Cls X.K C) (hn : NoAttr X.K C f) (hl : fs.lookup f = some (.t x)) (hb : attributeBase o f X.env (eval o X.env) = eval o X.env := by rfl) : Pv X (.Attribute o f pos) r (.t x) := pv_fld (fd := .t x) ho hc hn hl hb
section
variable {K : PySem.W.Frag} {C p l sd : Addr} {G H : Hp} {b : Bk}
theorem CopyAt.setC (A : CopyAt K C G H p l sd b) (i : Int) : ∃ dx wv, H p = some (.ins C dx (bkF b wv l sd)) ∧ CopyAt K C G (upd H p (.ins C dx (putF "clock" (.int i) (bkF b wv l sd)))) p l sd { b with clock := i } := by
  obtain ⟨gp, gl, gs, dx, wv, fvs, svs, h1, h2, h3, h4, h5, h6⟩ := A
  have nl : l ≠ p := fun z => by subst z; rw [h1] at h3; cases h3
  have ns : sd ≠ p := fun z => by subst z; rw [h1] at h5; cases h5
  exact ⟨dx, wv, h1, gp, gl, gs, dx, wv, fvs, svs, by rw [upd_same, bf_setC], h2, by rw [upd_ne nl]; exact h3, h4, by rw [upd_ne ns]; exact h5, h6⟩
theorem CopyAt.setO (A : CopyAt K C G H p l sd b) (i : Int) : ∃ dx wv, H p = some (.ins C dx (bkF b wv l sd)) ∧ CopyAt K C G (upd H p (.ins C dx (putF "own" (.int i) (bkF b wv l sd)))) p l sd { b with own := i } := by
  obtain ⟨gp, gl, gs, dx, wv, fvs, svs, h1, h2, h3, h4, h5, h6⟩ := A
  have nl : l ≠ p := fun z => by subst z; rw [h1] at h3; cases h3
  have ns : sd ≠ p := fun z => by subst z; rw [h1] at h5; cases h5
  exact ⟨dx, wv, h1, gp, gl, gs, dx, wv, fvs, svs, by rw [upd_same, bf_setO], h2, by rw [upd_ne nl]; exact h3, h4, by rw [upd_ne ns]; exact h5, h6⟩
theorem CopyAt.setL (A : CopyAt K C G H p l sd b) : ∃ dx wv fvs, H p = some (.ins C dx (bkF b wv l sd)) ∧ H l = some (.lst fvs) ∧ fvs.length = b.facts.length ∧ ∀ G2 H2 v y, Gr G H G2 H2 → Dp K G2 v y → CopyAt K C G2 (upd H2 l (.lst (fvs ++ [v]))) p l sd { b with facts := b.facts ++ [y] } := by
  obtain ⟨gp, gl, gs, dx, wv, fvs, svs, h1, h2, h3, h4, h5, h6⟩ := A
  have nl : p ≠ l := fun z => by subst z; rw [h1] at h3; cases h3
  have ns : sd ≠ l := fun z => by subst z; rw [h3] at h5; cases h5
  refine ⟨dx, wv, fvs, h1, h3, DpAll.len h4, fun G2 H2 v y k q => ?_⟩
  exact ⟨k.out gp (some_nt h1), k.out gl (some_nt h3), k.out gs (some_nt h5), dx, wv, _, svs, by rw [upd_ne nl]; exact k.h _ _ h1, dp_up k.g _ _ h2, upd_same, DpAll.app (dpAll_up k.g _ _ h4) (.cons q .nil), by rw [upd_ne ns]; exact k.h _ _ h5, L2.Paired.mapP h6 fun _ _ z => ⟨z.1, dp_up k.g _ _ z.2⟩⟩
theorem CopyAt.is (A : CopyAt K C G H p l sd b) {b' : Bk} (h : b = b') : CopyAt K C G H p l sd b' := h ▸ A
end
def Bk.put (b : Bk) (y : PyData) : Bk := if b.facts.any (fun z => PyData.eqv z y) = true then b else { b with facts := b.facts ++ [y] }
theorem put_old {b : Bk} {y : PyData} (h : (!b.facts.any fun z => PyData.eqv z y) = false) : b.put y = b := by
  unfold Bk.put
  rw [if_pos (by simpa using h)]
theorem put_new {b : Bk} {y : PyData} (h : (!b.facts.any fun z => PyData.eqv z y) = true) : b.put y = { b with facts := b.facts ++ [y] } := by
  unfold Bk.put
  rw [if_neg (by simpa using h)]
structure BkOk (b : Bk) (n : Nat) : Prop where
  good : ∀ z, z ∈ b.facts → Good z
  len : b.facts.length ≤ n
theorem BkOk.put {b : Bk} {n : Nat} {y : PyData} (h : BkOk b n) (hy : Good y) : BkOk (b.put y) (n + 1) := by
  unfold Bk.put
  split
  · exact ⟨h.good, by have := h.len; omega⟩
  · refine ⟨fun z hz => ?_, by simp; exact h.len⟩
    rcases List.mem_append.mp hz with q | q
    · exact h.good z q
    · simp at q; subst q; exact hy
theorem BkOk.mono {b : Bk} {m n : Nat} (h : BkOk b m) (k : m ≤ n) : BkOk b n := ⟨h.good, Nat.le_trans h.len k⟩
def R_put : Bk → List PyData → Bk → PyData → Prop := fun b ds b' d => ∃ y, ds = [y] ∧ Good y ∧ BkOk b 9000 ∧ b' = b.put y ∧ d = .none
def R_tick : Bk → List PyData → Bk → PyData → Prop := fun b ds b' d => ds = [] ∧ b' = { b with clock := b.clock + 1 } ∧ d = .tuple [.int (b.clock + 1), .int b.mine]
abbrev noBm : Bk → List PyData → Addr → Prop := fun _ _ _ => False
section
variable {P : Program} {w : World} {K : PySem.W.Frag} {mg : Str → Option Value} {base : Heap} {f : Addr} {fd : FuncData} {C : Addr}
theorem ok_put (F : Fun K "put" "Copy.put" s_Copy_put f fd) (T : Tc K C) : FnOk P w K mg base (L2.CX P w) 1 f fd p_Copy_put (spM K C R_put noBm) := by
  refine okM F sc_Copy_put (by rintro b ds b' d ⟨y, rfl, _⟩; rfl) (by rintro b ds A ⟨⟩) ?_ (by rintro _ _ _ _ _ _ _ _ _ _ _ _ _ _ _ _ _ ⟨⟩)
  rintro cdv A outer s H Q E p l sd b ds b' d G hr g A1 ⟨y, rfl, gy, hb, rfl, rfl⟩ k
  refine gx_when fun G1 H1 g1 => ?_
  have A2 := A1.up g1
  refine ft_own g1.s (A2.own (i := 0) rfl) (pt_ninD (by have := hr.un; show A.units + 3 + 65 < _; have e : (A.deeper (envOfC "Copy.put" (defScope s_Copy_put) s.heap.objs.size f cdv)).units = A.units + 3 := rfl; omega) (pv_var 1) (pv_fldD (pv_var 0) T.cl T.nF (fs_facts b)) gy.shaped (good_list hb.good)) fun G2 H2 g2 => ⟨fun hq => ?_, fun hq => ?_⟩
  · refine gx_expr fun G3 H3 g3 => ?_
    have A3 := (A2.up g2).up g3
    refine fx_append (fx_fld g3.s T.cl T.nF (pv_var 0) fun G4 H4 g4 => ?_)
    have A4 := A3.up g4
    obtain ⟨dx, wv, fvs, h1, h2, h3, h4⟩ := A4.setL
    refine ⟨dx, _, .ref l, h1, bf_facts b wv l sd, l, fvs, rfl, h2, fx_pv g4.s (pv_var 1) fun yv G5 H5 g5 dy => ⟨fvs, g5.h _ _ h2, ?_, g5.out A4.gl (some_nt h2), go_nil fun σ H6 ⟨G6, g6, _⟩ => wSs_of pss_nil ?_⟩⟩
    · have := hb.len
      rw [h3, sizeLine_eq]
      omega
    · have gg := (((g1.trans g2).trans g3).trans g4).trans g5
      exact k .non G6 H6 sd ((gg.x.trans (Gx.set g5.s (by simp) (g5.out A4.gl (some_nt h2)))).trans g6.x) (.inl rfl) (((h4 G5 H5 yv y g5 dy).up g6).is (put_new hq).symm) Dp.non
  · exact go_nil fun σ H6 ⟨G6, g6, _⟩ => k .non G6 H6 sd ((g1.trans g2).trans g6).x (.inl rfl) (((A2.up g2).up g6).is (put_old hq).symm) Dp.non
theorem ok_tick (F : Fun K "tick" "Copy.tick" s_Copy_tick f fd) (T : Tc K C) : FnOk P w K mg base (L2.CX P w) 1 f fd p_Copy_tick (spM K C R_tick noBm) := by
  refine okM F sc_Copy_tick (by rintro b ds b' d ⟨rfl, _⟩; rfl) (by rintro b ds A ⟨⟩) ?_ (by rintro _ _ _ _ _ _ _ _ _ _ _ _ _ _ _ _ _ ⟨⟩)
  rintro cdv A outer s H Q E p l sd b ds b' d G hr g A1 ⟨rfl, rfl, rfl⟩ k
  refine gx_inc T.cl T.nC (pv_var 0) pv_int fun G1 H1 g1 => ?_
  have A2 := A1.up g1
  obtain ⟨dx, wv, h1, A3⟩ := A2.setC (b.clock + 1)
  refine ⟨dx, _, b.clock, h1, bf_clock b wv l sd, by show 6 < 1000; decide, A2.gp, gx_ret fun G4 H4 g4 => ?_⟩
  have A4 := A3.up g4
  refine fx_own g4.s (A4.own (i := 0) rfl) (pv_tup (pd_cons (pv_fldD (pv_var 0) T.cl T.nC (fs_clock _)) (pd_cons (pv_fldD (pv_var 0) T.cl T.nM (fs_mine _)) pd_nil))) rfl fun v G5 H5 g5 q5 => ?_
  exact k v G5 H5 sd ((g1.x.trans (Gx.set g1.s (by simp) A2.gp)).trans (g4.trans g5).x) (.inl rfl) (A4.up g5) q5
end
end Fb

namespace Fb
open PySem PySem.Spec PyProof.Rows L2 Evl
/-! ### copies.py: __init__, wish, told, heard -/
/-- __init__: a book; or BadWorld (CW), BadCopy (CC) -/
def spI (K : PySem.W.Frag) (C CW CC : Addr) : Sp := fun vs H Q E => ∃ (p dx : Addr) (wv mv : V) (wd md : PyData) (G : Hp), vs = [.ref p, wv, mv] ∧ Ex G H ∧ G p = none ∧ H p = some (.ins C dx []) ∧ Dp K G wv wd ∧ Dp K G mv md ∧ szOk wd = true ∧
  (isWorld wd = false → ∀ G' H', Gr G H G' H' → E (.ref CW) none H') ∧
  (∀ c r ks, wd = wD c r ks → isWorld wd = true → within md 0 (c - 1) = false → ∀ G' H', Gr G H G' H' → E (.ref CC) none H') ∧
  (∀ c r ks i, wd = wD c r ks → isWorld wd = true → md = .int i → within md 0 (c - 1) = true → ∀ G' H' l sd, Gx [p] G H G' H' → H l = none → H sd = none → CopyAt K C G' H' p l sd ⟨c, r, ks, i, [], 0, 0, []⟩ → Q .non H')
theorem Gx.fresh {os : List Addr} {G H G2 H2 : Hp} (k : Gx os G H G2 H2) {a : Addr} (h : H2 a = none) : H a = none := by
  cases q : H a with
  | none => rfl
  | some o => exact absurd h (k.t a (some_ne q))
theorem Gx.comp {p l sd sd' : Addr} {G H G1 H1 G2 H2 : Hp} (a : Gx [p, l, sd] G H G1 H1) (b : Gx [p, l, sd'] G1 H1 G2 H2) (hs : sd' = sd ∨ H sd' = none) : Gx [p, l, sd] G H G2 H2 := by
  have b2 : Gx [p, l, sd, sd'] G1 H1 G2 H2 := b.mono fun z hz => by
    simp only [List.mem_cons, List.not_mem_nil, or_false] at hz ⊢
    rcases hz with h | h | h
    · exact .inl h
    · exact .inr (.inl h)
    · exact .inr (.inr (.inr h))
  have a2 : Gx [p, l, sd, sd'] G H G1 H1 := a.mono fun z hz => by
    simp only [List.mem_cons, List.not_mem_nil, or_false] at hz ⊢
    rcases hz with h | h | h
    · exact .inl h
    · exact .inr (.inl h)
    · exact .inr (.inr (.inl h))
  have c := a2.trans b2
  refine ⟨c.g, c.s, fun z o hz ho => c.h z o (fun q => ?_) ho, c.t, c.n, c.f⟩
  simp only [List.mem_cons, List.not_mem_nil, or_false, not_or] at hz q
  rcases q with q | q | q | q
  · exact hz.1 q
  · exact hz.2.1 q
  · exact hz.2.2 q
  · rcases hs with e | e
    · exact hz.2.2 (q.trans e)
    · rw [q, e] at ho; cases ho
section
variable {P : Program} {w : World} {K : PySem.W.Frag} {mg : Str → Option Value} {base : Heap} {f : Addr} {fd : FuncData} {C CW CC CF CB : Addr}
abbrev FcLW (P : Program) (w : World) (K : PySem.W.Frag) (mg : Str → Option Value) (base : Heap) (CW : Addr) : Prop := Fc P w K mg base 3 "look_world" (spR K (R_look L_world) (B_look L_world CW))
theorem ok_init (F : Fun K "__init__" "Copy.__init__" s_Copy_init f fd) (T : Tc K C) (Fl : FcLW P w K mg base CW) (Fw : FcW P w K mg base) (TC : Ec K mg "BadCopy" CC) : FnOk P w K mg base (L2.CX P w) 4 f fd p_Copy_init (spI K C CW CC) := by
  refine F.okX sc_Copy_init ?_ (fun cdv A outer s H vs Q E hr h => ⟨_, pss_w, ?_⟩)
  · rintro vs H Q E ⟨p, dx, wv, mv, wd, md, G, rfl, _⟩
    rfl
  obtain ⟨p, dx, wv, mv, wd, md, G, rfl, g, gp, hp, hw, hm, hsz, kW, kC, kN⟩ := h
  have hD : Dens K G [.ref p, wv, mv] [.v (.ref p), .d wd, .d md] := .cons (show Den K G (.ref p) (.v (.ref p)) from rfl) (.cons hw (.cons hm .nil))
  refine go_in g hD ?_
  cases hW : isWorld wd with
  | false => exact go_doX Fl hr (pa_cons (pv_var 1) pa_nil) ⟨⟨wd, rfl, hsz, hW⟩, rfl⟩ tkR fun σ G' H' g' _ => kW hW G' H' g'
  | true =>
    obtain ⟨c, r, ks, rfl, _⟩ := isWorld_shape hW
    refine go_expr (pv_call Fl hr (pa_cons (pv_var 1) pa_nil) ⟨⟨_, rfl, hsz, hW⟩, rfl⟩) ?_
    cases hM : within md 0 (c - 1) with
    | false => exact go_when (q := true) ((pt_not (pt_val (pv_call Fw hr (pa_cons (pv_var 2) (pa_cons pv_int (pa_cons (pv_sub (pv_ix (pv_var 1) pv_int rfl) pv_int) pa_nil))) ⟨md, 0, c - 1, rfl, rfl⟩))).is (by rw [hM]; rfl)) (fun _ => go_raise TC tkR fun σ G' H' g' _ => kC c r ks rfl hW hM G' H' g') (fun h => nomatch h)
    | true =>
      refine go_when (q := false) ((pt_not (pt_val (pv_call Fw hr (pa_cons (pv_var 2) (pa_cons pv_int (pa_cons (pv_sub (pv_ix (pv_var 1) pv_int rfl) pv_int) pa_nil))) ⟨md, 0, c - 1, rfl, rfl⟩))).is (by rw [hM]; rfl)) (fun h => nomatch h) (fun _ => ?_)
      obtain ⟨i, rfl, _⟩ := within_int hM
      refine gx_put T.cl T.nW (pv_var 0) (pv_var 1) gp hp (by decide) fun v1 G1 H1 x1 gp1 hp1 d1 => ?_
      refine gx_put T.cl T.nM (pv_var 0) (pv_var 2) gp1 hp1 (by show 1 < 1000; decide) fun v2 G2 H2 x2 gp2 hp2 d2 => ?_
      refine gx_putL T.cl T.nF (pv_var 0) gp2 hp2 (by show 2 < 1000; decide) fun l G3 H3 fl x3 gp3 gl3 hp3 hl3 => ?_
      refine gx_put T.cl T.nC (pv_var 0) pv_int gp3 hp3 (by show 3 < 1000; decide) fun v4 G4 H4 x4 gp4 hp4 d4 => ?_
      refine gx_put T.cl T.nO (pv_var 0) pv_int gp4 hp4 (by show 4 < 1000; decide) fun v5 G5 H5 x5 gp5 hp5 d5 => ?_
      refine gx_putD T.cl T.nS (pv_var 0) gp5 hp5 (by show 5 < 1000; decide) fun sd G6 H6 fs x6 gp6 gs6 hp6 hs6 => ?_
      refine go_nil fun σ H7 ⟨G7, g7, _⟩ => ?_
      have e2 := den_int d2
      have e4 := den_int d4
      have e5 := den_int d5
      subst e2 e4 e5
      have nl : l ∉ [p] := fun z => by simp at z; subst z; rw [hp3] at hl3; cases hl3
      have xx := ((x1.trans x2).trans x3).trans (x4.trans (x5.trans x6))
      have l4 := (x4.trans (x5.trans x6)).h l _ nl hl3
      have gl6 := (x4.trans (x5.trans x6)).out gl3 (some_nt hl3)
      rw [bf_made ⟨c, r, ks, i, [], 0, 0, []⟩ v1 l sd] at hp6
      have dw := dp_up (x2.trans (x3.trans (x4.trans (x5.trans x6)))).g _ _ d1
      have CA : CopyAt K C G6 H6 p l sd ⟨c, r, ks, i, [], 0, 0, []⟩ := ⟨gp6, gl6, gs6, dx, v1, [], [], hp6, dw, l4, .nil, hs6, .nil⟩
      exact kN c r ks i rfl hW rfl hM G7 H7 l sd (xx.trans g7.x) ((x1.trans x2).fresh fl) ((x1.trans (x2.trans (x3.trans (x4.trans x5)))).fresh fs) (CA.up g7)

def Bk.wish (b : Bk) (y : PyData) : Bk := ({ b with own := b.own + 1, clock := b.clock + 1 } : Bk).put (.tuple [.str "wish", .tuple [.int b.mine, .int b.own], .tuple [.int (b.clock + 1), .int b.mine], y])
def R_wish : Bk → List PyData → Bk → PyData → Prop := fun b ds b' d => ∃ y, ds = [y] ∧ szOk y = true ∧ isWish b.r y = true ∧ b.own ≠ 12 ∧ Good (.tuple [.str "wish", .tuple [.int b.mine, .int b.own], .tuple [.int (b.clock + 1), .int b.mine], y]) ∧ BkOk b 9000 ∧ b' = b.wish y ∧ d = .tuple [.int b.mine, .int b.own]
def B_wish (CB CF : Addr) : Bk → List PyData → Addr → Prop := fun b ds Z => ∃ y, ds = [y] ∧ szOk y = true ∧ (isWish b.r y = false ∧ Z = CB ∨ isWish b.r y = true ∧ b.own = 12 ∧ Z = CF)
abbrev FcLWi (P : Program) (w : World) (K : PySem.W.Frag) (mg : Str → Option Value) (base : Heap) (CB : Addr) : Prop := Fc P w K mg base 4 "look_wish" (spR K (R_look L_wish) (B_look L_wish CB))
abbrev FmPut (P : Program) (w : World) (K : PySem.W.Frag) (mg : Str → Option Value) (base : Heap) (C : Addr) : Prop := Fm P w K mg base 1 C "put" (spM K C R_put noBm)
abbrev FmTick (P : Program) (w : World) (K : PySem.W.Frag) (mg : Str → Option Value) (base : Heap) (C : Addr) : Prop := Fm P w K mg base 1 C "tick" (spM K C R_tick noBm)
theorem ok_wish (F : Fun K "wish" "Copy.wish" s_Copy_wish f fd) (T : Tc K C) (Cc : Cs K w mg) (Fl : FcLWi P w K mg base CB) (Fp : FmPut P w K mg base C) (Ft : FmTick P w K mg base C) (TF : Ec K mg "Full" CF) : FnOk P w K mg base (L2.CX P w) 5 f fd p_Copy_wish (spM K C R_wish (B_wish CB CF)) := by
  obtain ⟨tw, hmw⟩ := Cc.wishes
  refine okM F sc_Copy_wish (by rintro b ds b' d ⟨y, rfl, _⟩; rfl) (by rintro b ds A ⟨y, rfl, _⟩; rfl) ?_ ?_
  · rintro cdv A outer s H Q E p l sd b ds b' d G hr g A1 ⟨y, rfl, hsz, hw, hown, gy, hb, rfl, rfl⟩ k
    refine gx_expr fun G1 H1 g1 => fx_do Fl hr tkR g1.s ((A1.up g1).own (i := 0) rfl) (pa_cons (pv_fldD (pv_var 0) T.cl T.nW (fs_world b)) (pa_cons (pv_var 1) pa_nil)) (.inl ⟨.none, ⟨⟨b.c, b.r, b.ks, y, rfl, hsz, hw⟩, rfl⟩, rfl, fun _ G2 H2 g2 _ => ?_⟩)
    refine gx_when fun G3 H3 g3 => ?_
    have A3 := ((A1.up g1).up g2).up g3
    refine ft_own g3.s (A3.own (i := 0) rfl) ((pt_eqI (pv_fldD (pv_var 0) T.cl T.nO (fs_own b)) (pv_gint hmw)).is (decide_eq_false hown)) fun G4 H4 g4 => ⟨(fun h => nomatch h), fun _ => ?_⟩
    refine gx_set 2 (fun G5 H5 g5 => ?_) sc_Copy_wish.nd
    have A5 := (A3.up g4).up g5
    refine fx_own g5.s (A5.own (i := 0) rfl) (pv_tup (pd_cons (pv_fldD (pv_var 0) T.cl T.nM (fs_mine b)) (pd_cons (pv_fldD (pv_var 0) T.cl T.nO (fs_own b)) pd_nil))) rfl fun v6 G6 H6 g6 q6 => ⟨.d (.tuple [.int b.mine, .int b.own]), q6, ?_⟩
    have A6 := A5.up g6
    refine gx_inc T.cl T.nO (pv_var 0) pv_int fun G7 H7 g7 => ?_
    have A7 := A6.up g7
    obtain ⟨dx, wv, h1, A8⟩ := A7.setO (b.own + 1)
    refine ⟨dx, _, b.own, h1, bf_own b wv l sd, by show 6 < 1000; decide, A7.gp, ?_⟩
    have x8 := ((((((g1.trans g2).trans g3).trans g4).trans g5).trans g6).trans g7).x.trans (Gx.set (os := [p, l, sd]) (o := .ins C dx (putF "own" (.int (b.own + 1)) (bkF b wv l sd))) g7.s (by simp) A7.gp)
    refine gx_expr fun G9 H9 g9 => fx_meth Fp T.cl hr tkR g9.s (pv_var 0) fun G10 H10 g10 => ?_
    have A10 := (A8.up g9).up g10
    obtain ⟨dx2, wv2, fvs2, h2, _⟩ := A10.setL
    refine ⟨dx2, _, h2, bf_no _ _ _ _ (by decide +kernel), fa_cons (fx_tup (fa_cons (fx_pv g10.s pv_str fun v11 G11 H11 g11 q11 => fa_cons (fx_pv g11.s (pv_var 2) fun v12 G12 H12 g12 q12 => fa_cons (fx_meth0 Ft T.cl hr tkR g12.s (pv_var 0) fun G13 H13 g13 => ?_)))))⟩
    have A13 := ((A10.up g11).up g12).up g13
    obtain ⟨dx3, wv3, fvs3, h3, _⟩ := A13.setL
    refine ⟨dx3, _, h3, bf_no _ _ _ _ (by decide +kernel), p, l, sd, _, [], [], G13, rfl, g13.s, A13, .nil, .inl ⟨_, _, ⟨rfl, rfl, rfl⟩, fun v14 G14 H14 sd' x14 hsd A14 q14 => ?_⟩⟩
    refine ⟨G14, x14.g, x14.s, fa_cons (fx_pv x14.s (pv_var 1) fun v15 G15 H15 g15 q15 => fa_nil g15.s ⟨by simp, fun t ht => fa_nil (Gr.new g15.s ht).s ?_⟩)⟩
    have kn := Gr.new (o := .tup [v11, v12, v14, v15]) g15.s ht
    have hDp : Dp K (upd G15 t (.tup [v11, v12, v14, v15])) (.ref t) (.tuple [.str "wish", .tuple [.int b.mine, .int b.own], .tuple [.int (b.clock + 1), .int b.mine], y]) := Dp.tup (.inl upd_same) (.cons (dp_up (((((g12.trans g13).g.trans x14.g).trans g15.g)).trans kn.g) _ _ q11) (.cons (dp_up (((g13.g.trans x14.g).trans g15.g).trans kn.g) _ _ q12) (.cons (dp_up (g15.g.trans kn.g) _ _ q14) (.cons (dp_up kn.g _ _ q15) .nil))))
    refine ⟨p, l, sd', _, [.ref t], [_], _, rfl, kn.s, (A14.up g15).up kn, .cons hDp .nil, .inl ⟨_, _, ⟨_, rfl, gy, ⟨hb.good, hb.len⟩, rfl, rfl⟩, fun v16 G16 H16 sd2 x16 hsd2 A16 q16 => ⟨G16, x16.g, x16.s, ?_⟩⟩⟩
    refine go_ret (pv_var 2) fun v17 G17 H17 g17 q17 => ?_
    have y1 : Gx [p, l, sd] G H G13 H13 := x8.trans (((((g9.trans g10).trans g11).trans g12).trans g13)).x
    have hs' : sd' ≠ sd → H13 sd' = none := fun z => hsd.elim (fun q => absurd q z) id
    have y2 : Gx [p, l, sd] G H (upd G15 t (.tup [v11, v12, v14, v15])) (upd H15 t (.tup [v11, v12, v14, v15])) := (y1.trans x14).trans (g15.trans kn).x
    have hsdH : sd' = sd ∨ H sd' = none := hsd.imp id fun z => y1.fresh z
    have hsdH2 : sd2 = sd' ∨ H sd2 = none := hsd2.imp id fun z => y2.fresh z
    refine k v17 G17 H17 sd2 ?_ ?_ (A16.up g17) q17
    · exact (y2.comp x16 hsdH).trans g17.x
    · rcases hsdH2 with z | z
      · rw [z]; exact hsdH
      · exact .inr z
  · rintro cdv A outer s H Q E p l sd b ds Z G hr g A1 ⟨y, rfl, hsz, hZ⟩ k
    rcases hZ with ⟨hw, rfl⟩ | ⟨hw, hown, rfl⟩
    · exact gx_expr fun G1 H1 g1 => fx_do Fl hr tkR g1.s ((A1.up g1).own (i := 0) rfl) (pa_cons (pv_fldD (pv_var 0) T.cl T.nW (fs_world b)) (pa_cons (pv_var 1) pa_nil)) (.inr ⟨_, ⟨⟨b.c, b.r, b.ks, y, rfl, hsz, hw⟩, rfl⟩, fun σ G2 H2 g2 _ => k G2 H2 (g1.trans g2)⟩)
    · refine gx_expr fun G1 H1 g1 => fx_do Fl hr tkR g1.s ((A1.up g1).own (i := 0) rfl) (pa_cons (pv_fldD (pv_var 0) T.cl T.nW (fs_world b)) (pa_cons (pv_var 1) pa_nil)) (.inl ⟨.none, ⟨⟨b.c, b.r, b.ks, y, rfl, hsz, hw⟩, rfl⟩, rfl, fun _ G2 H2 g2 _ => ?_⟩)
      refine gx_when fun G3 H3 g3 => ?_
      have A3 := ((A1.up g1).up g2).up g3
      exact ft_own g3.s (A3.own (i := 0) rfl) ((pt_eqI (pv_fldD (pv_var 0) T.cl T.nO (fs_own b)) (pv_gint hmw)).is (decide_eq_true hown)) fun G4 H4 g4 => ⟨fun _ => go_raise TF tkR fun σ G' H' g' _ => k G' H' ((((g1.trans g2).trans g3).trans g4).trans g'), fun h => nomatch h⟩
end
end Fb

namespace Fb
open PySem PySem.Spec PyProof.Rows L2 Evl
/-! ### copies.py: told, heard -/
theorem fact_shape {c r : Int} {y : PyData} (h : isFact c r y = true) : (∃ q, y = .tuple [.str "off", q] ∧ isBooking c q = true) ∨ ∃ z q m x t, y = .tuple [.str z, q, .tuple [.int m, .int x], t] ∧ z ≠ "off" ∧ isBooking c q = true ∧ 1 ≤ m ∧ m ≤ 9999 ∧ 0 ≤ x ∧ x ≤ c - 1 ∧ (z = "wish" ∧ isWish r t = true ∧ sameCopy (.tuple [.int m, .int x]) q = true ∨ z = "pin" ∧ isSpot r t = true) := by
  unfold isFact at h
  split at h
  · rw [Bool.and_eq_true, decide_eq_true_iff] at h
    exact .inl ⟨_, by rw [h.1], h.2⟩
  · rename_i z q m t
    rw [Bool.and_eq_true, Bool.and_eq_true] at h
    obtain ⟨⟨h1, h2⟩, h3⟩ := h
    unfold isMoment at h2
    split at h2
    · rw [Bool.and_eq_true] at h2
      obtain ⟨i, rfl, i1, i2⟩ := within_int h2.1
      obtain ⟨j, rfl, j1, j2⟩ := within_int h2.2
      rw [Bool.or_eq_true, Bool.and_eq_true, Bool.and_eq_true, Bool.and_eq_true, decide_eq_true_iff, decide_eq_true_iff] at h3
      refine .inr ⟨z, q, i, j, t, rfl, ?_, h1, i1, i2, j1, j2, h3⟩
      rcases h3 with ⟨rfl, _⟩ | ⟨rfl, _⟩ <;> decide +kernel
    · cases h2
  · cases h
theorem good_int (i : Int) : Good (.int i) := ⟨rfl, rfl, by simp [PyData.depth]⟩
theorem good_small {z : Str} (h : z.cps.toList.all (fun c => decide (c ∈ smallTxt.cps.toList)) = true) : Good (.str z) := by
  refine ⟨rfl, ?_, by simp [PyData.depth]⟩
  show PyData.strOk z = true
  have hs : smallTxt.cps.toList.all (fun c => decide (c < 0x110000)) = true := by decide +kernel
  rw [List.all_eq_true] at h hs
  unfold PyData.strOk
  rw [← Array.all_toList, List.all_eq_true]
  intro c hc
  exact hs c (by simpa using h c hc)
theorem good_booking {c : Int} {q : PyData} (h : isBooking c q = true) : Good q ∧ q.depth ≤ 2 := by
  obtain ⟨i, j, rfl, _⟩ := booking_int h
  exact ⟨good_tup (by intro x hx; simp at hx; rcases hx with rfl | rfl <;> exact good_int _) (by simp [PyData.depthAll, PyData.depth]), by simp [PyData.depthAll, PyData.depth]⟩
theorem good_wish {r : Int} {t : PyData} (h : isWish r t = true) : Good t ∧ t.depth ≤ 2 := by
  unfold isWish at h
  split at h
  · rename_i nm room hour long rank
    simp only [Bool.and_eq_true] at h
    obtain ⟨⟨h1, _⟩, h2, h3⟩ := h
    unfold isPlace at h2
    rw [Bool.and_eq_true] at h2
    obtain ⟨i, rfl, _⟩ := within_int h2.1
    obtain ⟨j, rfl, _⟩ := within_int h2.2
    obtain ⟨k, rfl, _⟩ := within_int h3
    unfold isName at h1
    split at h1
    · rename_i z
      simp only [Bool.and_eq_true] at h1
      have gz : Good (.str z) := good_small (by simpa using h1.2)
      refine ⟨good_tup (by intro x hx; simp at hx; rcases hx with rfl | rfl | rfl | rfl | rfl <;> first | exact gz | exact good_int _) (by simp [PyData.depthAll, PyData.depth]), by simp [PyData.depthAll, PyData.depth]⟩
    · cases h1
  · cases h
theorem good_spot {r : Int} {t : PyData} (h : isSpot r t = true) : Good t ∧ t.depth ≤ 2 := by
  unfold isSpot at h
  split at h
  · unfold isPlace at h
    rw [Bool.and_eq_true] at h
    obtain ⟨i, rfl, _⟩ := within_int h.1
    obtain ⟨j, rfl, _⟩ := within_int h.2
    exact ⟨good_tup (by intro x hx; simp at hx; rcases hx with rfl | rfl <;> exact good_int _) (by simp [PyData.depthAll, PyData.depth]), by simp [PyData.depthAll, PyData.depth]⟩
  · cases h
theorem good_word {z : Str} (h : z = "wish" ∨ z = "pin" ∨ z = "off") : Good (.str z) := by
  rcases h with rfl | rfl | rfl <;> exact ⟨rfl, by decide +kernel, by simp [PyData.depth]⟩
theorem good_fact {c r : Int} {y : PyData} (h : isFact c r y = true) : Good y := by
  rcases fact_shape h with ⟨q, rfl, hq⟩ | ⟨z, q, m, x, t, rfl, _, hq, _, _, _, _, hz⟩
  · have g := good_booking hq
    have d := g.2
    exact good_tup (by intro x hx; simp at hx; rcases hx with rfl | rfl; exact good_word (.inr (.inr rfl)); exact g.1) (by simp [PyData.depthAll, PyData.depth]; omega)
  · have g := good_booking hq
    have d := g.2
    have gt : Good t ∧ t.depth ≤ 2 := hz.elim (fun z => good_wish z.2.1) (fun z => good_spot z.2)
    have dt := gt.2
    have gz : Good (.str z) := good_word (hz.elim (fun z => .inl z.1) (fun z => .inr (.inl z.1)))
    have gm : Good (.tuple [.int m, .int x]) := good_tup (by intro x hx; simp at hx; rcases hx with rfl | rfl <;> exact good_int _) (by simp [PyData.depthAll, PyData.depth])
    refine good_tup (by intro x hx; simp at hx; rcases hx with rfl | rfl | rfl | rfl; exact gz; exact g.1; exact gm; exact gt.1) (by simp [PyData.depthAll, PyData.depth]; omega)
def Bk.hear (b : Bk) (y : PyData) : Bk := match y with
  | .tuple [.str _, _, .tuple [.int m, _], _] => { b.put y with clock := if m > (b.put y).clock then m else (b.put y).clock }
  | _ => b.put y
theorem BkOk.hear {b : Bk} {n : Nat} {y : PyData} (h : BkOk b n) (hy : Good y) : BkOk (b.hear y) (n + 1) := by
  have := h.put hy
  unfold Bk.hear
  split
  · exact ⟨this.good, this.len⟩
  · exact this
theorem BkOk.hears {b : Bk} {n : Nat} : ∀ {fs : List PyData}, BkOk b n → (∀ y, y ∈ fs → Good y) → BkOk (fs.foldl Bk.hear b) (n + fs.length) := by
  intro fs
  induction fs generalizing b n with
  | nil => intro h _; exact h
  | cons y fs ih =>
    intro h hg
    have := ih (h.hear (hg y List.mem_cons_self)) fun z hz => hg z (List.mem_cons_of_mem _ hz)
    rw [List.foldl_cons]
    exact this.mono (by rw [List.length_cons]; omega)
theorem take_succ_of {α : Type} {l : List α} {i : Nat} {x : α} (h : l[i]? = some x) : l.take (i + 1) = l.take i ++ [x] := by
  rw [List.take_succ, h]
  rfl
def R_told1 (C : Addr) : List Dn → Dn → Prop := fun ds d => ∃ (p : Addr) (b : Bk), ds = [.ob p C b.fs] ∧ b.facts.length ≤ 1 ∧ d = .d (.tuple b.facts)
def R_heard : Bk → List PyData → Bk → PyData → Prop := fun b ds b' d => ∃ fs n, ds = [.tuple fs] ∧ szOk (.tuple fs) = true ∧ areFacts b.c b.r (.tuple fs) = true ∧ BkOk b n ∧ n + fs.length ≤ 9000 ∧ b' = fs.foldl Bk.hear b ∧ d = .int ((b'.facts.length : Int) - b.facts.length)
def B_heard (CF : Addr) : Bk → List PyData → Addr → Prop := fun b ds Z => ∃ y, ds = [y] ∧ szOk y = true ∧ areFacts b.c b.r y = false ∧ Z = CF
section
variable {P : Program} {w : World} {K : PySem.W.Frag} {mg : Str → Option Value} {base : Heap} {f : Addr} {fd : FuncData} {C CW CC CF CB : Addr}
theorem ok_told1 (F : Fun K "told" "Copy.told" s_Copy_told f fd) (B : Bl mg) (T : Tc K C) : FnOk P w K mg base (L2.CX P w) 1 f fd p_Copy_told (spR K (R_told1 C) noB) := by
  refine okP F sc_Copy_told (by rintro ds d ⟨p, b, rfl, _, rfl⟩; rfl) ?_
  rintro cdv A outer s H Q E ds d G hr ⟨p, b, rfl, hl, rfl⟩ k
  exact go_ret (pv_tupleL B.tuple (pv_sorted1 B.sorted (pv_fldD (pv_var 0) T.cl T.nF (fs_facts b)) hl)) k
end
end Fb

namespace Fb
open PySem PySem.Spec PyProof.Rows L2 Evl
/-! ### plans.py: wishes_in -/
theorem wk_seq {X : Cx} {e tg : Expr} {r : Rho} {y : PyData} {xs : List PyData} (hy : y = .list xs ∨ y = .tuple xs) (h : Pv X e r (.d y)) : Wk X tg e r (xs.map Dn.d) := by
  rcases hy with rfl | rfl
  · exact wk_list h
  · exact wk_tup h
def Fct.w : Fct → Str
  | .off _ => "off"
  | .pin _ _ _ => "pin"
  | .wish _ _ _ => "wish"
theorem fct_ix0 (f : Fct) : ixD f.d 0 = some (.str f.w) := by cases f <;> exact ix_zero _ _
theorem fct_ix1 (f : Fct) : ixD f.d 1 = some (prD f.bk) := by cases f <;> exact ix_one _ _ _
theorem pr_ix0 (p : Pr) : ixD (prD p) 0 = some (.int p.1) := ix_zero _ _
theorem pr_ix1 (p : Pr) : ixD (prD p) 1 = some (.int p.2) := ix_one _ _ _
/-- facts, one after another -/
theorem wk_fcts {X : Cx} {e tg : Expr} {r : Rho} {y : PyData} {fs : List Fct} (hy : y = .list (fs.map Fct.d) ∨ y = .tuple (fs.map Fct.d)) (h : Pv X e r (.d y)) : Wk X tg e r (fs.map fun f => Dn.d f.d) := by
  have := wk_seq (tg := tg) hy h
  rwa [List.map_map] at this
theorem offS_eq : ∀ fs : List Fct, (fs.filter fun f => decide (f.w = ("off" : Str))).map Fct.bk = offS fs
  | [] => rfl
  | .off b :: fs => by
    rw [List.filter_cons_of_pos (by show decide (("off" : Str) = "off") = true; decide +kernel), List.map_cons, offS_eq fs]
    rfl
  | .pin b m p :: fs => by
    rw [List.filter_cons_of_neg (by show ¬ decide (("pin" : Str) = "off") = true; decide +kernel), offS_eq fs]
    rfl
  | .wish b m w :: fs => by
    rw [List.filter_cons_of_neg (by show ¬ decide (("wish" : Str) = "off") = true; decide +kernel), offS_eq fs]
    rfl
def wishP (offs : List Pr) (f : Fct) : Bool := decide (f.w = ("wish" : Str)) && !decide (f.bk ∈ offs)
def wishF : Fct → PyData
  | .wish b m w => .tuple [prD b, mwD (m, w)]
  | _ => .none
theorem wishL_eq (offs : List Pr) : ∀ fs : List Fct, (fs.filter (wishP offs)).map wishF = ((fs.filterMap (wishE offs)).map fun e => (kB e.1, mwD e.2)).map pairD
  | [] => rfl
  | .off b :: fs => by
    rw [List.filter_cons_of_neg (by show ¬ (decide (("off" : Str) = "wish") && _) = true; rw [show decide (("off" : Str) = "wish") = false from by decide +kernel]; simp), wishL_eq offs fs]
    rfl
  | .pin b m p :: fs => by
    rw [List.filter_cons_of_neg (by show ¬ (decide (("pin" : Str) = "wish") && _) = true; rw [show decide (("pin" : Str) = "wish") = false from by decide +kernel]; simp), wishL_eq offs fs]
    rfl
  | .wish b m w :: fs => by
    by_cases h : b ∈ offs
    · have e : wishE offs (.wish b m w) = none := if_pos h
      rw [List.filter_cons_of_neg (by show ¬ (_ && !decide (b ∈ offs)) = true; rw [decide_eq_true h]; simp), wishL_eq offs fs, List.filterMap_cons, e]
    · have e : wishE offs (.wish b m w) = some (b, (m, w)) := if_neg h
      rw [List.filter_cons_of_pos (by show (decide (("wish" : Str) = "wish") && !decide (b ∈ offs)) = true; rw [decide_eq_false h, decide_eq_true rfl]; rfl), List.map_cons, wishL_eq offs fs, List.filterMap_cons, e]
      rfl
def R_wishes_in : List Dn → Dn → Prop := fun ds d => ∃ y fs c r, ds = [.d y] ∧ (y = .list (fs.map Fct.d) ∨ y = .tuple (fs.map Fct.d)) ∧ (∀ f ∈ fs, FctOk c r f) ∧ fs.length ≤ 2000 ∧ d = .t (wsT (wishesS fs))
section
variable {P : Program} {w : World} {K : PySem.W.Frag} {mg : Str → Option Value} {base : Heap} {f : Addr} {fd : FuncData}
theorem ok_wishes_in (F : Fun K "wishes_in" "wishes_in" s_wishes_in f fd) (B : Bl mg) : FnOk P w K mg base (L2.CX P w) 1 f fd p_wishes_in (spR K R_wishes_in noB) := by
  refine okP F sc_wishes_in (by rintro ds d ⟨y, fs, c, r, rfl, _⟩; rfl) ?_
  rintro cdv A outer s H Q E ds d G hr ⟨y, fs, c, r, rfl, hy, hok, hlen, rfl⟩ k
  have hu : (A.deeper (envOfC "wishes_in" (defScope s_wishes_in) s.heap.objs.size f cdv)).units + 70 < cLine := by have := hr.un; omega
  refine go_set 1 (pv_lc [("fact", 2)] (fun f : Fct => decide (f.w = ("off" : Str))) (fun f => prD f.bk) (fun f => [some (.d y), none, some (.d f.d)]) rfl sc_wishes_in.nd (wk_fcts hy (pv_var 0)) (blkOk_by (N := n_wishes_in) (sc := defScope s_wishes_in) (by decide +kernel))
    (fun f _ s H C cl fp => pg_name 2 sc_wishes_in.nd) (fun f _ s H C cl fp => pts_one (pt_eqS (pv_ix (pv_var 2) pv_int (fct_ix0 f)) pv_str)) (fun f _ _ s H C cl fp => pv_ix (pv_var 2) pv_int (fct_ix1 f)) (by omega) (by simp) (fun _ _ => rfl)) ?_ sc_wishes_in.nd
  have e1 : ((fs.filter fun f => decide (f.w = ("off" : Str))).map fun f => prD f.bk) = (offS fs).map prD := by rw [← offS_eq, List.map_map]; rfl
  rw [e1]
  refine go_ret (Pv.is (pv_dict (prs := mapA kB mwD (wishL fs)) B.dict (by have := hr.un; show (A.deeper (envOfC "wishes_in" (defScope s_wishes_in) s.heap.objs.size f cdv)).units + 4 < cLine; omega) (Pv.is (pv_lc [("fact", 2)] (wishP (offS fs)) wishF (fun f => [some (.d y), some (.d (.list ((offS fs).map prD))), some (.d f.d)]) rfl sc_wishes_in.nd (wk_fcts hy (pv_var 0)) (blkOk_by (N := n_wishes_in) (sc := defScope s_wishes_in) (by decide +kernel))
    (fun f _ s H C cl fp => pg_name 2 sc_wishes_in.nd) (fun f _ s H C cl fp => pts_one (Pw.pt (pw_and (pt_eqS (pv_ix (pv_var 2) pv_int (fct_ix0 f)) pv_str) fun _ => pw_and1 ((pt_ninD (by show (A.deeper (envOfC "wishes_in" (defScope s_wishes_in) _ _ cdv)).units + 65 < cLine; omega) (pv_ix (pv_var 2) pv_int (fct_ix1 f)) (pv_var 1) (good_pr _).shaped (good_list (by intro z hz; obtain ⟨b, _, rfl⟩ := List.mem_map.mp hz; exact good_pr b))).is (by rw [any_eqv_pr]))))) (fun f _ hp s H C cl fp => ?_) (by omega) (by simp) (fun _ _ => rfl)) (by rw [wishL_eq]; rfl)) (by intro q hq; obtain ⟨e, _, rfl⟩ := List.mem_map.mp hq; rfl)) (congrArg Dn.t (mergeA_map (f := kB) (fun a b => kB_inj) mwD (wishL fs) []))) k
  cases f with
  | wish b m w => exact pv_tup (pd_cons (pv_ix (pv_var 2) pv_int (fct_ix1 (.wish b m w))) (pd_cons (pv_tup (pd_cons (pv_ix (pv_var 2) pv_int rfl) (pd_cons (pv_ix (pv_var 2) pv_int rfl) pd_nil))) pd_nil))
  | off b => exact absurd hp (by show ¬ (decide (("off" : Str) = "wish") && _) = true; rw [show decide (("off" : Str) = "wish") = false from by decide +kernel]; simp)
  | pin b m p => exact absurd hp (by show ¬ (decide (("pin" : Str) = "wish") && _) = true; rw [show decide (("pin" : Str) = "wish") = false from by decide +kernel]; simp)
end
end Fb

namespace Fb
open PySem PySem.Spec PyProof.Rows L2 Evl
/-! ### copies.py: look_known, off, told -/
structure BkF (b : Bk) (fs : List Fct) (n : Nat) : Prop where
  eq : b.facts = fs.map Fct.d
  ok : ∀ f ∈ fs, FctOk b.c b.r f
  len : fs.length ≤ n
  c : 1 ≤ b.c ∧ b.c ≤ 5
  r : 1 ≤ b.r ∧ b.r ≤ 3
  m : 0 ≤ b.mine ∧ b.mine ≤ b.c - 1
theorem BkF.bk {b : Bk} {fs : List Fct} {n : Nat} (h : BkF b fs n) : BkOk b n := ⟨fun z hz => by
  rw [h.eq] at hz
  obtain ⟨f, hf, rfl⟩ := List.mem_map.mp hz
  exact good_fct (h.ok f hf), by rw [h.eq, List.length_map]; exact h.len⟩
theorem BkF.mono {b : Bk} {fs : List Fct} {m n : Nat} (h : BkF b fs m) (k : m ≤ n) : BkF b fs n := ⟨h.eq, h.ok, Nat.le_trans h.len k, h.c, h.r, h.m⟩
def putS (fs : List Fct) (f : Fct) : List Fct := if f ∈ fs then fs else fs ++ [f]
theorem put_fct {b : Bk} {fs : List Fct} (h : b.facts = fs.map Fct.d) (f : Fct) : b.put f.d = { b with facts := (putS fs f).map Fct.d } := by
  unfold Bk.put putS
  rw [h, any_eqv_fct]
  by_cases hf : f ∈ fs
  · rw [if_pos (decide_eq_true hf), if_pos hf, ← h]
  · rw [if_neg (by simpa using hf), if_neg hf, List.map_append]
    rfl
theorem putS_mem {fs : List Fct} {f g : Fct} : g ∈ putS fs f ↔ g ∈ fs ∨ g = f := by
  unfold putS
  split
  · rename_i h
    exact ⟨.inl, fun z => z.elim id fun e => e ▸ h⟩
  · simp
theorem putS_len (fs : List Fct) (f : Fct) : (putS fs f).length ≤ fs.length + 1 := by
  unfold putS
  split
  · omega
  · simp
theorem BkF.put {b : Bk} {fs : List Fct} {n : Nat} (h : BkF b fs n) {f : Fct} (hf : FctOk b.c b.r f) : BkF (b.put f.d) (putS fs f) (n + 1) := by
  rw [put_fct h.eq]
  exact ⟨rfl, fun g hg => by
    rcases putS_mem.mp hg with hg | rfl
    · exact h.ok g hg
    · exact hf, by have := putS_len fs f; have := h.len; omega, h.c, h.r, h.m⟩
def stands (fs : List Fct) (b : Pr) : Bool := (getA (wishesS fs) b).isSome
def knownD (c : Int) (fs : List Fct) : PyData → Bool
  | .tuple [.int i, .int j] => isBooking c (prD (i, j)) && stands fs (i, j)
  | _ => false
theorem knownD_no {c : Int} {fs : List Fct} {y : PyData} (h : isBooking c y = false) : knownD c fs y = false := by
  unfold knownD
  split
  · rename_i i j
    rw [show isBooking c (prD (i, j)) = false from h]
    rfl
  · rfl
theorem knownD_pr {c : Int} {fs : List Fct} {b : Pr} (h : isBooking c (prD b) = true) : knownD c fs (prD b) = stands fs b := by
  show (isBooking c (prD b) && stands fs b) = _
  rw [h, Bool.true_and]
def L_known (C : Addr) : List Dn → Bool → Prop := fun ds k => ∃ p b fs y, ds = [.ob p C b.fs, .d y] ∧ BkF b fs 2000 ∧ knownD b.c fs y = k
section
variable {X : Cx} {a b c e o : Expr} {es : List Expr} {sts ss rest : List Stmt} {r r' : Rho} {pos p p1 p2 p3 p4 apos : Pos} {D : Ends} {G0 H0 G H : Hp} {W : WX} {Q : V → Hp → Hp → Prop}
/-- o.m(e, ..) by a pure promise, o a copy that is owned -/
theorem fx_methR {C q l sd : Addr} {bk : Bk} {m : Str} {k j : Nat} {R : List Dn → Dn → Prop} {B : List Dn → Addr → Prop} {ds : List Dn} {pl : Sem Bool} (F : Fm X.prog X.w X.K X.mg X.base k C m (spR X.K R B)) (hc : Cls X.K C) (hr : Room j X.A) (tk : Takes X W) (g : Ex G H) (A : CopyAt X.K C G H q l sd bk) (ho : Pv X o r (.v (.ref q))) (ha : Pa X (e :: es) r ds)
    (hm : (fieldNames.all fun g => !(m == g)) = true)
    (h : (∃ y, R (.ob q C bk.fs :: ds) (.d y) ∧ imm y = true ∧ ∀ v G2 H2, Gr G H G2 H2 → Dp X.K G2 v y → Q v G2 H2) ∨ (∃ Z, B (.ob q C bk.fs :: ds) Z ∧ ∀ σ G2 H2, Gr G H G2 H2 → En X.K G2 σ r → W (.ref Z) none σ H2)) (hk : k ≤ j := by decide)
    (hst : starEach (e :: es) X.env = (false, eval e X.env) :: starEach es X.env := by rfl) (hpl : (backTo pos (starEach es X.env)).any (·.1) = false := by rfl)
    (ht : eval (.Call (.Attribute o m apos) (e :: es) [] pos) X.env = (do
        let z ← eval o X.env
        standAt apos.atName
        let (u, first) ← holding [z] (getMethod z m pl)
        callWith pos u first (backTo pos (starEach (e :: es) X.env)) (backToKw pos (keywordEach [] X.env))) := by rfl) : Fx X (.Call (.Attribute o m apos) (e :: es) [] pos) r G H Q := by
  refine fx_meth F hc hr tk g ho (fun G1 H1 g1 => ?_) hk hst hpl ht
  have A1 := A.up g1
  obtain ⟨dx, wv, fvs, h1, _⟩ := A1.setL
  refine ⟨dx, _, h1, bf_no _ _ _ _ hm, fa_pa g1.s ha fun vs G2 H2 g2 q2 => ?_⟩
  have A2 := A1.up g2
  have O := A2.own (r := [some (.v (.ref q))]) (i := 0) rfl
  have gg := g1.trans g2
  refine ⟨.ob q C bk.fs :: ds, plus G2 H2 [q, l, sd], plus_s g2.s, .cons A2.ob (q2.up (plus_g O.no)), ?_⟩
  rcases h with ⟨y, hR, hi, k'⟩ | ⟨Z, hB, k'⟩
  · refine .inl ⟨_, hR, fun v G3 H3 g3 q3 => ?_⟩
    have kb := own_back O.no g3
    exact ⟨_, kb.g, kb.s, k' v _ H3 (gg.trans kb) (O.tup g3 hi q3)⟩
  · refine .inr ⟨Z, hB, fun G3 H3 g3 σ n => ?_⟩
    have kb := own_back O.no g3
    refine k' σ _ H3 (gg.trans kb) ?_
    exact n.up kb.g
theorem fx_methR0 {C q l sd : Addr} {bk : Bk} {m : Str} {k j : Nat} {R : List Dn → Dn → Prop} {B : List Dn → Addr → Prop} {pl : Sem Bool} (F : Fm X.prog X.w X.K X.mg X.base k C m (spR X.K R B)) (hc : Cls X.K C) (hr : Room j X.A) (tk : Takes X W) (g : Ex G H) (A : CopyAt X.K C G H q l sd bk) (ho : Pv X o r (.v (.ref q)))
    (hm : (fieldNames.all fun g => !(m == g)) = true)
    (h : ∃ y, R [.ob q C bk.fs] (.d y) ∧ imm y = true ∧ ∀ v G2 H2, Gr G H G2 H2 → Dp X.K G2 v y → Q v G2 H2) (hk : k ≤ j := by decide)
    (ht : eval (.Call (.Attribute o m apos) [] [] pos) X.env = (do
        let z ← eval o X.env
        standAt apos.atName
        let (u, first) ← holding [z] (getMethod z m pl)
        callWith pos u first (backTo pos (starEach [] X.env)) (backToKw pos (keywordEach [] X.env))) := by rfl) : Fx X (.Call (.Attribute o m apos) [] [] pos) r G H Q := by
  refine fx_meth0 F hc hr tk g ho (fun G1 H1 g1 => ?_) hk ht
  have A1 := A.up g1
  obtain ⟨dx, wv, fvs, h1, _⟩ := A1.setL
  have O := A1.own (r := [some (.v (.ref q))]) (i := 0) rfl
  refine ⟨dx, _, h1, bf_no _ _ _ _ hm, [.ob q C bk.fs], plus G1 H1 [q, l, sd], plus_s g1.s, .cons A1.ob .nil, ?_⟩
  obtain ⟨y, hR, hi, k'⟩ := h
  refine .inl ⟨_, hR, fun v G3 H3 g3 q3 => ?_⟩
  have kb := own_back O.no g3
  exact ⟨_, kb.g, kb.s, k' v _ H3 (g1.trans kb) (O.tup g3 hi q3)⟩
end
def Bk.off (b : Bk) (q : Pr) : Bk := b.put (Fct.off q).d
def R_off : Bk → List PyData → Bk → PyData → Prop := fun b ds b' d => ∃ q fs, ds = [prD q] ∧ BkF b fs 1999 ∧ BkgOk b.c q ∧ stands fs q = true ∧ b' = b.off q ∧ d = .none
def B_off (CN : Addr) : Bk → List PyData → Addr → Prop := fun b ds Z => ∃ y fs, ds = [y] ∧ BkF b fs 2000 ∧ knownD b.c fs y = false ∧ Z = CN
def R_told (C : Addr) : List Dn → Dn → Prop := fun ds d => ∃ (p : Addr) (b : Bk) (fs : List Fct), ds = [.ob p C b.fs] ∧ BkF b fs 2000 ∧ d = .d (.tuple ((isort ltFc fs).map Fct.d))
section
variable {P : Program} {w : World} {K : PySem.W.Frag} {mg : Str → Option Value} {base : Heap} {f : Addr} {fd : FuncData} {C CN : Addr}
abbrev FcWin (P : Program) (w : World) (K : PySem.W.Frag) (mg : Str → Option Value) (base : Heap) : Prop := Fc P w K mg base 1 "wishes_in" (spR K R_wishes_in noB)
theorem ok_look_known (F : Fun K "look_known" "Copy.look_known" s_Copy_look_known f fd) (T : Tc K C) (Fb : FcBo P w K mg base) (Fi : FcWin P w K mg base) (TN : Ec K mg "NoBooking" CN) : FnOk P w K mg base (L2.CX P w) 3 f fd p_Copy_look_known (spR K (R_look (L_known C)) (B_look (L_known C) CN)) := by
  have test : ∀ (cdv : Value) (A : Around) (outer : List Env) (s : Shared) (H : Hp) (E : XK) (p : Addr) (b : Bk) (fs : List Fct) (y : PyData), Room 2 (A.deeper (envOfC "Copy.look_known" (defScope s_Copy_look_known) s.heap.objs.size f cdv)) → BkF b fs 2000 →
      ∀ {e1 e2 : Expr} {pos : Pos}, (.BoolOp .Or [e1, e2] pos : Expr) = (match (defBody s_Copy_look_known) with | .If c _ _ _ :: _ => c | _ => .Constant .none 0 pos) →
      Pt (cxOf (L2.CX P w) P w K mg base n_Copy_look_known "Copy.look_known" (defScope s_Copy_look_known) f cdv A outer s H E) (.BoolOp .Or [e1, e2] pos) [some (.ob p C b.fs), some (.d y)] (!knownD b.c fs y) := by
    intro cdv A outer s H E p b fs y hr hb e1 e2 pos he
    cases he
    cases hq : isBooking b.c y with
    | false =>
      rw [knownD_no hq]
      exact Pw.pt (pw_orT ((pt_not (pt_val (pv_call Fb hr (pa_cons (pv_fldD (pv_var 0) T.cl T.nW (fs_world b)) (pa_cons (pv_var 1) pa_nil)) ⟨b.c, b.r, b.ks, y, rfl, rfl⟩))).is (by rw [hq]; rfl)))
    | true =>
      obtain ⟨q, rfl, hqk⟩ := booking_of hq
      rw [knownD_pr hq]
      refine Pw.pt (pw_orF ((pt_not (pt_val (pv_call Fb hr (pa_cons (pv_fldD (pv_var 0) T.cl T.nW (fs_world b)) (pa_cons (pv_var 1) pa_nil)) ⟨b.c, b.r, b.ks, _, rfl, rfl⟩))).is (by rw [hq]; rfl)) (pw_or1 ((pt_ninT (k := kB q) (by have := hr.un; show (A.deeper (envOfC "Copy.look_known" (defScope s_Copy_look_known) s.heap.objs.size f cdv)).units + 1 < cLine; omega) (pv_var 1) (pv_call Fi hr (pa_cons (pv_fldD (pv_var 0) T.cl T.nF (by rw [fs_facts, hb.eq])) pa_nil) ⟨_, fs, b.c, b.r, rfl, .inl rfl, hb.ok, hb.len, rfl⟩) rfl).is ?_)))
      rw [getA_map (fun a b => kB_inj)]
      unfold stands
      cases getA (wishesS fs) q <;> rfl
  refine okE F sc_Copy_look_known (by rintro ds d ⟨⟨p, b, fs, y, rfl, _⟩, _⟩; rfl) (by rintro ds d ⟨⟨p, b, fs, y, rfl, _⟩, _⟩; rfl) ?_ ?_
  · rintro cdv A outer s H Q E ds d G hr ⟨⟨p, b, fs, y, rfl, hb, hk⟩, rfl⟩ k
    exact go_when (q := false) ((test cdv A outer s H E p b fs y hr hb rfl).is (by rw [hk]; rfl)) (fun h => nomatch h) (fun _ => go_nil fun σ H' ⟨G', g', _⟩ => k _ G' H' g' Dp.non)
  · rintro cdv A outer s H Q E ds Z G hr ⟨⟨p, b, fs, y, rfl, hb, hk⟩, rfl⟩ k
    exact go_when (q := true) ((test cdv A outer s H E p b fs y hr hb rfl).is (by rw [hk]; rfl)) (fun _ => go_raise TN tkR fun σ G' H' g' _ => k G' H' g') (fun h => nomatch h)
abbrev FmLk (P : Program) (w : World) (K : PySem.W.Frag) (mg : Str → Option Value) (base : Heap) (C CN : Addr) : Prop := Fm P w K mg base 3 C "look_known" (spR K (R_look (L_known C)) (B_look (L_known C) CN))
theorem ok_off (F : Fun K "off" "Copy.off" s_Copy_off f fd) (T : Tc K C) (Fl : FmLk P w K mg base C CN) (Fp : FmPut P w K mg base C) : FnOk P w K mg base (L2.CX P w) 4 f fd p_Copy_off (spM K C R_off (B_off CN)) := by
  refine okM F sc_Copy_off (by rintro b ds b' d ⟨q, fs, rfl, _⟩; rfl) (by rintro b ds A ⟨y, fs, rfl, _⟩; rfl) ?_ ?_
  · rintro cdv A outer s H Q E p l sd b ds b' d G hr g A1 ⟨q, fs, rfl, hb, hq, hst, rfl, rfl⟩ k
    have hkn : knownD b.c fs (prD q) = true := by rw [knownD_pr (isBooking_iff.mpr hq)]; exact hst
    refine gx_expr fun G1 H1 g1 => fx_methR Fl T.cl hr tkR g1.s (A1.up g1) (pv_var 0) (pa_cons (pv_var 1) pa_nil) (by decide +kernel) (.inl ⟨.none, ⟨⟨p, b, fs, prD q, rfl, hb.mono (by omega), hkn⟩, rfl⟩, rfl, fun _ G2 H2 g2 _ => ?_⟩)
    refine gx_expr fun G3 H3 g3 => fx_meth Fp T.cl hr tkR g3.s (pv_var 0) fun G4 H4 g4 => ?_
    have A4 := (((A1.up g1).up g2).up g3).up g4
    obtain ⟨dx, wv, fvs, h1, _⟩ := A4.setL
    refine ⟨dx, _, h1, bf_no _ _ _ _ (by decide +kernel), fa_pa g4.s (pa_cons (pv_tup (pd_cons pv_str (pd_cons (pv_var 1) pd_nil))) pa_nil) fun vs G5 H5 g5 q5 => ?_⟩
    obtain ⟨v5, rfl, q5v⟩ := dens1 q5
    have gg := ((((g1.trans g2).trans g3).trans g4).trans g5)
    refine ⟨p, l, sd, b, [v5], [(Fct.off q).d], G5, rfl, g5.s, A4.up g5, (.cons q5v .nil), .inl ⟨_, _, ⟨_, rfl, good_fct (f := .off q) (c := b.c) (r := b.r) hq, hb.bk.mono (by omega), rfl, rfl⟩, fun v6 G6 H6 sd2 x6 hsd6 A6 q6 => ⟨G6, x6.g, x6.s, ?_⟩⟩⟩
    refine go_nil fun σ H7 ⟨G7, g7, _⟩ => ?_
    refine k .non G7 H7 sd2 ((gg.x.trans x6).trans g7.x) ?_ (A6.up g7) Dp.non
    rcases hsd6 with z | z
    · exact .inl z
    · exact .inr (gg.x.fresh (os := []) z)
  · rintro cdv A outer s H Q E p l sd b ds Z G hr g A1 ⟨y, fs, rfl, hb, hkn, rfl⟩ k
    exact gx_expr fun G1 H1 g1 => fx_methR Fl T.cl hr tkR g1.s (A1.up g1) (pv_var 0) (pa_cons (pv_var 1) pa_nil) (by decide +kernel) (.inr ⟨_, ⟨⟨p, b, fs, y, rfl, hb, hkn⟩, rfl⟩, fun σ G2 H2 g2 _ => k G2 H2 (g1.trans g2)⟩)
theorem ok_told (F : Fun K "told" "Copy.told" s_Copy_told f fd) (B : Bl mg) (T : Tc K C) : FnOk P w K mg base (L2.CX P w) 1 f fd p_Copy_told (spR K (R_told C) noB) := by
  refine okP F sc_Copy_told (by rintro ds d ⟨p, b, fs, rfl, _⟩; rfl) ?_
  rintro cdv A outer s H Q E ds d G hr ⟨p, b, fs, rfl, hb, rfl⟩ k
  refine go_ret (pv_tupleL B.tuple ((pv_sorted B.sorted (by have := hr.un; show (A.deeper (envOfC "Copy.told" (defScope s_Copy_told) s.heap.objs.size f cdv)).units + 70 < cLine; omega) (pv_fldD (pv_var 0) T.cl T.nF (by rw [fs_facts, hb.eq])) (sortOk_fct hb.ok)).is (by rw [sort_fct]))) k
end
end Fb

namespace Fb
open PySem PySem.Spec PyProof.Rows L2 Evl
/-! ### methods of a copy that is only read, refused -/
section
variable {X : Cx} {a b c e o : Expr} {es : List Expr} {sts ss rest : List Stmt} {r r' : Rho} {d : Dn} {pos p p1 p2 p3 p4 apos : Pos} {D : Ends} {G0 H0 G H : Hp} {W : WX} {Q : V → Hp → Hp → Prop}
/-- o.m(e, ..) by a pure promise, or raises -/
theorem fx_methP {C q : Addr} {fs : List (Str × Fd)} {m : Str} {k j : Nat} {R : List Dn → Dn → Prop} {B : List Dn → Addr → Prop} {ds : List Dn} {pl : Sem Bool} (F : Fm X.prog X.w X.K X.mg X.base k C m (spR X.K R B)) (hc : Cls X.K C) (hr : Room j X.A) (tk : Takes X W) (g : Ex G H) (ho : Pv X o r (.ob q C fs)) (hn : fs.lookup m = none) (ha : Pa X (e :: es) r ds)
    (h : (∃ d, R (.ob q C fs :: ds) d ∧ ∀ v G2 H2, Gr G H G2 H2 → Den X.K G2 v d → Q v G2 H2) ∨ (∃ Z, B (.ob q C fs :: ds) Z ∧ ∀ σ G2 H2, Gr G H G2 H2 → En X.K G2 σ r → W (.ref Z) none σ H2)) (hk : k ≤ j := by decide)
    (hst : starEach (e :: es) X.env = (false, eval e X.env) :: starEach es X.env := by rfl) (hpl : (backTo pos (starEach es X.env)).any (·.1) = false := by rfl)
    (ht : eval (.Call (.Attribute o m apos) (e :: es) [] pos) X.env = (do
        let z ← eval o X.env
        standAt apos.atName
        let (u, first) ← holding [z] (getMethod z m pl)
        callWith pos u first (backTo pos (starEach (e :: es) X.env)) (backToKw pos (keywordEach [] X.env))) := by rfl) : Fx X (.Call (.Attribute o m apos) (e :: es) [] pos) r G H Q := fun σ n pins s I => by
  obtain ⟨f, fd, ps, F, hm, hb⟩ := F.ex
  refine PySem.W.methodCall_KW (pl := pl) (thn (ho σ G H g n pins s I) fun u s1 ⟨x, H1, I1, rx, G1, k1, q1⟩ => ?_) ht
  obtain ⟨dx, ws, rfl, h1, h2⟩ := q1
  obtain rfl : u = Value.ref q := rx
  refine getmeth_ok I1 (k1.s _ _ h1) hc hm (pv_meth.lookup_none h2 hn) ?_
  refine PySem.W.callWith_K (first := [.ref q]) (h₀ := X.base) I.ok.mod.kin hm.kp (thn (ha σ G1 H1 k1.s (n.up k1.g) pos pins s1 I1) fun us s2 ⟨vs, H2, I2, rv, G2, g2, q2⟩ => ⟨I2.kIn, ?_⟩) hst hpl
  refine thn (run_fnS (us := .ref q :: us) (vs := .ref q :: vs) (Q := fun v H3 => ∃ G3, Ex G G3 ∧ Ex G3 H3 ∧ Q v G3 H3) (E := fun _ => Wx X W G2 r) F (hr.mono hk) hb (pass_w tk ((n.up k1.g).up g2.g)) I2 (.cons rfl rv) ⟨.ob q C fs :: ds, G2, g2.s, .cons (Den.up (d := .ob q C fs) g2.g ⟨dx, ws, rfl, h1, h2⟩) q2, ?_⟩) fun u s3 ⟨v, H3, I3, rv3, G3, e3, s3', k3⟩ => ⟨v, H3, I3, rv3, G3, e3, s3', k3⟩
  rcases h with ⟨d, hR, k'⟩ | ⟨Z, hB, k'⟩
  · exact .inl ⟨d, hR, fun v G3 H3 g3 q3 => ⟨G3, ((k1.trans g2).trans g3).g, g3.s, k' v G3 H3 ((k1.trans g2).trans g3) q3⟩⟩
  · exact .inr ⟨Z, hB, fun G3 H3 g3 σ' n' => k' σ' G3 H3 ((k1.trans g2).trans g3) (n'.up g3.g)⟩
/-- a def by a pure promise, or raises -/
theorem fx_defP {x : Str} {k j : Nat} {R : List Dn → Dn → Prop} {B : List Dn → Addr → Prop} {ds : List Dn} (F : Fc X.prog X.w X.K X.mg X.base k x (spR X.K R B)) (hr : Room j X.A) (tk : Takes X W) (g : Ex G H) (ha : Pa X (e :: es) r ds)
    (h : (∃ d, R ds d ∧ ∀ v G2 H2, Gr G H G2 H2 → Den X.K G2 v d → Q v G2 H2) ∨ (∃ Z, B ds Z ∧ ∀ σ G2 H2, Gr G H G2 H2 → En X.K G2 σ r → W (.ref Z) none σ H2)) (hk : k ≤ j := by decide) (hg : Gl X x := by rfl)
    (hdb : (x == ("__debug__" : Str)) = false := by decide) (he : starEach (e :: es) X.env = (false, eval e X.env) :: starEach es X.env := by rfl) (hpl : (backTo pos (starEach es X.env)).any (·.1) = false := by rfl) :
    Fx X (.Call (.Name x p) (e :: es) [] pos) r G H Q := by
  refine fx_callF F hr tk (fa_pa g ha fun vs G1 H1 g1 q1 => ⟨ds, G1, g1.s, q1, ?_⟩) hk hg hdb he hpl
  rcases h with ⟨d, hR, k'⟩ | ⟨Z, hB, k'⟩
  · exact .inl ⟨d, hR, fun v G3 H3 g3 q3 => ⟨G3, g3.g, g3.s, k' v G3 H3 (g1.trans g3) q3⟩⟩
  · exact .inr ⟨Z, hB, fun G3 H3 g3 σ' n' => k' σ' G3 H3 (g1.trans g3) (n'.up g3.g)⟩
end
abbrev noR : List Dn → Dn → Prop := fun _ _ => False
theorem okB {P : Program} {w : World} {K : PySem.W.Frag} {mg : Str → Option Value} {base : Heap} {x qual : Str} {st : Stmt} {f : Addr} {fd : FuncData} {N ps : List Str} {k : Nat} {B : List Dn → Addr → Prop} (F : Fun K x qual st f fd) (S : FnScope N ps (defScope st)) (hB : ∀ ds C, B ds C → ds.length = ps.length)
    (bad : ∀ (cdv : Value) (A : Around) (outer : List Env) (s : Shared) (H : Hp) (Q : VK) (E : XK) (ds : List Dn) (C : Addr) (G : Hp), Room k (A.deeper (envOfC qual (defScope st) s.heap.objs.size f cdv)) → B ds C → (∀ G' H', Gr G H G' H' → E (.ref C) none H') →
      Go (cxOf (L2.CX P w) P w K mg base N qual (defScope st) f cdv A outer s H E) (defBody st) { nx := fun _ H' => Q .non H', rt := Q } G H (ds.map some ++ List.replicate (N.length - ds.length) none)) : FnOk P w K mg base (L2.CX P w) (k + 1) f fd ps (spR K noR B) :=
  okE F S (fun _ _ h => h.elim) hB (fun _ _ _ _ _ _ _ _ _ _ _ h => h.elim) bad
def B_offP (C CN : Addr) : List Dn → Addr → Prop := fun ds Z => ∃ p b fs y, ds = [.ob p C b.fs, .d y] ∧ BkF b fs 2000 ∧ knownD b.c fs y = false ∧ Z = CN
def B_pinP (C CN CB : Addr) : List Dn → Addr → Prop := fun ds Z => ∃ p b fs y room hour, ds = [.ob p C b.fs, .d y, .d room, .d hour] ∧ BkF b fs 2000 ∧
  (knownD b.c fs y = false ∧ Z = CN ∨ ∃ q m w, y = prD q ∧ BkgOk b.c q ∧ getA (wishesS fs) q = some (m, w) ∧ isPlace b.r w.long room hour = false ∧ Z = CB)
def B_dayP (C CB : Addr) : List Dn → Addr → Prop := fun ds Z => ∃ p b y, ds = [.ob p C (Bk.fs b), .d y] ∧ within y 0 (b.r - 1) = false ∧ Z = CB
def asksN : List Str := ["moved", "out", "pinned", "order"]
def isAsk : PyData → Bool
  | .str s => asksN.contains s
  | _ => false
def B_listedP (C CD : Addr) : List Dn → Addr → Prop := fun ds Z => ∃ p b y, ds = [.ob p C (Bk.fs b), .d y] ∧ isAsk y = false ∧ Z = CD
def B_wishP (C CB CU : Addr) : List Dn → Addr → Prop := fun ds Z => ∃ p b y, ds = [.ob p C (Bk.fs b), .d y] ∧ szOk y = true ∧ (isWish b.r y = false ∧ Z = CB ∨ isWish b.r y = true ∧ b.own = 12 ∧ Z = CU)
section
variable {P : Program} {w : World} {K : PySem.W.Frag} {mg : Str → Option Value} {base : Heap} {f : Addr} {fd : FuncData} {C CN CB CD CU : Addr}
theorem ok_offP (F : Fun K "off" "Copy.off" s_Copy_off f fd) (T : Tc K C) (Fl : FmLk P w K mg base C CN) : FnOk P w K mg base (L2.CX P w) 4 f fd p_Copy_off (spR K noR (B_offP C CN)) := by
  refine okB F sc_Copy_off (by rintro ds Z ⟨p, b, fs, y, rfl, _⟩; rfl) ?_
  rintro cdv A outer s H Q E ds Z G hr ⟨p, b, fs, y, rfl, hb, hk, rfl⟩ k
  exact gx_expr fun G1 H1 g1 => fx_methP Fl T.cl hr tkR g1.s (pv_var 0) (fs_no b (by decide +kernel)) (pa_cons (pv_var 1) pa_nil) (.inr ⟨_, ⟨⟨p, b, fs, y, rfl, hb, hk⟩, rfl⟩, fun σ G2 H2 g2 _ => k G2 H2 (g1.trans g2)⟩)
theorem ok_placeP (F : Fun K "place" "Copy.place" s_Copy_place f fd) (T : Tc K C) (Fl : FmLk P w K mg base C CN) : FnOk P w K mg base (L2.CX P w) 4 f fd p_Copy_place (spR K noR (B_offP C CN)) := by
  refine okB F sc_Copy_place (by rintro ds Z ⟨p, b, fs, y, rfl, _⟩; rfl) ?_
  rintro cdv A outer s H Q E ds Z G hr ⟨p, b, fs, y, rfl, hb, hk, rfl⟩ k
  exact gx_expr fun G1 H1 g1 => fx_methP Fl T.cl hr tkR g1.s (pv_var 0) (fs_no b (by decide +kernel)) (pa_cons (pv_var 1) pa_nil) (.inr ⟨_, ⟨⟨p, b, fs, y, rfl, hb, hk⟩, rfl⟩, fun σ G2 H2 g2 _ => k G2 H2 (g1.trans g2)⟩)
theorem ok_pinP (F : Fun K "pin" "Copy.pin" s_Copy_pin f fd) (T : Tc K C) (Fl : FmLk P w K mg base C CN) (Fi : FcWin P w K mg base) (Fp : FcPl P w K mg base) (TB : Ec K mg "BadWish" CB) : FnOk P w K mg base (L2.CX P w) 4 f fd p_Copy_pin (spR K noR (B_pinP C CN CB)) := by
  refine okB F sc_Copy_pin (by rintro ds Z ⟨p, b, fs, y, room, hour, rfl, _⟩; rfl) ?_
  rintro cdv A outer s H Q E ds Z G hr ⟨p, b, fs, y, room, hour, rfl, hb, hc⟩ k
  rcases hc with ⟨hk, rfl⟩ | ⟨q, m, ww, rfl, hq, hg, hpl, rfl⟩
  · exact gx_expr fun G1 H1 g1 => fx_methP Fl T.cl hr tkR g1.s (pv_var 0) (fs_no b (by decide +kernel)) (pa_cons (pv_var 1) pa_nil) (.inr ⟨_, ⟨⟨p, b, fs, y, rfl, hb, hk⟩, rfl⟩, fun σ G2 H2 g2 _ => k G2 H2 (g1.trans g2)⟩)
  · have hk : knownD b.c fs (prD q) = true := by rw [knownD_pr (isBooking_iff.mpr hq)]; unfold stands; rw [hg]; rfl
    have hu : (A.deeper (envOfC "Copy.pin" (defScope s_Copy_pin) s.heap.objs.size f cdv)).units + 70 < cLine := by have := hr.un; omega
    refine go_expr (pv_meth Fl T.cl hr (pv_var 0) (fs_no b (by decide +kernel)) (pa_cons (pv_var 1) pa_nil) ⟨⟨p, b, fs, _, rfl, hb, hk⟩, rfl⟩) ?_
    refine go_set 4 (d := .d (.int ww.long)) (pv_ix (pv_ix (pv_ixT (k := kB q) (y := mwD (m, ww)) (by show (A.deeper (envOfC "Copy.pin" (defScope s_Copy_pin) s.heap.objs.size f cdv)).units + 1 < cLine; omega) (pv_call Fi hr (pa_cons (pv_fldD (pv_var 0) T.cl T.nF (by rw [fs_facts, hb.eq])) pa_nil) ⟨_, fs, b.c, b.r, rfl, .inl rfl, hb.ok, hb.len, rfl⟩) (pv_var 1) rfl (by rw [getA_map (fun a b => kB_inj), hg]; rfl) (hs := fun _ _ => rfl)) pv_int (ix_one _ _ _)) pv_int rfl) ?_ sc_Copy_pin.nd
    exact go_when (q := true) ((pt_not (pt_val (pv_call Fp hr (pa_cons (pv_fldD (pv_var 0) T.cl T.nW (fs_world b)) (pa_cons (pv_var 4) (pa_cons (pv_var 2) (pa_cons (pv_var 3) pa_nil)))) ⟨b.c, b.r, b.ks, ww.long, room, hour, rfl, rfl⟩))).is (by rw [hpl]; rfl)) (fun _ => go_raise TB tkR fun σ G' H' g' _ => k G' H' g') (fun h => nomatch h)
theorem ok_dayP (F : Fun K "day" "Copy.day" s_Copy_day f fd) (T : Tc K C) (Fw : FcW P w K mg base) (TB : Ec K mg "BadWish" CB) : FnOk P w K mg base (L2.CX P w) 4 f fd p_Copy_day (spR K noR (B_dayP C CB)) := by
  refine okB F sc_Copy_day (by rintro ds Z ⟨p, b, y, rfl, _⟩; rfl) ?_
  rintro cdv A outer s H Q E ds Z G hr ⟨p, b, y, rfl, hk, rfl⟩ k
  exact go_when (q := true) ((pt_not (pt_val (pv_call Fw hr (pa_cons (pv_var 1) (pa_cons pv_int (pa_cons (pv_sub (pv_ix (pv_fldD (pv_var 0) T.cl T.nW (fs_world b)) pv_int rfl) pv_int) pa_nil))) ⟨y, 0, b.r - 1, rfl, rfl⟩))).is (by rw [hk]; rfl)) (fun _ => go_raise TB tkR fun σ G' H' g' _ => k G' H' g') (fun h => nomatch h)
theorem ok_listedP (F : Fun K "listed" "Copy.listed" s_Copy_listed f fd) (B : Bl mg) (hA : ∃ a, mg "ASKS" = some (.ref a) ∧ ∀ H, Dp K H (.ref a) (.tuple (asksN.map PyData.str))) (TD : Ec K mg "BadWord" CD) : FnOk P w K mg base (L2.CX P w) 4 f fd p_Copy_listed (spR K noR (B_listedP C CD)) := by
  refine okB F sc_Copy_listed (by rintro ds Z ⟨p, b, y, rfl, _⟩; rfl) ?_
  rintro cdv A outer s H Q E ds Z G hr ⟨p, b, y, rfl, hk, rfl⟩ k
  obtain ⟨aa, ha, da⟩ := hA
  refine go_when (q := true) (Pw.pt ?_) (fun _ => go_raise TD tkR fun σ G' H' g' _ => k G' H' g') (fun h => nomatch h)
  cases hs : isStr y with
  | false => exact pw_orT ((pt_not (pt_isS B (pv_var 1))).is (by rw [hs]; rfl))
  | true =>
    obtain ⟨z, rfl⟩ := str_of hs
    exact pw_orF ((pt_not (pt_isS B (pv_var 1))).is (by rfl)) (pw_or1 ((pt_ninS (pv_var 1) (pv_gref ha da)).is (by rw [show asksN.contains z = false from hk]; rfl)))
theorem ok_wishP (F : Fun K "wish" "Copy.wish" s_Copy_wish f fd) (T : Tc K C) (Cc : Cs K w mg) (Fl : FcLWi P w K mg base CB) (TU : Ec K mg "Full" CU) : FnOk P w K mg base (L2.CX P w) 5 f fd p_Copy_wish (spR K noR (B_wishP C CB CU)) := by
  obtain ⟨tw, hmw⟩ := Cc.wishes
  refine okB F sc_Copy_wish (by rintro ds Z ⟨p, b, y, rfl, _⟩; rfl) ?_
  rintro cdv A outer s H Q E ds Z G hr ⟨p, b, y, rfl, hsz, hc⟩ k
  rcases hc with ⟨hw, rfl⟩ | ⟨hw, ho, rfl⟩
  · exact gx_expr fun G1 H1 g1 => fx_defP Fl hr tkR g1.s (pa_cons (pv_fldD (pv_var 0) T.cl T.nW (fs_world b)) (pa_cons (pv_var 1) pa_nil)) (.inr ⟨_, ⟨⟨b.c, b.r, b.ks, y, rfl, hsz, hw⟩, rfl⟩, fun σ G2 H2 g2 _ => k G2 H2 (g1.trans g2)⟩)
  · refine go_expr (pv_call Fl hr (pa_cons (pv_fldD (pv_var 0) T.cl T.nW (fs_world b)) (pa_cons (pv_var 1) pa_nil)) ⟨⟨b.c, b.r, b.ks, y, rfl, hsz, hw⟩, rfl⟩) ?_
    exact go_when (q := true) ((pt_eqI (pv_fldD (pv_var 0) T.cl T.nO (fs_own b)) (pv_gint hmw)).is (decide_eq_true ho)) (fun _ => go_raise TU tkR fun σ G' H' g' _ => k G' H' g') (fun h => nomatch h)
end
end Fb

namespace Fb
open PySem PySem.Spec PyProof.Rows L2 Evl
/-! ### except suites that set a word; a copy made -/
theorem h_word (i : Nat) {X : Cx} {y : Str} {word : Str} {j : Nat} {p1 p2 p3 : Pos} {rest : List Stmt} {D : Ends} {G H : Hp} {r : Rho} {σ : L2.St} {a : Addr} {cls : Value} {d : Option Addr} (hN : X.N.Nodup) (g : Ex G H) (n : En X.K G σ r) (k : Go X rest D G H (r.set i (some (.d (.str word))))) (hi : X.N[i]? = some y := by rfl) (hx : Loc X.env.scope y := by first | exact Or.inl rfl | exact Or.inr rfl)
    (hs : ∀ (oe : Obj) pn, swapsWith (.Constant (.str word) j p2) (some (.Name y p1)) p3.line (X.suite a ((a, oe) :: pn)).env = pure false := by intro _ _; rfl) (hf : ∀ (oe : Obj) pn, (X.suite a ((a, oe) :: pn)).fn y = true ∨ X.env.scope.names.lookup y = some .local := by first | exact fun _ _ => .inl rfl | exact fun _ _ => .inr rfl) :
    hTs X [.Assign [.Name y p1] (.Constant (.str word) j p2) p3] a cls d { D with nx := wSs X rest D } σ H := fun oe pn _ =>
  (go_set (X := X.suite a ((a, oe) :: pn)) i pv_str (go_nil fun σ2 H2 ⟨G2, g2, n2⟩ => k σ2 G2 H2 g2 n2) hN hi hx (hs oe pn) (hf oe pn)) σ G H (Gr.refl g) n
theorem made_gr {G H G2 H2 G3 H3 : Hp} {q dx C : Addr} (g : Gr G H G2 H2) (nq : H2 q = none) (nd : H2 dx = none) (k3 : Gx [q] G2 (upd (upd H2 dx (.own q)) q (.ins C dx [])) G3 H3) : Gr G H G3 H3 := by
  refine ⟨g.g.trans k3.g, k3.s, fun a o h => ?_, fun a h1 h2 => ?_⟩
  · have h' := g.h a o h
    have n1 : a ≠ q := fun z => by rw [z, nq] at h'; cases h'
    have n2 : a ≠ dx := fun z => by rw [z, nd] at h'; cases h'
    refine k3.h a o (by simpa using n1) ?_
    rw [upd_ne n1, upd_ne n2]
    exact h'
  · cases z : G2 a with
    | some o => exact g.f a h1 (some_ne z)
    | none =>
      have h3 := k3.f a z h2
      have n1 : a ≠ q := fun z => by
        obtain ⟨xs, e⟩ := h3 _ (by rw [z, upd_same])
        cases e
      have n2 : a ≠ dx := fun z => by
        obtain ⟨xs, e⟩ := h3 _ (by rw [upd_ne n1, z, upd_same])
        cases e
      refine Fr.back g.h fun o ho => h3 o ?_
      rw [upd_ne n1, upd_ne n2]
      exact ho
section
variable {P : Program} {w : World} {K : PySem.W.Frag} {mg : Str → Option Value} {base : Heap}
abbrev FkCopy (P : Program) (w : World) (K : PySem.W.Frag) (mg : Str → Option Value) (base : Heap) (C CW CC : Addr) : Prop := Fk P w K mg base 4 C "Copy" (spI K C CW CC)
abbrev FmWish (P : Program) (w : World) (K : PySem.W.Frag) (mg : Str → Option Value) (base : Heap) (C CB CU : Addr) : Prop := Fm P w K mg base 5 C "wish" (spM K C R_wish (B_wish CB CU))
end
end Fb

namespace Fb
open PySem PySem.Spec PyProof.Rows L2 Evl
/-! ### the law's helpers: numbers, worlds, wishes -/
def R_cell : List Dn → Dn → Prop := fun ds d => ∃ (ns : List Int) (k : Nat), ds = [.sc ns, .d (.int k)] ∧ d = .d (.int (cellZ ns k))
def R_seed : List Dn → Dn → Prop := fun ds d => ∃ s k : Int, ds = [.d (.int s), .d (.int k)] ∧ 0 ≤ k ∧ k < 1000000 ∧ d = .d (.int (seedZ s k))
def R_pick : List Dn → Dn → Prop := fun ds d => ∃ s m : Int, ds = [.d (.int s), .d (.int m)] ∧ 0 < m ∧ d = .d (.int (pickZ s m))
def R_lworld : List Dn → Dn → Prop := fun ds d => ∃ s : Int, ds = [.d (.int s)] ∧ d = .d (worldOf s)
def R_lwish : List Dn → Dn → Prop := fun ds d => ∃ (c r : Int) (ks : List Str) (s : Int), ds = [.d (wD c r ks), .d (.int s)] ∧ 1 ≤ r ∧ d = .d (wishOf r s)
theorem sum_one : ∀ cs : List Nat, (cs.map ((fun x : Str => x.length) ∘ fun c => (⟨#[c]⟩ : Str))).sum = cs.length
  | [] => rfl
  | c :: cs => by
    rw [List.map_cons, List.sum_cons, sum_one cs, List.length_cons]
    show 1 + cs.length = cs.length + 1
    omega
theorem small_ix {i : Int} (h0 : 0 ≤ i) (h1 : i < 26) : atI smallTxt.cps.toList i = some (smallAt i) := by
  have hl : smallTxt.cps.toList.length = 26 := by decide +kernel
  have hi : i.toNat < smallTxt.cps.toList.length := by omega
  have := atI_nat (xs := smallTxt.cps.toList) (j := i.toNat) (List.getElem?_eq_getElem hi)
  rw [Int.toNat_of_nonneg h0] at this
  rw [this]
  unfold smallAt
  rw [List.getD_eq_getElem?_getD, List.getElem?_eq_getElem hi]
  rfl
theorem ixL_nat {xs : List PyData} {j : Nat} {z : PyData} (h : xs[j]? = some z) : ixD (.list xs) (j : Int) = some z := atI_nat h
section
variable {P : Program} {w : World} {K : PySem.W.Frag} {mg : Str → Option Value} {base : Heap} {f : Addr} {fd : FuncData}
theorem pv_lenSc {X : Cx} {a : Expr} {r : Rho} {pos p : Pos} {ns : List Int} (hm : X.mg "len" = none) (ha : Pv X a r (.sc ns)) (hg : Gl X "len" := by rfl) (he : starEach [a] X.env = (false, eval a X.env) :: starEach [] X.env := by rfl) (hpl : (backTo pos (starEach [] X.env)).any (·.1) = false := by rfl) :
    Pv X (.Call (.Name "len" p) [a] [] pos) r (.d (.int (ns.length : Nat))) :=
  pv_callB call_len hg hm PySem.boot_len (pa_cons ha pa_nil he) (fun vs G H Q g hd k => by
    obtain ⟨v, rfl, q, rfl, hv⟩ := dens1 hd
    exact ⟨.ref q, ns.length, rfl, .inl ⟨_, ex_l g hv, by simp⟩, k _ G H (Gr.refl g) (Dp.int _)⟩) (he := he) (hpl := hpl)
theorem pv_ixSc {X : Cx} {a b : Expr} {r : Rho} {pos : Pos} {ns : List Int} {i z : Int} (ha : Pv X a r (.sc ns)) (hb : Pv X b r (.d (.int i))) (hi : atI ns i = some z) (hs : PlainIx b := by exact fun _ _ => rfl) : Pv X (.Subscript a b pos) r (.d (.int z)) := fun σ G H g n =>
  wE_of (pe_ix ix_list pe_w pe_w hs) (wE_imp (ha σ G H g n) fun x H1 ⟨G1, k1, q1⟩ => wE_imp (hb σ G1 H1 k1.s (n.up k1.g)) fun u H2 ⟨G2, k2, q2⟩ => by
    obtain ⟨q, rfl, hv⟩ := q1
    rw [den_int q2]
    refine ⟨q, ns.map V.int, i, .int z, rfl, rfl, ex_l (k1.s.trans k2.h) hv, ?_, G2, k1.trans k2, Dp.int _⟩
    unfold atI at hi ⊢
    rw [List.length_map]
    cases q3 : ixN ns.length i with
    | none => rw [q3] at hi; cases hi
    | some j =>
      rw [q3] at hi
      show (ns.map V.int)[j]? = _
      rw [List.getElem?_map, show ns[j]? = some z from hi]
      rfl)
theorem ok_cell (F : Fun K "_law_cell" "_law_cell" s_law_cell f fd) (B : Bl mg) : FnOk P w K mg base (L2.CX P w) 1 f fd p_law_cell (spR K R_cell noB) := by
  refine okP F sc_law_cell (by rintro ds d ⟨ns, k, rfl, rfl⟩; rfl) ?_
  rintro cdv A outer s H Q E ds d G hr ⟨ns, k, rfl, rfl⟩ kk
  by_cases h : k < ns.length
  · refine go_when (q := true) ((pt_lt (pv_var 1) (pv_lenSc B.len (pv_var 0))).is (decide_eq_true (by omega))) (fun _ => ?_) (fun h => nomatch h)
    refine go_ret (pv_ixSc (pv_var 0) (pv_var 1) (atI_nat (j := k) ?_)) kk
    unfold cellZ
    rw [List.getD_eq_getElem?_getD, List.getElem?_eq_getElem h]
    rfl
  · refine go_when (q := false) ((pt_lt (pv_var 1) (pv_lenSc B.len (pv_var 0))).is (decide_eq_false (by omega))) (fun h => nomatch h) (fun _ => ?_)
    refine go_ret (pv_int.is ?_) kk
    unfold cellZ
    rw [List.getD_eq_getElem?_getD, List.getElem?_eq_none (by omega)]
    rfl
theorem ok_seed (F : Fun K "_law_seed" "_law_seed" s_law_seed f fd) : FnOk P w K mg base (L2.CX P w) 1 f fd p_law_seed (spR K R_seed noB) := by
  refine okP F sc_law_seed (by rintro ds d ⟨s, k, rfl, _, _, rfl⟩; rfl) ?_
  rintro cdv A outer s H Q E ds d G hr ⟨z, k, rfl, h0, h1, rfl⟩ kk
  have m0 := Int.emod_nonneg (z * 1103515245 + 7919 * k + 12345) (show (2147483647 : Int) ≠ 0 by decide)
  have m1 := Int.emod_lt_of_pos (z * 1103515245 + 7919 * k + 12345) (show (0 : Int) < 2147483647 by decide)
  exact go_ret (pv_mod (by decide) (pv_pow ⟨by decide, by decide, by omega⟩ (pv_mod (by decide) (pv_add (pv_add (pv_mul (.inr ⟨by decide, by decide⟩) (pv_var 0) pv_int) (pv_mul (.inl ⟨by decide, by decide⟩) pv_int (pv_var 1))) pv_int) pv_int) pv_int) pv_int) kk
theorem ok_pick (F : Fun K "_law_pick" "_law_pick" s_law_pick f fd) : FnOk P w K mg base (L2.CX P w) 1 f fd p_law_pick (spR K R_pick noB) := by
  refine okP F sc_law_pick (by rintro ds d ⟨s, k, rfl, _, rfl⟩; rfl) ?_
  rintro cdv A outer s H Q E ds d G hr ⟨z, m, rfl, h0, rfl⟩ kk
  exact go_ret (pv_mod h0 (pv_fdiv ⟨by decide, by decide⟩ (pv_var 0) pv_int) (pv_var 1)) kk
abbrev FcCell (P : Program) (w : World) (K : PySem.W.Frag) (mg : Str → Option Value) (base : Heap) : Prop := Fc P w K mg base 1 "_law_cell" (spR K R_cell noB)
abbrev FcSeed (P : Program) (w : World) (K : PySem.W.Frag) (mg : Str → Option Value) (base : Heap) : Prop := Fc P w K mg base 1 "_law_seed" (spR K R_seed noB)
abbrev FcPick (P : Program) (w : World) (K : PySem.W.Frag) (mg : Str → Option Value) (base : Heap) : Prop := Fc P w K mg base 1 "_law_pick" (spR K R_pick noB)
theorem good_key {k : Str} (h : k ∈ keyNames) : Good (.str k) := by
  simp only [keyNames, List.mem_cons, List.not_mem_nil, or_false] at h
  rcases h with rfl | rfl | rfl | rfl <;> exact ⟨rfl, by decide +kernel, by simp [PyData.depth]⟩
theorem keysOf_len (z : Int) (n : Nat) : (keysOf z n).length ≤ n := by
  induction n with
  | zero => simp [keysOf, upto]
  | succ n ih =>
    rw [keysOf_succ]
    unfold addKey
    rw [List.length_append]
    split <;> simp <;> omega
theorem ok_lworld (F : Fun K "_law_world" "_law_world" s_law_world f fd) (B : Bl mg) (Fs : FcSeed P w K mg base) (Fp : FcPick P w K mg base) : FnOk P w K mg base (L2.CX P w) 2 f fd p_law_world (spR K R_lworld noB) := by
  refine okP F sc_law_world (by rintro ds d ⟨s, rfl, rfl⟩; rfl) ?_
  rintro cdv A outer s H Q E ds d G hr ⟨z0, rfl, rfl⟩ kk
  refine go_set 0 (pv_call Fs hr (pa_cons (pv_var 0) (pa_cons pv_int pa_nil)) ⟨z0, 9, rfl, by decide, by decide, rfl⟩) ?_ sc_law_world.nd
  obtain ⟨z, hz⟩ : ∃ z, z = seedZ z0 9 := ⟨_, rfl⟩
  rw [← hz]
  refine go_set 1 (pv_lst (xs := keyNames.map PyData.str) (pd_cons pv_str (pd_cons pv_str (pd_cons pv_str (pd_cons pv_str pd_nil)))) (by decide)) ?_ sc_law_world.nd
  refine go_set 2 (pv_lst (xs := []) pd_nil) ?_ sc_law_world.nd
  have hn : (z / 3 % 5).toNat ≤ 4 := by omega
  refine go_for (xs := upto 0 (z / 3 % 5).toNat) (enc := fun i => Dn.d (.int i)) (fun i r1 => ∃ o1 o2, r1 = [some (.d (.int z)), some (.d (.list (keyNames.map PyData.str))), some (.d (.list ((keysOf z i).map PyData.str))), o1, o2]) (passes_of rfl) rfl (wk_range1 B.range (pv_mod (by decide) (pv_fdiv ⟨by decide, by decide⟩ (pv_var 0) pv_int) pv_int) ⟨by omega, by omega⟩) ⟨none, none, rfl⟩ ?_ ?_
  · rintro G1 H1 g1 i x r1 hx ⟨o1, o2, rfl⟩
    obtain ⟨rfl, hi⟩ := upto_at hx
    rw [Int.zero_add]
    have hpk : 0 ≤ pickZ (seedZ z i) 4 ∧ pickZ (seedZ z i) 4 < 4 := ⟨Int.emod_nonneg _ (by decide), Int.emod_lt_of_pos _ (by decide)⟩
    refine ⟨_, _, pg_name 3 sc_law_world.nd, ?_⟩
    refine go_set 4 (pv_ix (pv_var 1) (pv_call Fp hr (pa_cons (pv_call Fs hr (pa_cons (pv_var 0) (pa_cons (pv_var 3) pa_nil)) ⟨z, i, rfl, by omega, by omega, rfl⟩) (pa_cons pv_int pa_nil)) ⟨seedZ z i, 4, rfl, by decide, rfl⟩) (ix_key hpk.1 hpk.2)) ?_ sc_law_world.nd
    have hgk := keysOf_ok z i
    have hlen := keysOf_len z i
    refine go_set 2 (d := .d (.list ((keysOf z (i + 1)).map PyData.str))) (Pv.is (pv_catL (pv_var 2) (pv_repL (pd_cons (pv_var 4) pd_nil) (pv_intb B.int (pv_ninD (by have := hr.un; show A.units + 3 + 65 < _; have e : (A.deeper (envOfC "_law_world" (defScope s_law_world) s.heap.objs.size f cdv)).units = A.units + 3 := rfl; omega) (pv_var 4) (pv_var 2) (good_key (keyAt_mem _)).shaped (good_list (by
        intro x hx
        obtain ⟨k, hk, rfl⟩ := List.mem_map.mp hx
        exact good_key (hgk.1 k hk))))) (by split <;> decide) (by split <;> simp)) (by
        rw [List.length_map, any_str]
        cases (keysOf z i).contains (keyAt (pickZ (seedZ z i) 4)) <;> simp <;> omega)) (by
        rw [any_str, keysOf_succ]
        unfold addKey
        rw [List.map_append]
        cases (keysOf z i).contains (keyAt (pickZ (seedZ z i) 4)) <;> rfl)) ?_ sc_law_world.nd
    exact go_nil fun σ H2 n2 => ⟨_, ⟨_, _, rfl⟩, n2⟩
  · rintro r1 ⟨o1, o2, rfl⟩
    rw [upto_len]
    refine go_ret ((pv_tup (pd_cons (pv_add pv_int (pv_mod (by decide) (pv_fdiv ⟨by decide, by decide⟩ (pv_var 0) pv_int) pv_int)) (pd_cons (pv_add pv_int (pv_mod (by decide) (pv_fdiv ⟨by decide, by decide⟩ (pv_var 0) pv_int) pv_int)) (pd_cons (pv_tupleL B.tuple (pv_var 2)) pd_nil)))).is ?_) kk
    rw [hz]
    rfl
theorem ok_lwish (F : Fun K "_law_wish" "_law_wish" s_law_wish f fd) (B : Bl mg) (Fs : FcSeed P w K mg base) (Fp : FcPick P w K mg base) : FnOk P w K mg base (L2.CX P w) 2 f fd p_law_wish (spR K R_lwish noB) := by
  refine okP F sc_law_wish (by rintro ds d ⟨c, r, ks, s, rfl, _, rfl⟩; rfl) ?_
  rintro cdv A outer s H Q E ds d G hr ⟨c, r, ks, z, rfl, h1, rfl⟩ kk
  refine go_set 2 (pv_str (i := smallTxt)) ?_ sc_law_wish.nd
  have hn : (1 + z / 3 % 4).toNat ≤ 4 := by omega
  have hname : Txt.join ("" : Str) ((nameOf z).map fun c => (⟨#[c]⟩ : Str)) = SX.S (nameOf z) := join_small _
  refine go_set 3 (d := .d (.str (SX.S (nameOf z)))) (Pv.is (pv_join (ss := (nameOf z).map fun c => (⟨#[c]⟩ : Str)) pv_str (Pv.is (pv_lc [("k", 4)] (fun _ : Int => true) (fun k => .str ⟨#[smallAt (pickZ (seedZ z k) 26)]⟩) (fun k => [some (.d (wD c r ks)), some (.d (.int z)), some (.d (.str smallTxt)), none, some (.d (.int k)), none, none]) rfl sc_law_wish.nd (wk_range1 (j := 1 + z / 3 % 4) B.range (pv_add pv_int (pv_mod (by decide) (pv_fdiv ⟨by decide, by decide⟩ (pv_var 1) pv_int) pv_int)) ⟨by omega, by omega⟩) (blkOk_by (N := n_law_wish) (sc := defScope s_law_wish) (by decide +kernel)) (fun y _ s H C cl fp => pg_name 4 sc_law_wish.nd) (fun y hy s H C cl fp => pts_nil) (fun y hy _ s H C cl fp => by
      obtain ⟨i, hi⟩ := List.mem_iff_getElem?.mp hy
      obtain ⟨rfl, hi2⟩ := upto_at hi
      exact pv_ixS (pv_var 2) (pv_call Fp hr (pa_cons (pv_call Fs hr (pa_cons (pv_var 1) (pa_cons (pv_var 4) pa_nil)) ⟨z, 0 + i, rfl, by omega, by omega, rfl⟩) (pa_cons pv_int pa_nil)) ⟨seedZ z (0 + i), 26, rfl, by decide, rfl⟩) (small_ix (Int.emod_nonneg _ (by decide)) (Int.emod_lt_of_pos _ (by decide))) (by decide +kernel)) (by rw [upto_len]; omega) (by simp) (fun _ _ => rfl)) (by
      unfold nameOf
      rw [List.filter_eq_self.mpr (fun _ _ => rfl), List.map_map, List.map_map]
      rfl)) (by
      have hl : (nameOf z).length ≤ 4 := by unfold nameOf; rw [List.length_map, upto_len]; exact hn
      rw [List.map_map, List.length_map]
      have : ((nameOf z).map ((fun x : Str => x.length) ∘ fun c => (⟨#[c]⟩ : Str))).sum = (nameOf z).length := by
        exact sum_one _
      rw [this]
      show (nameOf z).length + (nameOf z).length * 0 ≤ 16777216
      omega)) (by rw [hname])) ?_ sc_law_wish.nd
  have hs7 : 0 ≤ z / 7 % 2 ∧ z / 7 % 2 < 2 := by omega
  have hs17 : 0 ≤ z / 17 % 2 ∧ z / 17 % 2 < 2 := by omega
  have hs23 : 0 ≤ z / 23 % 2 ∧ z / 23 % 2 < 2 := by omega
  have hpk : 0 ≤ pickZ z 5 / 2 ∧ pickZ z 5 / 2 < 3 := by unfold pickZ; omega
  refine go_set 5 (d := .d (.int (longOf z))) (pv_add pv_int (pv_mod (by rcases sel2_cases 6 3 (z / 7 % 2) with h | h <;> rw [h] <;> decide) (pv_fdiv ⟨by decide, by decide⟩ (pv_var 1) pv_int) (pv_ix (pv_lst (pd_cons pv_int (pd_cons pv_int pd_nil))) (pv_mod (by decide) (pv_fdiv ⟨by decide, by decide⟩ (pv_var 1) pv_int) pv_int) (ix2 hs7.1 hs7.2)))) ?_ sc_law_wish.nd
  refine go_set 6 (d := .d (.int (hourOf z))) (pv_min2 B.min (pv_sub pv_int (pv_var 5)) (pv_ix (pv_lst (pd_cons (pv_add pv_int (pv_mod (by decide) (pv_fdiv ⟨by decide, by decide⟩ (pv_var 1) pv_int) pv_int)) (pd_cons (pv_mod (by decide) (pv_fdiv ⟨by decide, by decide⟩ (pv_var 1) pv_int) pv_int) (pd_cons pv_int pd_nil)))) (pv_fdiv ⟨by decide, by decide⟩ (pv_call Fp hr (pa_cons (pv_var 1) (pa_cons pv_int pa_nil)) ⟨z, 5, rfl, by decide, rfl⟩) pv_int) (ix3 hpk.1 hpk.2))) ?_ sc_law_wish.nd
  exact go_ret (pv_tup (pd_cons (pv_var 3) (pd_cons (pv_mod (by rcases sel2_cases r 1 (z / 17 % 2) with h | h <;> rw [h] <;> omega) (pv_fdiv ⟨by decide, by decide⟩ (pv_var 1) pv_int) (pv_ix (pv_lst (pd_cons (pv_ix (pv_var 0) pv_int rfl) (pd_cons pv_int pd_nil))) (pv_mod (by decide) (pv_fdiv ⟨by decide, by decide⟩ (pv_var 1) pv_int) pv_int) (ix2 hs17.1 hs17.2))) (pd_cons (pv_var 6) (pd_cons (pv_var 5) (pd_cons (pv_mod (by rcases sel2_cases 10 3 (z / 23 % 2) with h | h <;> rw [h] <;> decide) (pv_fdiv ⟨by decide, by decide⟩ (pv_var 1) pv_int) (pv_ix (pv_lst (pd_cons pv_int (pd_cons pv_int pd_nil))) (pv_mod (by decide) (pv_fdiv ⟨by decide, by decide⟩ (pv_var 1) pv_int) pv_int) (ix2 hs23.1 hs23.2))) pd_nil)))))) kk
end
end Fb

namespace Fb
open PySem PySem.Spec PyProof.Rows L2 Evl
/-! ### _law_asked, _law_word -/
section
variable {X : Cx} {a b c e o : Expr} {r : Rho} {pos : Pos} {G H : Hp} {Q : V → Hp → Hp → Prop}
theorem fx_if {q : Bool} (g : Ex G H) (hc : Pt X c r q) (ha : q = true → ∀ G1 H1, Gr G H G1 H1 → Fx X a r G1 H1 Q) (hb : q = false → ∀ G1 H1, Gr G H G1 H1 → Fx X b r G1 H1 Q) : Fx X (.IfExp c a b pos) r G H Q := fun σ n =>
  wE_of (pe_ifExp pt_w pe_w pe_w) (wT_imp (hc σ G H g n) fun x H1 ⟨G1, k1, q1⟩ => by
    subst q1
    cases x with
    | true => exact wE_imp (ha rfl G1 H1 k1 σ (n.up k1.g)) fun v H2 ⟨G2, e2, s2, k2⟩ => ⟨G2, k1.g.trans e2, s2, k2⟩
    | false => exact wE_imp (hb rfl G1 H1 k1 σ (n.up k1.g)) fun v H2 ⟨G2, e2, s2, k2⟩ => ⟨G2, k1.g.trans e2, s2, k2⟩)
end
def spotRH : PyData → Option (PyData × PyData)
  | .tuple [a, b] => some (a, b)
  | _ => none
def B_asked (C CN CB CD CU : Addr) : List Dn → Addr → Prop := fun ds Z => ∃ (kind : Int) (p : Addr) (b : Bk) (thing spot : PyData), ds = [.d (.int kind), .ob p C b.fs, .d thing, .d spot] ∧
  (kind = 0 ∧ B_offP C CN [.ob p C b.fs, .d thing] Z ∨ (∃ rm hr, kind = 1 ∧ spot = .tuple [rm, hr] ∧ B_pinP C CN CB [.ob p C b.fs, .d thing, .d rm, .d hr] Z) ∨ kind = 2 ∧ B_offP C CN [.ob p C b.fs, .d thing] Z ∨ kind = 3 ∧ B_dayP C CB [.ob p C b.fs, .d thing] Z ∨ kind = 4 ∧ B_listedP C CD [.ob p C b.fs, .d thing] Z ∨ kind = 5 ∧ B_wishP C CB CU [.ob p C b.fs, .d thing] Z)
structure Xm4 (K : PySem.W.Frag) (CN CB CD CU : Addr) : Prop where
  nn : PySem.W.exmOne K (.ref CN) (.ref CN) = some true
  bn : PySem.W.exmOne K (.ref CB) (.ref CN) = some false
  bb : PySem.W.exmOne K (.ref CB) (.ref CB) = some true
  dn : PySem.W.exmOne K (.ref CD) (.ref CN) = some false
  db : PySem.W.exmOne K (.ref CD) (.ref CB) = some false
  dd : PySem.W.exmOne K (.ref CD) (.ref CD) = some true
  un : PySem.W.exmOne K (.ref CU) (.ref CN) = some false
  ub : PySem.W.exmOne K (.ref CU) (.ref CB) = some false
  ud : PySem.W.exmOne K (.ref CU) (.ref CD) = some false
  uu : PySem.W.exmOne K (.ref CU) (.ref CU) = some true
def R_word (C CN CB CD CU : Addr) : List Dn → Dn → Prop := fun ds d => ∃ Z, B_asked C CN CB CD CU ds Z ∧ (Z = CN ∧ d = .d (.str "booking") ∨ Z = CB ∧ d = .d (.str "wish") ∨ Z = CD ∧ d = .d (.str "word") ∨ Z = CU ∧ d = .d (.str "full"))
section
variable {P : Program} {w : World} {K : PySem.W.Frag} {mg : Str → Option Value} {base : Heap} {f : Addr} {fd : FuncData} {C CN CB CD CU : Addr}
structure Fms (P : Program) (w : World) (K : PySem.W.Frag) (mg : Str → Option Value) (base : Heap) (C CN CB CD CU : Addr) : Prop where
  off : Fm P w K mg base 4 C "off" (spR K noR (B_offP C CN))
  pin : Fm P w K mg base 4 C "pin" (spR K noR (B_pinP C CN CB))
  place : Fm P w K mg base 4 C "place" (spR K noR (B_offP C CN))
  day : Fm P w K mg base 4 C "day" (spR K noR (B_dayP C CB))
  listed : Fm P w K mg base 4 C "listed" (spR K noR (B_listedP C CD))
  wish : Fm P w K mg base 5 C "wish" (spR K noR (B_wishP C CB CU))
theorem ok_asked (F : Fun K "_law_asked" "_law_asked" s_law_asked f fd) (T : Tc K C) (M : Fms P w K mg base C CN CB CD CU) : FnOk P w K mg base (L2.CX P w) 6 f fd p_law_asked (spR K noR (B_asked C CN CB CD CU)) := by
  refine okB F sc_law_asked (by rintro ds Z ⟨kind, p, b, thing, spot, rfl, _⟩; rfl) ?_
  rintro cdv A outer s H Q E ds Z G hr ⟨kind, p, b, thing, spot, rfl, hc⟩ k
  rcases hc with ⟨rfl, hB⟩ | ⟨rm, hh, rfl, rfl, hB⟩ | ⟨rfl, hB⟩ | ⟨rfl, hB⟩ | ⟨rfl, hB⟩ | ⟨rfl, hB⟩
  · exact go_when (q := true) ((pt_eqI (pv_var 0) pv_int).is (by rfl)) (fun _ => gx_ret fun G1 H1 g1 => fx_methP M.off T.cl hr tkR g1.s (pv_var 1) (fs_no b (by decide +kernel)) (pa_cons (pv_var 2) pa_nil) (.inr ⟨Z, hB, fun σ G2 H2 g2 _ => k G2 H2 (g1.trans g2)⟩)) (fun h => nomatch h)
  · refine go_when (q := false) ((pt_eqI (pv_var 0) pv_int).is (by rfl)) (fun h => nomatch h) (fun _ => ?_)
    exact go_when (q := true) ((pt_eqI (pv_var 0) pv_int).is (by rfl)) (fun _ => gx_ret fun G1 H1 g1 => fx_methP M.pin T.cl hr tkR g1.s (pv_var 1) (fs_no b (by decide +kernel)) (pa_cons (pv_var 2) (pa_cons (pv_ix (pv_var 3) pv_int (ix_zero _ _)) (pa_cons (pv_ix (pv_var 3) pv_int (ix_one _ _ _)) pa_nil))) (.inr ⟨Z, hB, fun σ G2 H2 g2 _ => k G2 H2 (g1.trans g2)⟩)) (fun h => nomatch h)
  · refine go_when (q := false) ((pt_eqI (pv_var 0) pv_int).is (by rfl)) (fun h => nomatch h) (fun _ => ?_)
    refine go_when (q := false) ((pt_eqI (pv_var 0) pv_int).is (by rfl)) (fun h => nomatch h) (fun _ => ?_)
    exact go_when (q := true) ((pt_eqI (pv_var 0) pv_int).is (by rfl)) (fun _ => gx_ret fun G1 H1 g1 => fx_methP M.place T.cl hr tkR g1.s (pv_var 1) (fs_no b (by decide +kernel)) (pa_cons (pv_var 2) pa_nil) (.inr ⟨Z, hB, fun σ G2 H2 g2 _ => k G2 H2 (g1.trans g2)⟩)) (fun h => nomatch h)
  · refine go_when (q := false) ((pt_eqI (pv_var 0) pv_int).is (by rfl)) (fun h => nomatch h) (fun _ => ?_)
    refine go_when (q := false) ((pt_eqI (pv_var 0) pv_int).is (by rfl)) (fun h => nomatch h) (fun _ => ?_)
    refine go_when (q := false) ((pt_eqI (pv_var 0) pv_int).is (by rfl)) (fun h => nomatch h) (fun _ => ?_)
    exact go_when (q := true) ((pt_eqI (pv_var 0) pv_int).is (by rfl)) (fun _ => gx_ret fun G1 H1 g1 => fx_methP M.day T.cl hr tkR g1.s (pv_var 1) (fs_no b (by decide +kernel)) (pa_cons (pv_var 2) pa_nil) (.inr ⟨Z, hB, fun σ G2 H2 g2 _ => k G2 H2 (g1.trans g2)⟩)) (fun h => nomatch h)
  · refine go_when (q := false) ((pt_eqI (pv_var 0) pv_int).is (by rfl)) (fun h => nomatch h) (fun _ => ?_)
    refine go_when (q := false) ((pt_eqI (pv_var 0) pv_int).is (by rfl)) (fun h => nomatch h) (fun _ => ?_)
    refine go_when (q := false) ((pt_eqI (pv_var 0) pv_int).is (by rfl)) (fun h => nomatch h) (fun _ => ?_)
    refine go_when (q := false) ((pt_eqI (pv_var 0) pv_int).is (by rfl)) (fun h => nomatch h) (fun _ => ?_)
    refine gx_ret fun G1 H1 g1 => fx_if (q := true) g1.s ((pt_eqI (pv_var 0) pv_int).is (by rfl)) (fun _ G2 H2 g2 => fx_methP M.listed T.cl hr tkR g2.s (pv_var 1) (fs_no b (by decide +kernel)) (pa_cons (pv_var 2) pa_nil) (.inr ⟨Z, hB, fun σ G3 H3 g3 _ => k G3 H3 ((g1.trans g2).trans g3)⟩)) (fun h => nomatch h)
  · refine go_when (q := false) ((pt_eqI (pv_var 0) pv_int).is (by rfl)) (fun h => nomatch h) (fun _ => ?_)
    refine go_when (q := false) ((pt_eqI (pv_var 0) pv_int).is (by rfl)) (fun h => nomatch h) (fun _ => ?_)
    refine go_when (q := false) ((pt_eqI (pv_var 0) pv_int).is (by rfl)) (fun h => nomatch h) (fun _ => ?_)
    refine go_when (q := false) ((pt_eqI (pv_var 0) pv_int).is (by rfl)) (fun h => nomatch h) (fun _ => ?_)
    refine gx_ret fun G1 H1 g1 => fx_if (q := false) g1.s ((pt_eqI (pv_var 0) pv_int).is (by rfl)) (fun h => nomatch h) (fun _ G2 H2 g2 => fx_methP M.wish T.cl hr tkR g2.s (pv_var 1) (fs_no b (by decide +kernel)) (pa_cons (pv_var 2) pa_nil) (.inr ⟨Z, hB, fun σ G3 H3 g3 _ => k G3 H3 ((g1.trans g2).trans g3)⟩))
abbrev FcAsk (P : Program) (w : World) (K : PySem.W.Frag) (mg : Str → Option Value) (base : Heap) (C CN CB CD CU : Addr) : Prop := Fc P w K mg base 6 "_law_asked" (spR K noR (B_asked C CN CB CD CU))
theorem ok_word (F : Fun K "_law_word" "_law_word" s_law_word f fd) (Fa : FcAsk P w K mg base C CN CB CD CU) (TN : Ec K mg "NoBooking" CN) (TB : Ec K mg "BadWish" CB) (TD : Ec K mg "BadWord" CD) (TU : Ec K mg "Full" CU) (M : Xm4 K CN CB CD CU) : FnOk P w K mg base (L2.CX P w) 7 f fd p_law_word (spR K (R_word C CN CB CD CU) noB) := by
  refine okP F sc_law_word (by rintro ds d ⟨Z, ⟨kind, p, b, thing, spot, rfl, _⟩, _⟩; rfl) ?_
  rintro cdv A outer s H Q E ds d G hr ⟨Z, hB, hd⟩ k
  have hB' := hB
  obtain ⟨kind, p, b, thing, spot, rfl, _⟩ := hB'
  refine go_set 4 pv_str ?_ sc_law_word.nd
  refine go_try (Wout := fun _ _ _ _ => False) takes_none5 (hd_cons ⟨rfl, by decide, .inl TN.gP⟩ (hd_cons ⟨rfl, by decide, .inl TB.gP⟩ (hd_cons ⟨rfl, by decide, .inl TD.gP⟩ (hd_cons ⟨rfl, by decide, .inl TU.gP⟩ .nil)))) fun pn xe tk => ?_
  refine gx_expr fun G1 H1 g1 => fx_defP Fa hr tk g1.s (pa_cons (pv_var 0) (pa_cons (pv_var 1) (pa_cons (pv_var 2) (pa_cons (pv_var 3) pa_nil)))) (.inr ⟨Z, hB, fun σ G2 H2 g2 n => ?_⟩)
  rcases hd with ⟨rfl, rfl⟩ | ⟨rfl, rfl⟩ | ⟨rfl, rfl⟩ | ⟨rfl, rfl⟩
  · exact many_hit M.nn fun a _ => h_word 4 sc_law_word.nd g2.s n (go_ret (pv_var 4) fun v G5 H5 g5 q5 => k v G5 H5 ((g1.trans g2).trans g5) q5)
  · exact many_miss M.bn (many_hit M.bb fun a _ => h_word 4 sc_law_word.nd g2.s n (go_ret (pv_var 4) fun v G5 H5 g5 q5 => k v G5 H5 ((g1.trans g2).trans g5) q5))
  · exact many_miss M.dn (many_miss M.db (many_hit M.dd fun a _ => h_word 4 sc_law_word.nd g2.s n (go_ret (pv_var 4) fun v G5 H5 g5 q5 => k v G5 H5 ((g1.trans g2).trans g5) q5)))
  · exact many_miss M.un (many_miss M.ub (many_miss M.ud (many_hit M.uu fun a _ => h_word 4 sc_law_word.nd g2.s n (go_ret (pv_var 4) fun v G5 H5 g5 q5 => k v G5 H5 ((g1.trans g2).trans g5) q5))))
end
end Fb

namespace Fb
open PySem PySem.Spec PyProof.Rows L2 Evl
/-! ### plain: what stands; law steps on a copy -/
section
variable {κ α : Type} [DecidableEq κ]
theorem getA_merge (k : κ) : ∀ (l kvs : List (κ × α)), getA (mergeA kvs l) k = l.foldl (fun acc e => if k = e.1 then some e.2 else acc) (getA kvs k)
  | [], _ => rfl
  | e :: l, kvs => by
    show getA (mergeA (putA kvs e.1 e.2) l) k = _
    rw [getA_merge k l, getA_put]
    rfl
theorem fold_none {k : κ} : ∀ (l : List (κ × α)) (o : Option α), (∀ e ∈ l, e.1 ≠ k) → l.foldl (fun acc e => if k = e.1 then some e.2 else acc) o = o
  | [], _, _ => rfl
  | e :: l, o, h => by
    rw [List.foldl_cons, if_neg fun z => h e List.mem_cons_self z.symm]
    exact fold_none l o fun x hx => h x (List.mem_cons_of_mem _ hx)
theorem fold_some {k : κ} {v : α} : ∀ (l : List (κ × α)) (o : Option α), (∀ e ∈ l, e.1 = k → e.2 = v) → (o = some v ∨ (k, v) ∈ l) → l.foldl (fun acc e => if k = e.1 then some e.2 else acc) o = some v
  | [], o, _, h => h.elim id fun z => by cases z
  | e :: l, o, h, hs => by
    rw [List.foldl_cons]
    by_cases he : k = e.1
    · rw [if_pos he, h e List.mem_cons_self he.symm]
      exact fold_some l _ (fun x hx => h x (List.mem_cons_of_mem _ hx)) (.inl rfl)
    · rw [if_neg he]
      refine fold_some l o (fun x hx => h x (List.mem_cons_of_mem _ hx)) ?_
      rcases hs with z | z
      · exact .inl z
      · rcases List.mem_cons.mp z with z | z
        · exact absurd (by rw [← z]) he
        · exact .inr z
theorem get_none {k : κ} {l : List (κ × α)} (h : ∀ e ∈ l, e.1 ≠ k) : getA (mergeA [] l) k = none := by rw [getA_merge]; exact fold_none l _ h
theorem get_some {k : κ} {v : α} {l : List (κ × α)} (hm : (k, v) ∈ l) (h : ∀ e ∈ l, e.1 = k → e.2 = v) : getA (mergeA [] l) k = some v := by rw [getA_merge]; exact fold_some l _ h (.inr hm)
end
theorem mem_offS {fs : List Fct} {b : Pr} : b ∈ offS fs ↔ Fct.off b ∈ fs := by
  unfold offS
  rw [List.mem_filterMap]
  constructor
  · rintro ⟨f, hf, h⟩
    cases f with
    | off b' => simp at h; subst h; exact hf
    | _ => simp at h
  · intro h
    exact ⟨_, h, rfl⟩
theorem mem_wishL {fs : List Fct} {b : Pr} {e : Pr × Wsh} : (b, e) ∈ wishL fs ↔ Fct.wish b e.1 e.2 ∈ fs ∧ Fct.off b ∉ fs := by
  unfold wishL
  rw [List.mem_filterMap]
  constructor
  · rintro ⟨f, hf, h⟩
    cases f with
    | wish b' m w =>
      by_cases hn : b' ∈ offS fs
      · rw [show wishE (offS fs) (.wish b' m w) = none from if_pos hn] at h
        cases h
      · rw [show wishE (offS fs) (.wish b' m w) = some (b', (m, w)) from if_neg hn] at h
        cases h
        exact ⟨hf, fun z => hn (mem_offS.mpr z)⟩
    | _ => cases h
  · rintro ⟨h1, h2⟩
    exact ⟨_, h1, if_neg fun z => h2 (mem_offS.mp z)⟩
theorem wishes_none {fs : List Fct} {b : Pr} (h : Fct.off b ∈ fs ∨ ∀ m w, Fct.wish b m w ∉ fs) : getA (wishesS fs) b = none := get_none fun e he z => by
  obtain ⟨k, v⟩ := e
  cases z
  obtain ⟨h1, h2⟩ := mem_wishL.mp he
  rcases h with h | h
  · exact h2 h
  · exact h _ _ h1
theorem wishes_some {fs : List Fct} {b m : Pr} {w : Wsh} (h : Fct.wish b m w ∈ fs) (hn : Fct.off b ∉ fs) (hu : ∀ m' w', Fct.wish b m' w' ∈ fs → m' = m ∧ w' = w) : getA (wishesS fs) b = some (m, w) := get_some (mem_wishL.mpr ⟨h, hn⟩) fun e he z => by
  obtain ⟨k, v⟩ := e
  cases z
  obtain ⟨h1, h2⟩ := hu _ _ (mem_wishL.mp he).1
  exact Prod.ext h1 h2
def newF (b : Bk) (w : Wsh) : Fct := .wish (b.mine, b.own) (b.clock + 1, b.mine) w
def wishB (b : Bk) (fs : List Fct) (w : Wsh) : Bk := { b with own := b.own + 1, clock := b.clock + 1, facts := (putS fs (newF b w)).map Fct.d }
theorem wish_fct {b : Bk} {fs : List Fct} (h : b.facts = fs.map Fct.d) (w : Wsh) : b.wish (wshD w) = wishB b fs w := put_fct (b := { b with own := b.own + 1, clock := b.clock + 1 }) h (newF b w)
theorem newF_ok {b : Bk} {fs : List Fct} {n : Nat} {w : Wsh} (h : BkF b fs n) (hw : WshOk b.r w) (ho : 0 ≤ b.own ∧ b.own ≤ 11) (hc : 0 ≤ b.clock ∧ b.clock ≤ 9998) : FctOk b.c b.r (newF b w) := by
  have := h.m
  exact ⟨⟨this.1, this.2, ho.1, ho.2⟩, ⟨by show 1 ≤ b.clock + 1; omega, by show b.clock + 1 ≤ 9999; omega, this.1, this.2⟩, hw, rfl⟩
theorem BkF.wish {b : Bk} {fs : List Fct} {n : Nat} {w : Wsh} (h : BkF b fs n) (hw : WshOk b.r w) (ho : 0 ≤ b.own ∧ b.own ≤ 11) (hc : 0 ≤ b.clock ∧ b.clock ≤ 9998) : BkF (wishB b fs w) (putS fs (newF b w)) (n + 1) :=
  ⟨rfl, fun g hg => by
    rcases putS_mem.mp hg with hg | rfl
    · exact h.ok g hg
    · exact newF_ok h hw ho hc, by have := putS_len fs (newF b w); have := h.len; omega, h.c, h.r, h.m⟩
theorem BkF.off {b : Bk} {fs : List Fct} {n : Nat} {q : Pr} (h : BkF b fs n) (hq : BkgOk b.c q) : BkF (b.off q) (putS fs (.off q)) (n + 1) := h.put (f := .off q) hq
theorem sz_wsh {r : Int} {w : Wsh} (h : WshOk r w) : szOk (wshD w) = true := by
  have h1 : (decide (1 ≤ (w.name.length : Int)) && decide ((w.name.length : Int) ≤ 4) && w.name.cps.toList.all fun c => decide (c ∈ smallTxt.cps.toList)) = true := h.name
  simp only [Bool.and_eq_true, decide_eq_true_iff] at h1
  show (decide (5 ≤ 1000) && (szOk (.str w.name) && (true && (true && (true && (true && true)))))) = true
  rw [show szOk (.str w.name) = true from decide_eq_true (by omega)]
  rfl
section
variable {X : Cx} {a b c e o : Expr} {es : List Expr} {sts ss rest : List Stmt} {r r' : Rho} {pos p p1 p2 p3 p4 apos : Pos} {D : Ends} {G0 H0 G H : Hp} {W : WX} {C CW CC CB CU CN q l sd : Addr}
/-- x = Copy(world, i) -/
theorem gx_copy (j : Nat) {x : Str} {p' : Pos} {k : Nat} {cc rr i : Int} {ks : List Str} (F : FkCopy X.prog X.w X.K X.mg X.base C CW CC) (hr : Room k X.A) (tk : Takes X W) (hw : Pv X a r (.d (wD cc rr ks))) (hi' : Pv X b r (.d (.int i))) (hW : isWorld (wD cc rr ks) = true) (hsz : szOk (wD cc rr ks) = true) (hM : 0 ≤ i ∧ i ≤ cc - 1)
    (h : ∀ q l sd G1 H1, Gx [] G0 H0 G1 H1 → H0 q = none → H0 l = none → H0 sd = none → CopyAt X.K C G1 H1 q l sd ⟨cc, rr, ks, i, [], 0, 0, []⟩ → Go X rest D G1 H1 (r.set j (some (.v (.ref q))))) (hk : 5 ≤ k := by decide)
    (hN : X.N.Nodup) (hi : X.N[j]? = some x := by rfl) (hg : Gl X "Copy" := by rfl) (hx : Loc X.env.scope x := by first | exact Or.inl rfl | exact Or.inr rfl)
    (hs : swapsWith (.Call (.Name "Copy" p) [a, b] [] pos) (some (.Name x p')) p2.line X.env = pure false := by rfl) (hf : X.fn x = true ∨ X.env.scope.names.lookup x = some .local := by first | exact .inl rfl | exact .inr rfl)
    (he : starEach [a, b] X.env = (false, eval a X.env) :: starEach [b] X.env := by rfl) (he2 : starEach [b] X.env = (false, eval b X.env) :: starEach [] X.env := by rfl) (hpl : (backTo pos (starEach [b] X.env)).any (·.1) = false := by rfl) : Go X (.Assign [.Name x p'] (.Call (.Name "Copy" p) [a, b] [] pos) p2 :: rest) D G0 H0 r := by
  refine gx_set j (fun G1 H1 g1 => ?_) hN hi hx hs hf
  refine fx_make F hr tk (fa_pa g1.s (pa_cons hw (pa_cons hi' pa_nil he2) he) fun vs G2 H2 g2 q2 => ?_) hk hg (by decide) he hpl
  obtain ⟨v1, v2, rfl, d1, d2⟩ := dens2 q2
  intro q dx nq nd ne
  have e2 : Ex G2 (upd (upd H2 dx (.own q)) q (.ins C dx [])) := (g2.s.trans (Ex.new nd)).mut (fresh_back g2.s nq)
  have hin : within (.int i) 0 (cc - 1) = true := within_iff.mpr hM
  have hcc : ∀ {c' r' : Int} {ks' : List Str}, wD cc rr ks = wD c' r' ks' → c' = cc ∧ r' = rr ∧ ks' = ks := fun {c' r' ks'} z => by
    have z1 := PyData.tuple.inj z
    simp only [List.cons.injEq, PyData.int.injEq, PyData.tuple.injEq, and_true] at z1
    exact ⟨z1.1.symm, z1.2.1.symm, by
      have h3 := z1.2.2
      have := congrArg strsOf h3
      rw [strsOf_map, strsOf_map] at this
      exact (Option.some.inj this).symm⟩
  refine ⟨q, dx, v1, v2, wD cc rr ks, .int i, G2, rfl, e2, fresh_back g2.s nq, upd_same, d1, d2, hsz, (fun z => by rw [hW] at z; cases z), (fun c' r' ks' hwd _ hM' => ?_), fun c' r' ks' i' hwd _ hmd _ G3 H3 l sd x3 fl fs A3 => ⟨rfl, G3, x3.g, x3.s, .v (.ref q), rfl, ?_⟩⟩
  · obtain ⟨rfl, _, _⟩ := hcc hwd
    rw [hin] at hM'
    cases hM'
  · obtain ⟨rfl, rfl, rfl⟩ := hcc hwd
    cases hmd
    have m := made_gr (g1.trans g2) nq nd x3
    have nH0 : ∀ a, (upd (upd H2 dx (.own q)) q (.ins C dx [])) a = none → H0 a = none := fun a z => by
      have n1 : a ≠ q := fun w => by rw [w, upd_same] at z; cases z
      have n2 : a ≠ dx := fun w => by rw [upd_ne n1, w, upd_same] at z; cases z
      rw [upd_ne n1, upd_ne n2] at z
      exact fresh_back (g1.trans g2).h z
    exact h q l sd G3 H3 m.x (fresh_back (g1.trans g2).h nq) (nH0 l fl) (nH0 sd fs) A3
/-- o.wish(e) -/
theorem gx_wish {k n : Nat} {bk : Bk} {fs : List Fct} {w : Wsh} (F : FmWish X.prog X.w X.K X.mg X.base C CB CU) (T : Tc X.K C) (hr : Room k X.A) (tk : Takes X W) (A : CopyAt X.K C G0 H0 q l sd bk) (hb : BkF bk fs n) (hn : n ≤ 1990) (ho : Pv X o r (.v (.ref q))) (he : Pv X e r (.d (wshD w))) (hw : WshOk bk.r w) (hown : 0 ≤ bk.own ∧ bk.own ≤ 11) (hcl : 0 ≤ bk.clock ∧ bk.clock ≤ 9998)
    (h : ∀ G1 H1 sd', Gx [q, l, sd] G0 H0 G1 H1 → (sd' = sd ∨ H0 sd' = none) → CopyAt X.K C G1 H1 q l sd' (wishB bk fs w) → Go X rest D G1 H1 r) (hk : 5 ≤ k := by decide) {pl : Sem Bool}
    (hst : starEach [e] X.env = (false, eval e X.env) :: starEach [] X.env := by rfl) (hpl : (backTo pos (starEach [] X.env)).any (·.1) = false := by rfl)
    (ht : eval (.Call (.Attribute o "wish" apos) [e] [] pos) X.env = (do
        let z ← eval o X.env
        standAt apos.atName
        let (u, first) ← holding [z] (getMethod z "wish" pl)
        callWith pos u first (backTo pos (starEach [e] X.env)) (backToKw pos (keywordEach [] X.env))) := by rfl)
    (hs : swapsWith (.Call (.Attribute o "wish" apos) [e] [] pos) none p2.line X.env = pure false := by rfl) : Go X (.Expr (.Call (.Attribute o "wish" apos) [e] [] pos) p2 :: rest) D G0 H0 r := by
  refine gx_expr (fun G1 H1 g1 => fx_meth F T.cl hr tk g1.s ho (fun G2 H2 g2 => ?_) hk hst hpl ht) hs
  have A2 := (A.up g1).up g2
  obtain ⟨dx, wv, fvs, h1, _⟩ := A2.setL
  refine ⟨dx, _, h1, bf_no _ _ _ _ (by decide +kernel), fa_pa g2.s (pa_cons he pa_nil hst) fun vs G3 H3 g3 q3 => ?_⟩
  obtain ⟨v3, rfl, q3v⟩ := dens1 q3
  have gg := (g1.trans g2).trans g3
  refine ⟨q, l, sd, bk, [v3], [wshD w], G3, rfl, g3.s, A2.up g3, .cons q3v .nil, .inl ⟨_, _, ⟨_, rfl, sz_wsh hw, isWish_iff.mpr hw, by omega, good_fct (newF_ok hb hw hown hcl), hb.bk.mono (by omega), rfl, rfl⟩, fun v4 G4 H4 sd4 x4 hs4 A4 _ => ⟨G4, x4.g, x4.s, ?_⟩⟩⟩
  rw [wish_fct hb.eq] at A4
  refine h G4 H4 sd4 ((gg.x (os := [q, l, sd])).trans x4) ?_ A4
  exact hs4.imp id fun z => gg.x.fresh (os := []) z
/-- o.off(e), a booking that stands -/
theorem gx_off {k n : Nat} {bk : Bk} {fs : List Fct} {y : Pr} (F : Fm X.prog X.w X.K X.mg X.base 4 C "off" (spM X.K C R_off (B_off CN))) (T : Tc X.K C) (hr : Room k X.A) (tk : Takes X W) (A : CopyAt X.K C G0 H0 q l sd bk) (hb : BkF bk fs n) (hn : n ≤ 1990) (ho : Pv X o r (.v (.ref q))) (he : Pv X e r (.d (prD y))) (hy : BkgOk bk.c y) (hst' : stands fs y = true)
    (h : ∀ G1 H1 sd', Gx [q, l, sd] G0 H0 G1 H1 → (sd' = sd ∨ H0 sd' = none) → CopyAt X.K C G1 H1 q l sd' (bk.off y) → Go X rest D G1 H1 r) (hk : 4 ≤ k := by decide) {pl : Sem Bool}
    (hst : starEach [e] X.env = (false, eval e X.env) :: starEach [] X.env := by rfl) (hpl : (backTo pos (starEach [] X.env)).any (·.1) = false := by rfl)
    (ht : eval (.Call (.Attribute o "off" apos) [e] [] pos) X.env = (do
        let z ← eval o X.env
        standAt apos.atName
        let (u, first) ← holding [z] (getMethod z "off" pl)
        callWith pos u first (backTo pos (starEach [e] X.env)) (backToKw pos (keywordEach [] X.env))) := by rfl)
    (hs : swapsWith (.Call (.Attribute o "off" apos) [e] [] pos) none p2.line X.env = pure false := by rfl) : Go X (.Expr (.Call (.Attribute o "off" apos) [e] [] pos) p2 :: rest) D G0 H0 r := by
  refine gx_expr (fun G1 H1 g1 => fx_meth F T.cl hr tk g1.s ho (fun G2 H2 g2 => ?_) hk hst hpl ht) hs
  have A2 := (A.up g1).up g2
  obtain ⟨dx, wv, fvs, h1, _⟩ := A2.setL
  refine ⟨dx, _, h1, bf_no _ _ _ _ (by decide +kernel), fa_pa g2.s (pa_cons he pa_nil hst) fun vs G3 H3 g3 q3 => ?_⟩
  obtain ⟨v3, rfl, q3v⟩ := dens1 q3
  have gg := (g1.trans g2).trans g3
  refine ⟨q, l, sd, bk, [v3], [prD y], G3, rfl, g3.s, A2.up g3, .cons q3v .nil, .inl ⟨_, _, ⟨y, fs, rfl, hb.mono (by omega), hy, hst', rfl, rfl⟩, fun v4 G4 H4 sd4 x4 hs4 A4 _ => ⟨G4, x4.g, x4.s, ?_⟩⟩⟩
  refine h G4 H4 sd4 ((gg.x (os := [q, l, sd])).trans x4) ?_ A4
  exact hs4.imp id fun z => gg.x.fresh (os := []) z
end
end Fb

namespace Fb
open PySem PySem.Spec PyProof.Rows L2 Evl
/-! ### laws: the promise, drawn worlds and wishes -/
def spLaw (K : PySem.W.Frag) : Sp := fun vs H Q _ => ∃ (a : Addr) (ns : List Int), vs = [.ref a] ∧ SqL K H a (ns.map V.int) ∧ ∀ H', Q (.bl true) H'
theorem modNat (z m : Int) (h : 0 < m) : z % m = ((z % m).toNat : Int) := (Int.toNat_of_nonneg (Int.emod_nonneg _ (by omega))).symm
theorem sz_key {k : Str} (h : k ∈ keyNames) : szOk (.str k) = true := by
  unfold keyNames at h
  simp only [List.mem_cons, List.not_mem_nil, or_false] at h
  rcases h with rfl | rfl | rfl | rfl <;> decide +kernel
theorem sz_world {c r : Int} {ks : List Str} (hk : ∀ k ∈ ks, k ∈ keyNames) (hl : ks.length ≤ 1000) : szOk (wD c r ks) = true := by
  have h1 : szAll (ks.map PyData.str) = true := szAll_iff.mpr fun x hx => by
    obtain ⟨k, h, rfl⟩ := List.mem_map.mp hx
    exact sz_key (hk k h)
  show (decide (3 ≤ 1000) && (true && (true && ((decide ((ks.map PyData.str).length ≤ 1000) && szAll (ks.map PyData.str)) && true)))) = true
  rw [h1, List.length_map, decide_eq_true hl]
  rfl
def wshOf (r s : Int) : Wsh := ⟨SX.S (nameOf s), roomOf r s, hourOf s, longOf s, rankOf s⟩
theorem wshOf_d (r s : Int) : wishOf r s = wshD (wshOf r s) := rfl
theorem wshOf_ok {r s : Int} (h : 1 ≤ r) : WshOk r (wshOf r s) := isWish_iff.mp (wishOf_ok h)
/-- the drawn world, told -/
theorem world_is (cell : Int) : ∃ c r ks, worldOf cell = wD c r ks ∧ (1 ≤ c ∧ c ≤ 5) ∧ (1 ≤ r ∧ r ≤ 3) ∧ (∀ k ∈ ks, k ∈ keyNames) ∧ ks.Nodup ∧ isWorld (wD c r ks) = true ∧ szOk (wD c r ks) = true :=
  ⟨_, _, _, rfl, ⟨by unfold worldC; omega, by unfold worldC; omega⟩, ⟨by unfold worldR; omega, by unfold worldR; omega⟩, (keysOf_ok _ _).1, (keysOf_ok _ _).2, worldOf_ok cell, sz_world (keysOf_ok _ _).1 (by have := keysOf_len (seedZ cell 9) (seedZ cell 9 / 3 % 5).toNat; unfold worldK; omega)⟩
end Fb

namespace Fb
open PySem PySem.Spec PyProof.Rows L2 Evl
/-! ### k09: plain -/
def fsW (g : Nat → Wsh) (n : Nat) : List Fct := (List.range n).map fun (k : Nat) => Fct.wish (0, (k : Int)) ((k : Int) + 1, 0) (g k)
def bkW (c r : Int) (ks : List Str) (g : Nat → Wsh) (n : Nat) : Bk := ⟨c, r, ks, 0, (fsW g n).map Fct.d, n, n, []⟩
theorem fsW_succ (g : Nat → Wsh) (n : Nat) : fsW g (n + 1) = fsW g n ++ [Fct.wish (0, (n : Int)) ((n : Int) + 1, 0) (g n)] := by
  unfold fsW
  rw [List.range_succ, List.map_append]
  rfl
theorem mem_fsW {g : Nat → Wsh} {n : Nat} {f : Fct} : f ∈ fsW g n ↔ ∃ k, k < n ∧ f = Fct.wish (0, (k : Int)) ((k : Int) + 1, 0) (g k) := by
  unfold fsW
  rw [List.mem_map]
  constructor
  · rintro ⟨k, hk, rfl⟩
    exact ⟨k, List.mem_range.mp hk, rfl⟩
  · rintro ⟨k, hk, rfl⟩
    exact ⟨k, List.mem_range.mpr hk, rfl⟩
theorem fsW_new {g : Nat → Wsh} {n : Nat} {m : Pr} {w : Wsh} : Fct.wish (0, (n : Int)) m w ∉ fsW g n := fun h => by
  obtain ⟨k, hk, e⟩ := mem_fsW.mp h
  simp only [Fct.wish.injEq, Prod.mk.injEq, true_and] at e
  omega
theorem bkW_ok {c r : Int} {ks : List Str} {g : Nat → Wsh} {n : Nat} (hc : 1 ≤ c ∧ c ≤ 5) (hr : 1 ≤ r ∧ r ≤ 3) (hg : ∀ k, WshOk r (g k)) (hn : n ≤ 12) : BkF (bkW c r ks g n) (fsW g n) n := by
  refine ⟨rfl, fun f hf => ?_, by simp [fsW], hc, hr, ⟨Int.le_refl 0, by show 0 ≤ c - 1; omega⟩⟩
  obtain ⟨k, hk, rfl⟩ := mem_fsW.mp hf
  exact ⟨⟨Int.le_refl 0, by show 0 ≤ c - 1; omega, by show 0 ≤ (k : Int); omega, by show (k : Int) ≤ 11; omega⟩, ⟨by show 1 ≤ (k : Int) + 1; omega, by show (k : Int) + 1 ≤ 9999; omega, Int.le_refl 0, by show 0 ≤ c - 1; omega⟩, hg k, rfl⟩
theorem bkW_wish {c r : Int} {ks : List Str} {g : Nat → Wsh} {n : Nat} : wishB (bkW c r ks g n) (fsW g n) (g n) = bkW c r ks g (n + 1) := by
  unfold wishB
  have e : newF (bkW c r ks g n) (g n) = Fct.wish (0, (n : Int)) ((n : Int) + 1, 0) (g n) := rfl
  rw [e, show putS (fsW g n) (Fct.wish (0, (n : Int)) ((n : Int) + 1, 0) (g n)) = fsW g (n + 1) from by unfold putS; rw [if_neg fsW_new, fsW_succ]]
  show (⟨c, r, ks, 0, (fsW g (n + 1)).map Fct.d, (n : Int) + 1, (n : Int) + 1, []⟩ : Bk) = ⟨c, r, ks, 0, (fsW g (n + 1)).map Fct.d, ((n + 1 : Nat) : Int), ((n + 1 : Nat) : Int), []⟩
  rw [show ((n + 1 : Nat) : Int) = (n : Int) + 1 from by omega]
def fsO (g : Nat → Wsh) (n j : Nat) : List Fct := fsW g n ++ [Fct.off (0, (j : Int))]
theorem off_not {g : Nat → Wsh} {n : Nat} {b : Pr} : Fct.off b ∉ fsW g n := fun h => by
  obtain ⟨k, _, e⟩ := mem_fsW.mp h
  cases e
theorem put_off {g : Nat → Wsh} {n j : Nat} : putS (fsW g n) (Fct.off (0, (j : Int))) = fsO g n j := by
  unfold putS
  rw [if_neg off_not]
  rfl
theorem standsW {g : Nat → Wsh} {n j : Nat} (h : j < n) : stands (fsW g n) (0, (j : Int)) = true := by
  unfold stands
  rw [wishes_some (m := ((j : Int) + 1, 0)) (w := g j) (mem_fsW.mpr ⟨j, h, rfl⟩) off_not (fun m' w' hm => ?_)]
  · rfl
  · obtain ⟨k, _, e⟩ := mem_fsW.mp hm
    simp only [Fct.wish.injEq, Prod.mk.injEq, true_and] at e
    obtain ⟨e1, e2, e3⟩ := e
    have : k = j := by omega
    subst this
    exact ⟨e2, e3⟩
theorem mem_fsO {g : Nat → Wsh} {n j : Nat} {f : Fct} : f ∈ fsO g n j ↔ f ∈ fsW g n ∨ f = .off (0, (j : Int)) := by unfold fsO; simp
theorem getO {g : Nat → Wsh} {n j i : Nat} (h : i < n) (hne : i ≠ j) : getA (wishesS (fsO g n j)) (0, (i : Int)) = some (((i : Int) + 1, 0), g i) := by
  refine wishes_some (mem_fsO.mpr (.inl (mem_fsW.mpr ⟨i, h, rfl⟩))) (fun z => ?_) (fun m' w' hm => ?_)
  · rcases mem_fsO.mp z with z | z
    · exact off_not z
    · simp only [Fct.off.injEq, Prod.mk.injEq, true_and] at z
      omega
  · rcases mem_fsO.mp hm with z | z
    · obtain ⟨k, _, e⟩ := mem_fsW.mp z
      simp only [Fct.wish.injEq, Prod.mk.injEq, true_and] at e
      obtain ⟨e1, e2, e3⟩ := e
      have : k = i := by omega
      subst this
      exact ⟨e2, e3⟩
    · cases z
theorem noO {g : Nat → Wsh} {n j : Nat} {b : Pr} (h : b = (0, (j : Int)) ∨ b.1 ≠ 0 ∨ b.2 < 0 ∨ (n : Int) ≤ b.2) : stands (fsO g n j) b = false := by
  unfold stands
  rw [wishes_none]
  · rfl
  · rcases h with rfl | h
    · exact .inl (mem_fsO.mpr (.inr rfl))
    · refine .inr fun m w hm => ?_
      rcases mem_fsO.mp hm with z | z
      · obtain ⟨k, hk, e⟩ := mem_fsW.mp z
        simp only [Fct.wish.injEq] at e
        obtain ⟨e1, _⟩ := e
        subst e1
        dsimp only at h
        omega
      · cases z
def oddL (n j : Nat) : List PyData := [prD (0, (j : Int)), prD (0, (n : Int)), prD (1, 0), prD (0, -1), prD (0, 12), .tuple [.bool true, .int 0], .tuple [.int 0, .bool false], .list [.int 0, .int 0], .none, .tuple [.int 0], .tuple [.list [], .int 0]] ++ [.str "00", .tuple [.int 0, .int 0, .int 0]]
theorem odd_bad {c : Int} {g : Nat → Wsh} {n j : Nat} : ∀ y ∈ oddL n j, knownD c (fsO g n j) y = false := by
  have pr : ∀ b : Pr, (b = (0, (j : Int)) ∨ b.1 ≠ 0 ∨ b.2 < 0 ∨ (n : Int) ≤ b.2) → knownD c (fsO g n j) (prD b) = false := fun b h => by
    show (isBooking c (prD b) && stands (fsO g n j) b) = false
    rw [noO h, Bool.and_false]
  intro y hy
  simp only [oddL, List.cons_append, List.nil_append, List.mem_cons, List.not_mem_nil, or_false] at hy
  rcases hy with rfl | rfl | rfl | rfl | rfl | rfl | rfl | rfl | rfl | rfl | rfl | rfl | rfl
  · exact pr _ (.inl rfl)
  · exact pr _ (.inr (.inr (.inr (Int.le_refl _))))
  · exact pr _ (.inr (.inl (by decide)))
  · exact pr _ (.inr (.inr (.inl (by decide))))
  · rw [knownD_no]
    show (within (.int 0) 0 (c - 1) && within (.int 12) 0 11) = false
    rw [show within (.int 12) 0 11 = false from by decide, Bool.and_false]
  all_goals rfl
theorem many_bad {c : Int} {g : Nat → Wsh} {n j : Nat} : knownD c (fsO g n j) (prD (0, (n : Int))) = false := odd_bad _ (by simp [oddL])
def spotsL (r long : Int) : List (PyData × PyData) := [(.int r, .int 0), (.int (-1), .int 0), (.int 0, .int (25 - long)), (.int 0, .int (-1)), (.none, .int 0), (.int 0, .bool true), (.str "0", .int 0)]
theorem spots_bad {r long : Int} : ∀ q ∈ spotsL r long, isPlace r long q.1 q.2 = false := by
  have w : ∀ {i lo hi : Int}, ¬ (lo ≤ i ∧ i ≤ hi) → within (.int i) lo hi = false := fun {i lo hi} h => by
    cases q : within (.int i) lo hi with
    | false => rfl
    | true => exact absurd (within_iff.mp q) h
  intro q hq
  simp only [spotsL, List.mem_cons, List.not_mem_nil, or_false] at hq
  unfold isPlace
  rcases hq with rfl | rfl | rfl | rfl | rfl | rfl | rfl <;> dsimp only
  · rw [w (by omega), Bool.false_and]
  · rw [w (by omega), Bool.false_and]
  · rw [w (i := 25 - long) (by omega), Bool.and_false]
  · rw [w (i := -1) (by omega), Bool.and_false]
  · rfl
  · rw [show within (.bool true) 0 (24 - long) = false from rfl, Bool.and_false]
  · rfl
def daysL (r : Int) : List PyData := [.int r, .int (-1), .none, .bool true, .str "0"]
theorem days_bad {r : Int} : ∀ y ∈ daysL r, within y 0 (r - 1) = false := by
  have w : ∀ {i lo hi : Int}, ¬ (lo ≤ i ∧ i ≤ hi) → within (.int i) lo hi = false := fun {i lo hi} h => by
    cases q : within (.int i) lo hi with
    | false => rfl
    | true => exact absurd (within_iff.mp q) h
  intro y hy
  simp only [daysL, List.mem_cons, List.not_mem_nil, or_false] at hy
  rcases hy with rfl | rfl | rfl | rfl | rfl
  · exact w (by omega)
  · exact w (by omega)
  all_goals rfl
def wordsL : List PyData := [.str "", .str "none", .none, .int 7, .str "Out", .list [.str "out"]]
theorem words_bad : ∀ y ∈ wordsL, isAsk y = false := by
  intro y hy
  simp only [wordsL, List.mem_cons, List.not_mem_nil, or_false] at hy
  rcases hy with rfl | rfl | rfl | rfl | rfl | rfl <;> first | rfl | decide +kernel
/-- an item of a list by a number below its length -/
theorem ix_in {xs : List PyData} {z : Int} {n : Nat} (hn : xs.length = n) (h0 : 0 < n) : ∃ y, ixD (.list xs) (z % (n : Int)) = some y ∧ y ∈ xs := by
  have h1 : 0 ≤ z % (n : Int) := Int.emod_nonneg _ (by omega)
  have h2 : z % (n : Int) < n := Int.emod_lt_of_pos _ (by omega)
  have h3 : (z % (n : Int)).toNat < xs.length := by omega
  exact ⟨xs[(z % (n : Int)).toNat], ix_of h1 (List.getElem?_eq_getElem h3), List.getElem_mem h3⟩
/-- the lengths, by booking -/
def longE : Fct → Option (Pr × Int)
  | .wish b _ w => some (b, w.long)
  | _ => none
def longF : Fct → PyData
  | .wish b _ w => .tuple [prD b, .int w.long]
  | _ => .none
theorem longL_eq : ∀ fs : List Fct, (fs.filter fun f => decide (f.w = ("wish" : Str))).map longF = (mapA kB PyData.int (fs.filterMap longE)).map pairD
  | [] => rfl
  | .off b :: fs => by
    rw [List.filter_cons_of_neg (by show ¬ decide (("off" : Str) = "wish") = true; decide +kernel), longL_eq fs]
    rfl
  | .pin b m p :: fs => by
    rw [List.filter_cons_of_neg (by show ¬ decide (("pin" : Str) = "wish") = true; decide +kernel), longL_eq fs]
    rfl
  | .wish b m w :: fs => by
    rw [List.filter_cons_of_pos (by show decide (("wish" : Str) = "wish") = true; decide +kernel), List.map_cons, longL_eq fs]
    rfl
theorem getLong {g : Nat → Wsh} {n j i : Nat} (h : i < n) : getA (mergeA [] ((isort ltFc (fsO g n j)).filterMap longE)) (0, (i : Int)) = some (g i).long := by
  refine get_some (List.mem_filterMap.mpr ⟨Fct.wish (0, (i : Int)) ((i : Int) + 1, 0) (g i), isort_mem.mpr (mem_fsO.mpr (.inl (mem_fsW.mpr ⟨i, h, rfl⟩))), rfl⟩) fun e he z => ?_
  obtain ⟨f, hf, e1⟩ := List.mem_filterMap.mp he
  rcases mem_fsO.mp (isort_mem.mp hf) with q | q
  · obtain ⟨k, _, rfl⟩ := mem_fsW.mp q
    cases e1
    dsimp only at z ⊢
    have : k = i := by
      have z' : (k : Int) = i := by simpa using z
      omega
    rw [this]
  · subst q
    cases e1
end Fb

namespace Fb
open PySem PySem.Spec PyProof.Rows L2 Evl
/-! ### k09: the law -/
def wz9 (ns : List Int) (r : Int) (k : Nat) : Wsh := wshOf r (seedZ (cellZ ns (2 + k % 3) + 17 * k) k)
def aW (k : Int) : Wsh := ⟨"a", 0, k, 1, 0⟩
theorem aW_ok {r k : Int} (hr : 1 ≤ r) (hk : 0 ≤ k ∧ k ≤ 23) : WshOk r (aW k) := ⟨by show isName (.str "a") = true; decide +kernel, ⟨Int.le_refl 0, by show (0 : Int) ≤ r - 1; omega⟩, ⟨hk.1, by show k ≤ 24 - 1; omega⟩, ⟨Int.le_refl 1, by show (1:Int) ≤ 6; decide⟩, ⟨Int.le_refl 0, by show (0:Int) ≤ 9; decide⟩⟩
theorem imm_facts {c r : Int} {fs : List Fct} (h : ∀ f ∈ fs, FctOk c r f) : imm (.tuple (fs.map Fct.d)) = true := by
  rw [imm, immAll_iff]
  intro x hx
  obtain ⟨f, hf, rfl⟩ := List.mem_map.mp hx
  exact (good_fct (h f hf)).im
structure Lw9 (P : Program) (w : World) (K : PySem.W.Frag) (mg : Str → Option Value) (base : Heap) (C CW CC CN CB CD CU : Addr) : Prop where
  B : Bl mg
  T : Tc K C
  cell : FcCell P w K mg base
  seed : FcSeed P w K mg base
  world : Fc P w K mg base 2 "_law_world" (spR K R_lworld noB)
  wish : Fc P w K mg base 2 "_law_wish" (spR K R_lwish noB)
  make : FkCopy P w K mg base C CW CC
  mwish : FmWish P w K mg base C CB CU
  moff : Fm P w K mg base 4 C "off" (spM K C R_off (B_off CN))
  told : Fm P w K mg base 1 C "told" (spR K (R_told C) noB)
  word : Fc P w K mg base 7 "_law_word" (spR K (R_word C CN CB CD CU) noB)
section
variable {P : Program} {w : World} {K : PySem.W.Frag} {mg : Str → Option Value} {base : Heap} {f : Addr} {fd : FuncData} {C CW CC CN CB CD CU : Addr}
variable {cdv : Value} {A : Around} {outer : List Env} {s : Shared} {H : Hp} {Q : VK} {E : XK} {ns : List Int} {c r : Int} {ks : List Str} {many j : Nat} {g : Nat → Wsh} {bo : Bk}
theorem k09_last (L : Lw9 P w K mg base C CW CC CN CB CD CU) (hr : Room 7 (A.deeper (envOfC "law" (defScope s_law) s.heap.objs.size f cdv))) (k : ∀ H', Q (.bl true) H') (hu : (A.deeper (envOfC "law" (defScope s_law) s.heap.objs.size f cdv)).units + 70 < cLine) (hc : 1 ≤ c ∧ c ≤ 5) (hr1 : 1 ≤ r ∧ r ≤ 3) (hm1 : 1 ≤ many ∧ many ≤ 12) (hg : ∀ i, WshOk r (g i)) (hj1 : j < many) (hbF : BkF bo (fsO g many j) 13) (hboc : bo.c = c ∧ bo.r = r ∧ bo.own = many ∧ bo.clock = many) (hok2 : ∀ f ∈ isort ltFc (fsO g many j), FctOk c r f) : ∀ (bad : PyData) (o4 o10 o11 o12 o13 : Option Dn) (p l sd : Addr) (G0 H0 : Hp), CopyAt K C G0 H0 p l sd bo →
    Go (cxOf (L2.CX P w) P w K mg base n_law "law" (defScope s_law) f cdv A outer s H E) ((defBody s_law).drop 14) { nx := fun _ H' => Q .non H', rt := Q } G0 H0 [some (.sc ns), some (.d (wD c r ks)), some (.v (.ref p)), some (.d (.int (many : Int))), o4, some (.d (prD (0, (j : Int)))), some (.d (prD (0, (((j + 1) % many : Nat) : Int)))), some (.d (.list (oddL many j))), some (.d bad), some (.d (.tuple ((isort ltFc (fsO g many j)).map Fct.d))), o10, o11, o12, o13] := by
  intro bad o4 o10 o11 o12 o13 p l sd G0 H0 A0
  obtain ⟨dy, hd1, hd2⟩ := ix_in (xs := daysL r) (z := cellZ ns 9) (n := 5) rfl (by decide)
  refine gx_test (q := false) (fun G H g => (A0.up g).own (i := 2) rfl) ((pt_neS (pv_call L.word hr (pa_cons pv_int (pa_cons (pv_var 2) (pa_cons (pv_ix (pv_lst (xs := daysL r) (pd_cons (pv_ix (pv_var 1) pv_int rfl) (pd_cons (by exact pv_neg pv_int) (pd_cons (by exact pv_none) (pd_cons (by exact pv_bool) (pd_cons (by exact pv_str) pd_nil))))) (by show 5 ≤ 100000; decide)) (pv_mod (by decide) (pv_call L.cell hr (pa_cons (pv_var 0) (pa_cons pv_int pa_nil)) ⟨ns, 9, rfl, rfl⟩) pv_int) hd1) (pa_cons pv_none pa_nil)))) ⟨CB, ⟨3, p, bo, dy, .none, rfl, .inr (.inr (.inr (.inl ⟨rfl, p, bo, dy, rfl, by rw [hboc.2.1]; exact days_bad dy hd2, rfl⟩)))⟩, .inr (.inl ⟨rfl, rfl⟩)⟩) pv_str).is (by decide +kernel)) (fun h => nomatch h) (fun _ G1 H1 g1 => ?_)
  have A1 := A0.up g1
  obtain ⟨wy, hw1, hw2⟩ := ix_in (xs := wordsL) (z := cellZ ns 10) (n := 6) rfl (by decide)
  refine gx_test (q := false) (fun G H g => (A1.up g).own (i := 2) rfl) ((pt_neS (pv_call L.word hr (pa_cons pv_int (pa_cons (pv_var 2) (pa_cons (pv_ix (pv_lst (xs := wordsL) (pd_cons (by exact pv_str) (pd_cons (by exact pv_str) (pd_cons (by exact pv_none) (pd_cons (by exact pv_int) (pd_cons (by exact pv_str) (pd_cons (by exact pv_lst (pd_cons pv_str pd_nil)) pd_nil)))))) (by show 6 ≤ 100000; decide)) (pv_mod (by decide) (pv_call L.cell hr (pa_cons (pv_var 0) (pa_cons pv_int pa_nil)) ⟨ns, 10, rfl, rfl⟩) pv_int) hw1) (pa_cons pv_none pa_nil)))) ⟨CD, ⟨4, p, bo, wy, .none, rfl, .inr (.inr (.inr (.inr (.inl ⟨rfl, p, bo, wy, rfl, words_bad wy hw2, rfl⟩))))⟩, .inr (.inr (.inl ⟨rfl, rfl⟩))⟩) pv_str).is (by decide +kernel)) (fun h => nomatch h) (fun _ G2 H2 g2 => ?_)
  have A2 := A1.up g2
  have gl : ∀ z ∈ (isort ltFc (fsO g many j)).map Fct.d, Good z := fun z hz => by
    obtain ⟨f, hf, rfl⟩ := List.mem_map.mp hz
    exact good_fct (hok2 f hf)
  refine gx_test (q := false) (fun G H g => (A2.up g).own (i := 2) rfl) ((pt_ne (by show (A.deeper (envOfC "law" (defScope s_law) s.heap.objs.size f cdv)).units + 64 < cLine; omega) (pv_meth0 L.told L.T.cl hr (pv_var 2) (fs_no bo (by decide +kernel)) ⟨p, bo, fsO g many j, rfl, hbF.mono (by omega), rfl⟩) (pv_var 9) (shaped_tup gl) (shaped_tup gl)).is (by rw [SeqAt.eqv_refl _ (by obtain ⟨h1, _⟩ := good_all gl; simpa only [PyData.canLay0] using h1)]; rfl)) (fun h => nomatch h) (fun _ G3 H3 g3 => ?_)
  have A3 := A2.up g3
  refine gx_for (xs := upto 0 ((12 : Int) - many).toNat) (enc := fun i => Dn.d (.int i)) (fun i r1 G' H' => (∃ o, r1 = [some (.sc ns), some (.d (wD c r ks)), some (.v (.ref p)), some (.d (.int (many : Int))), o, some (.d (prD (0, (j : Int)))), some (.d (prD (0, (((j + 1) % many : Nat) : Int)))), some (.d (.list (oddL many j))), some (.d bad), some (.d (.tuple ((isort ltFc (fsO g many j)).map Fct.d))), o10, o11, o12, o13]) ∧ ∃ sd' b' fs', CopyAt K C G' H' p l sd' b' ∧ BkF b' fs' (13 + i) ∧ b'.r = r ∧ b'.own = many + i ∧ b'.clock = many + i) (passes_of rfl) rfl (wk_range1 L.B.range (pv_sub pv_int (pv_var 3)) ⟨by omega, by omega⟩) ?_ ?_ ?_ ?_
  · rintro i r1 G5 H5 G6 H6 ⟨hr5, sd', b', fs', A5, h5⟩ g6
    exact ⟨hr5, sd', b', fs', A5.up g6, h5⟩
  · exact fun G5 H5 g5 => ⟨⟨o4, rfl⟩, sd, bo, fsO g many j, A3.up g5, hbF, hboc.2.1, by rw [hboc.2.2.1]; omega, by rw [hboc.2.2.2]; omega⟩
  · rintro i x r1 G5 H5 hx s5 ⟨⟨o, rfl⟩, sd', b', fs', A5, hb5, hbr, hbo5, hbc5⟩
    obtain ⟨rfl, hi⟩ := upto_at hx
    rw [Int.zero_add]
    refine ⟨_, _, pg_name 4 sc_law.nd, ?_⟩
    refine gx_wish (w := aW (i : Int)) L.mwish L.T hr takes_none5 A5 hb5 (by omega) (pv_var 2) (pv_tup (pd_cons pv_str (pd_cons pv_int (pd_cons (pv_var 4) (pd_cons pv_int (pd_cons pv_int pd_nil)))))) (by rw [hbr]; exact aW_ok hr1.1 ⟨by omega, by omega⟩) (by omega) (by omega) (fun G6 H6 sd6 x6 hs6 A6 => ?_)
    refine go_nil fun σ H7 ⟨G7, g7, n7⟩ => ⟨_, G7, ⟨⟨_, rfl⟩, sd6, _, _, A6.up g7, (hb5.wish (by rw [hbr]; exact aW_ok hr1.1 ⟨by omega, by omega⟩) (by omega) (by omega)).mono (by omega), hbr, ?_, ?_⟩, x6.g.trans g7.g, g7.s, n7⟩
    · show b'.own + 1 = _; omega
    · show b'.clock + 1 = _; omega
  · rintro r1 G5 H5 ⟨⟨o, rfl⟩, sd', b', fs', A5, hb5, hbr, hbo5, hbc5⟩ s5
    rw [upto_len] at hbo5
    have h12 : b'.own = 12 := by omega
    refine gx_retO (fun G H g => (A5.up g).own (i := 2) rfl) (y := .bool true) (pv_andT ((pv_eqS (pv_call L.word hr (pa_cons pv_int (pa_cons (pv_var 2) (pa_cons (pv_tup (pd_cons pv_str (pd_cons pv_int (pd_cons pv_int (pd_cons pv_int (pd_cons pv_int pd_nil)))))) (pa_cons pv_none pa_nil)))) ⟨CU, ⟨5, p, b', wshD (aW 0), .none, rfl, .inr (.inr (.inr (.inr (.inr ⟨rfl, p, b', wshD (aW 0), rfl, sz_wsh (aW_ok (r := r) hr1.1 ⟨by decide, by decide⟩), .inr ⟨by rw [hbr]; exact isWish_iff.mpr (aW_ok hr1.1 ⟨by decide, by decide⟩), h12, rfl⟩⟩))))⟩, .inr (.inr (.inr ⟨rfl, rfl⟩))⟩) pv_str).is (by rw [decide_eq_true rfl])) (pv_one ((pv_eqS (pv_call L.word hr (pa_cons pv_int (pa_cons (pv_var 2) (pa_cons pv_none (pa_cons pv_none pa_nil)))) ⟨CB, ⟨5, p, b', .none, .none, rfl, .inr (.inr (.inr (.inr (.inr ⟨rfl, p, b', .none, rfl, rfl, .inl ⟨rfl, rfl⟩⟩))))⟩, .inr (.inl ⟨rfl, rfl⟩)⟩) pv_str).is (by rw [decide_eq_true rfl])))) rfl (fun v G6 H6 g6 q6 => ?_)
    cases q6
    exact k H6
end
end Fb

namespace Fb
open PySem PySem.Spec PyProof.Rows L2 Evl
/-! ### k09: the law's middle -/
section
variable {P : Program} {w : World} {K : PySem.W.Frag} {mg : Str → Option Value} {base : Heap} {f : Addr} {fd : FuncData} {C CW CC CN CB CD CU : Addr}
variable {cdv : Value} {A : Around} {outer : List Env} {s : Shared} {H : Hp} {Q : VK} {E : XK} {ns : List Int} {c r : Int} {ks : List Str} {many j : Nat} {g : Nat → Wsh} {bo : Bk}
theorem k09_tail (L : Lw9 P w K mg base C CW CC CN CB CD CU) (hr : Room 7 (A.deeper (envOfC "law" (defScope s_law) s.heap.objs.size f cdv))) (k : ∀ H', Q (.bl true) H') (hu : (A.deeper (envOfC "law" (defScope s_law) s.heap.objs.size f cdv)).units + 70 < cLine) (hc : 1 ≤ c ∧ c ≤ 5) (hr1 : 1 ≤ r ∧ r ≤ 3) (hm1 : 1 ≤ many ∧ many ≤ 12) (hg : ∀ i, WshOk r (g i)) (hj1 : j < many) (hbF : BkF bo (fsO g many j) 13) (hboc : bo.c = c ∧ bo.r = r ∧ bo.own = many ∧ bo.clock = many) (hok2 : ∀ f ∈ isort ltFc (fsO g many j), FctOk c r f) : ∀ (bad : PyData) (o4 : Option Dn) (p l sd : Addr) (G0 H0 : Hp), CopyAt K C G0 H0 p l sd bo → knownD c (fsO g many j) bad = false →
    Go (cxOf (L2.CX P w) P w K mg base n_law "law" (defScope s_law) f cdv A outer s H E) ((defBody s_law).drop 11) { nx := fun _ H' => Q .non H', rt := Q } G0 H0 [some (.sc ns), some (.d (wD c r ks)), some (.v (.ref p)), some (.d (.int (many : Int))), o4, some (.d (prD (0, (j : Int)))), some (.d (prD (0, (((j + 1) % many : Nat) : Int)))), some (.d (.list (oddL many j))), some (.d bad), none, none, none, none, none] := by
  intro bad o4 p l sd G0 H0 A0 hbad
  have last := k09_last (f := f) (outer := outer) (H := H) (E := E) (ns := ns) (ks := ks) L hr k hu hc hr1 hm1 hg hj1 hbF hboc hok2
  refine gx_let 9 (fun G H g => (A0.up g).own (i := 2) rfl) (pv_meth0 L.told L.T.cl hr (pv_var 2) (fs_no bo (by decide +kernel)) ⟨p, bo, fsO g many j, rfl, hbF.mono (by omega), rfl⟩) (imm_facts hok2) (fun G1 H1 g1 => ?_) sc_law.nd
  have A1 := A0.up g1
  have hb' : knownD bo.c (fsO g many j) bad = false := by rw [hboc.1]; exact hbad
  have g3 : ∀ z ∈ [PyData.str "booking", .str "booking", .str "booking"], Good z := fun z hz => by
    simp only [List.mem_cons, List.not_mem_nil, or_false, or_self] at hz
    subst hz
    exact ⟨rfl, by decide +kernel, by simp [PyData.depth]⟩
  refine gx_test (q := false) (fun G H g => (A1.up g).own (i := 2) rfl) ((pt_ne (x := .list [.str "booking", .str "booking", .str "booking"]) (y := .list [.str "booking", .str "booking", .str "booking"]) (by show (A.deeper (envOfC "law" (defScope s_law) s.heap.objs.size f cdv)).units + 64 < cLine; omega)
    (Pv.is (pv_lc [("kind", 10)] (fun _ : Int => true) (fun _ => .str "booking") (fun i => [some (.sc ns), some (.d (wD c r ks)), some (.ob p C bo.fs), some (.d (.int (many : Int))), o4, some (.d (prD (0, (j : Int)))), some (.d (prD (0, (((j + 1) % many : Nat) : Int)))), some (.d (.list (oddL many j))), some (.d bad), some (.d (.tuple ((isort ltFc (fsO g many j)).map Fct.d))), some (.d (.int i)), none, none, none]) rfl sc_law.nd (wk_range1 L.B.range pv_int ⟨by decide, by decide⟩) (blkOk_by (N := n_law) (sc := defScope s_law) (by decide +kernel))
      (fun i _ s H C cl fp => pg_name 10 sc_law.nd) (fun i _ s H C cl fp => pts_nil) (fun i hi _ s H C' cl fp => ?_) (by decide) (by simp) (fun _ _ => rfl)) (by rfl))
    (Pv.is (pv_repL (pd_cons pv_str pd_nil) pv_int ⟨by decide, by decide⟩ (by decide)) (by rfl)) (good_list g3) (good_list g3)).is (by rw [SeqAt.eqv_refl _ (by decide +kernel)]; rfl)) (fun h => nomatch h) (fun _ G2 H2 g2 => ?_)
  · have hi3 : i = 0 ∨ i = 1 ∨ i = 2 := by
      obtain ⟨n, hn, rfl⟩ := List.mem_map.mp hi
      have := List.mem_range.mp hn
      have h3 : n < 3 := this
      omega
    refine pv_call L.word hr (pa_cons (pv_var 10) (pa_cons (pv_var 2) (pa_cons (pv_var 8) (pa_cons (pv_tup (pd_cons pv_int (pd_cons pv_int pd_nil))) pa_nil)))) ⟨CN, ⟨i, p, bo, bad, .tuple [.int 0, .int 0], rfl, ?_⟩, .inl ⟨rfl, rfl⟩⟩
    rcases hi3 with rfl | rfl | rfl
    · exact .inl ⟨rfl, p, bo, _, bad, rfl, hbF.mono (by omega), hb', rfl⟩
    · exact .inr (.inl ⟨_, _, rfl, rfl, p, bo, _, bad, _, _, rfl, hbF.mono (by omega), .inl ⟨hb', rfl⟩⟩)
    · exact .inr (.inr (.inl ⟨rfl, p, bo, _, bad, rfl, hbF.mono (by omega), hb', rfl⟩))
  have A2 := A1.up g2
  refine go_when (pt_gt (pv_var 3) pv_int) (fun hq => ?_) (fun _ => last bad o4 none none none none p l sd G2 H2 A2)
  have hm2 : 1 < many := by
    have := of_decide_eq_true hq
    omega
  obtain ⟨oi, hoi⟩ : ∃ oi : Nat, oi = (j + 1) % many := ⟨_, rfl⟩
  have hoi1 : oi < many := by rw [hoi]; exact Nat.mod_lt _ (by omega)
  have hoi2 : oi ≠ j := by
    rw [hoi]
    intro z
    by_cases hlt : j + 1 < many
    · rw [Nat.mod_eq_of_lt hlt] at z; omega
    · have : j + 1 = many := by omega
      rw [this, Nat.mod_self] at z
      omega
  have last' := last bad o4 none
  rw [← hoi] at last' ⊢
  refine go_set 11 (d := .d (.int (g oi).long)) (pv_ixT (k := kB (0, (oi : Int))) (kvs := mergeA [] (mapA kB PyData.int ((isort ltFc (fsO g many j)).filterMap longE))) (by show (A.deeper (envOfC "law" (defScope s_law) s.heap.objs.size f cdv)).units + 1 < cLine; omega) (pv_dict (prs := mapA kB PyData.int ((isort ltFc (fsO g many j)).filterMap longE)) L.B.dict (by show (A.deeper (envOfC "law" (defScope s_law) s.heap.objs.size f cdv)).units + 4 < cLine; omega)
    (Pv.is (pv_lc [("fact", 12)] (fun f : Fct => decide (f.w = ("wish" : Str))) longF (fun f => [some (.sc ns), some (.d (wD c r ks)), some (.v (.ref p)), some (.d (.int (many : Int))), o4, some (.d (prD (0, (j : Int)))), some (.d (prD (0, (oi : Int)))), some (.d (.list (oddL many j))), some (.d bad), some (.d (.tuple ((isort ltFc (fsO g many j)).map Fct.d))), none, none, some (.d f.d), none]) rfl sc_law.nd (wk_fcts (.inr rfl) (pv_var 9)) (blkOk_by (N := n_law) (sc := defScope s_law) (by decide +kernel))
      (fun f _ s H C cl fp => pg_name 12 sc_law.nd) (fun f _ s H C cl fp => pts_one (pt_eqS (pv_ix (pv_var 12) pv_int (fct_ix0 f)) pv_str)) (fun f _ hp s H C' cl fp => ?_) (by rw [isort_len]; have := hbF.len; omega) (by simp) (fun _ _ => rfl)) (by rw [longL_eq])) (by intro q hq; obtain ⟨e, _, rfl⟩ := List.mem_map.mp hq; rfl)) (pv_var 6) rfl (by rw [show mergeA [] (mapA kB PyData.int ((isort ltFc (fsO g many j)).filterMap longE)) = mapA kB PyData.int (mergeA [] ((isort ltFc (fsO g many j)).filterMap longE)) from mergeA_map (f := kB) (fun a b => kB_inj) PyData.int _ [], getA_map (fun a b => kB_inj), getLong hoi1]; rfl) (hs := fun _ _ => rfl)) ?_ sc_law.nd
  · cases f with
    | wish b m w => exact pv_tup (pd_cons (pv_ix (pv_var 12) pv_int (fct_ix1 (.wish b m w))) (pd_cons (pv_ix (pv_ix (pv_var 12) pv_int rfl) pv_int rfl) pd_nil))
    | off b => exact absurd hp (by show ¬ decide (("off" : Str) = "wish") = true; decide +kernel)
    | pin b m p => exact absurd hp (by show ¬ decide (("pin" : Str) = "wish") = true; decide +kernel)
  refine go_set 13 (pv_lst (xs := (spotsL r (g oi).long).map fun q => .tuple [q.1, q.2]) ?_ (by show 7 ≤ 100000; decide)) ?_ sc_law.nd
  · refine pd_cons (pv_tup (pd_cons (pv_ix (pv_var 1) pv_int rfl) (pd_cons pv_int pd_nil))) ?_
    refine pd_cons (pv_tup (pd_cons (by exact pv_neg pv_int) (pd_cons pv_int pd_nil))) ?_
    refine pd_cons (pv_tup (pd_cons pv_int (pd_cons (pv_sub pv_int (pv_var 11)) pd_nil))) ?_
    refine pd_cons (pv_tup (pd_cons pv_int (pd_cons (by exact pv_neg pv_int) pd_nil))) ?_
    refine pd_cons (pv_tup (pd_cons pv_none (pd_cons pv_int pd_nil))) ?_
    refine pd_cons (pv_tup (pd_cons pv_int (pd_cons pv_bool pd_nil))) ?_
    exact pd_cons (pv_tup (pd_cons pv_str (pd_cons pv_int pd_nil))) pd_nil
  obtain ⟨sy, hs1, hs2⟩ := ix_in (xs := (spotsL r (g oi).long).map fun q => .tuple [q.1, q.2]) (z := cellZ ns 8) (n := 7) rfl (by decide)
  obtain ⟨sq, hsq, rfl⟩ := List.mem_map.mp hs2
  refine gx_test (q := false) (fun G H g => (A2.up g).own (i := 2) rfl) ((pt_neS (pv_call L.word hr (pa_cons pv_int (pa_cons (pv_var 2) (pa_cons (pv_var 6) (pa_cons (pv_ix (pv_var 13) (pv_mod (by decide) (pv_call L.cell hr (pa_cons (pv_var 0) (pa_cons pv_int pa_nil)) ⟨ns, 8, rfl, rfl⟩) pv_int) hs1) pa_nil)))) ⟨CB, ⟨1, p, bo, prD (0, (oi : Int)), _, rfl, .inr (.inl ⟨sq.1, sq.2, rfl, rfl, p, bo, fsO g many j, _, _, _, rfl, hbF.mono (by omega), .inr ⟨(0, (oi : Int)), _, _, rfl, ⟨Int.le_refl 0, by show (0 : Int) ≤ bo.c - 1; rw [hboc.1]; omega, by show (0 : Int) ≤ oi; omega, by show (oi : Int) ≤ 11; omega⟩, getO hoi1 hoi2, by rw [hboc.2.1]; exact spots_bad sq hsq, rfl⟩⟩)⟩, .inr (.inl ⟨rfl, rfl⟩)⟩) pv_str).is (by decide +kernel)) (fun h => nomatch h) (fun _ G3 H3 g3' => go_nil fun σ H4 ⟨G4, g4, n4⟩ => ?_)
  exact last' _ _ _ p l sd G3 H3 (A2.up g3') σ G4 H4 g4 n4
end
end Fb

namespace Fb
open PySem PySem.Spec PyProof.Rows L2 Evl
/-! ### k09: the law's first part -/
section
variable {P : Program} {w : World} {K : PySem.W.Frag} {mg : Str → Option Value} {base : Heap} {f : Addr} {fd : FuncData} {C CW CC CN CB CD CU : Addr}
theorem ok_law (F : Fun K "law" "law" s_law f fd) (L : Lw9 P w K mg base C CW CC CN CB CD CU) : FnOk P w K mg base (L2.CX P w) 8 f fd p_law (spLaw K) := by
  refine F.okX sc_law ?_ (fun cdv A outer s H vs Q E hr h => ⟨_, pss_w, ?_⟩)
  · rintro vs H Q E ⟨a, ns, rfl, _⟩
    rfl
  obtain ⟨a0, ns, rfl, hsc, k⟩ := h
  have hD : Dens K H [.ref a0] [.sc ns] := .cons (show Den K H (.ref a0) (.sc ns) from ⟨a0, rfl, hsc⟩) .nil
  refine go_in (Ex.refl H) hD ?_
  have hu : (A.deeper (envOfC "law" (defScope s_law) s.heap.objs.size f cdv)).units + 70 < cLine := by have := hr.un; omega
  obtain ⟨c, r, ks, hwd, hc, hr1, hks, hnd, hW, hsz⟩ := world_is (cellZ ns 0)
  obtain ⟨many, hmany⟩ : ∃ many : Nat, many = 1 + (cellZ ns 1 % 12).toNat := ⟨_, rfl⟩
  have hm1 : 1 ≤ many ∧ many ≤ 12 := by omega
  obtain ⟨g, hgz⟩ : ∃ g : Nat → Wsh, g = wz9 ns r := ⟨_, rfl⟩
  have hg : ∀ i, WshOk r (g i) := fun i => by rw [hgz]; exact wshOf_ok hr1.1
  obtain ⟨j, hj⟩ : ∃ j : Nat, j = (cellZ ns 5 % (many : Int)).toNat := ⟨_, rfl⟩
  have hjm : cellZ ns 5 % (many : Int) = (j : Int) := by rw [hj]; exact modNat _ _ (by omega)
  have hj1 : j < many := by
    have := Int.emod_lt_of_pos (cellZ ns 5) (show (0 : Int) < many by omega)
    omega
  -- the book behind the calling off
  obtain ⟨bo, hbo⟩ : ∃ bo : Bk, bo = { bkW c r ks g many with facts := (fsO g many j).map Fct.d } := ⟨_, rfl⟩
  have hbF : BkF bo (fsO g many j) 13 := by
    have h1 := (bkW_ok (ks := ks) hc hr1 hg hm1.2).off (q := (0, (j : Int))) ⟨Int.le_refl 0, by show 0 ≤ c - 1; omega, by show (0 : Int) ≤ j; omega, by show (j : Int) ≤ 11; omega⟩
    unfold Bk.off at h1
    rw [put_fct rfl, put_off] at h1
    rw [hbo]
    exact h1.mono (by omega)
  have hboc : bo.c = c ∧ bo.r = r ∧ bo.own = many ∧ bo.clock = many := by rw [hbo]; exact ⟨rfl, rfl, rfl, rfl⟩
  have hok2 : ∀ f ∈ isort ltFc (fsO g many j), FctOk c r f := fun f hf => by
    have := hbF.ok f (isort_mem.mp hf)
    rw [hboc.1, hboc.2.1] at this
    exact this
  have tail := k09_tail (f := f) (outer := outer) (H := H) (E := E) (ns := ns) (ks := ks) L hr k hu hc hr1 hm1 hg hj1 hbF hboc hok2
  -- the first part
  refine go_set 1 ((pv_call L.world hr (pa_cons (pv_call L.cell hr (pa_cons (pv_var 0) (pa_cons pv_int pa_nil)) ⟨ns, 0, rfl, rfl⟩) pa_nil) ⟨cellZ ns 0, rfl, rfl⟩).is (by rw [hwd])) ?_ sc_law.nd
  refine gx_copy 2 L.make hr takes_none5 (pv_var 1) pv_int hW hsz ⟨by decide, by omega⟩ (fun p l sd G1 H1 x1 _ _ _ A1 => ?_) (hN := sc_law.nd)
  refine go_set 3 (d := .d (.int (many : Int))) ((pv_add pv_int (pv_mod (by decide) (pv_call L.cell hr (pa_cons (pv_var 0) (pa_cons pv_int pa_nil)) ⟨ns, 1, rfl, rfl⟩) pv_int)).is (congrArg (fun z => Dn.d (.int z)) (by omega))) ?_ sc_law.nd
  refine gx_for (xs := upto 0 ((many : Int)).toNat) (enc := fun i => Dn.d (.int i)) (fun i r1 G' H' => (∃ o, r1 = [some (.sc ns), some (.d (wD c r ks)), some (.v (.ref p)), some (.d (.int (many : Int))), o, none, none, none, none, none, none, none, none, none]) ∧ ∃ sd', CopyAt K C G' H' p l sd' (bkW c r ks g i)) (passes_of rfl) rfl (wk_range1 L.B.range (pv_var 3) ⟨by omega, by omega⟩) ?_ ?_ ?_ ?_
  · rintro i r1 G5 H5 G6 H6 ⟨hr5, sd', A5⟩ g6
    exact ⟨hr5, sd', A5.up g6⟩
  · exact fun G5 H5 g5 => ⟨⟨none, rfl⟩, sd, A1.up g5⟩
  · rintro i x r1 G5 H5 hx s5 ⟨⟨o, rfl⟩, sd', A5⟩
    obtain ⟨rfl, hi⟩ := upto_at hx
    rw [Int.zero_add]
    refine ⟨_, _, pg_name 4 sc_law.nd, ?_⟩
    refine gx_wish (w := g i) L.mwish L.T hr takes_none5 A5 (bkW_ok hc hr1 hg (by omega)) (by omega) (pv_var 2) (Pv.is (pv_call L.wish hr (pa_cons (pv_var 1) (pa_cons (pv_call L.seed hr (pa_cons (pv_add (pv_call L.cell hr (pa_cons (pv_var 0) (pa_cons ((pv_add pv_int (pv_mod (by decide) (pv_var 4) pv_int)).is (d' := .d (.int ((2 + i % 3 : Nat) : Int))) (congrArg (fun z => Dn.d (.int z)) (by omega))) pa_nil)) ⟨ns, 2 + i % 3, rfl, rfl⟩) (pv_mul (.inl ⟨by decide, by decide⟩) pv_int (pv_var 4))) (pa_cons (pv_var 4) pa_nil)) ⟨_, (i : Int), rfl, by omega, by omega, rfl⟩) pa_nil)) ⟨c, r, ks, _, rfl, hr1.1, rfl⟩) (by rw [hgz]; rfl)) (hg i) ⟨by show (0 : Int) ≤ (i : Int); omega, by show (i : Int) ≤ 11; omega⟩ ⟨by show (0 : Int) ≤ (i : Int); omega, by show (i : Int) ≤ 9998; omega⟩ (fun G6 H6 sd6 x6 hs6 A6 => ?_)
    rw [bkW_wish] at A6
    exact go_nil fun σ H7 ⟨G7, g7, n7⟩ => ⟨_, G7, ⟨⟨_, rfl⟩, sd6, A6.up g7⟩, x6.g.trans g7.g, g7.s, n7⟩
  rintro r1 G5 H5 ⟨⟨o, rfl⟩, sd', A5⟩ s5
  rw [upto_len] at A5
  refine go_set 5 ((pv_tup (pd_cons pv_int (pd_cons (pv_mod (j := (many : Int)) (by omega) (pv_call L.cell hr (pa_cons (pv_var 0) (pa_cons pv_int pa_nil)) ⟨ns, 5, rfl, rfl⟩) (pv_var 3)) pd_nil))).is (d' := .d (prD (0, (j : Int)))) (by rw [hjm]; rfl)) ?_ sc_law.nd
  refine gx_off (y := (0, (j : Int))) L.moff L.T hr takes_none5 A5 (bkW_ok hc hr1 hg hm1.2) (by omega) (pv_var 2) (pv_var 5) ⟨Int.le_refl 0, by show 0 ≤ c - 1; omega, by show (0 : Int) ≤ j; omega, by show (j : Int) ≤ 11; omega⟩ (standsW hj1) (fun G6 H6 sd6 x6 hs6 A6 => ?_)
  have A7 : CopyAt K C G6 H6 p l sd6 bo := A6.is (by unfold Bk.off; rw [put_fct rfl, put_off, hbo]; rfl)
  refine go_set 6 ((pv_tup (pd_cons pv_int (pd_cons (pv_mod (j := (many : Int)) (by omega) (pv_add (pv_ix (pv_var 5) pv_int (pr_ix1 _)) pv_int) (pv_var 3)) pd_nil))).is (d' := .d (prD (0, (((j + 1) % many : Nat) : Int)))) (congrArg (fun z => Dn.d (.tuple [.int 0, .int z])) (by show ((j : Int) + 1) % (many : Int) = (((j + 1) % many : Nat) : Int); rw [Int.natCast_emod, Int.natCast_add]; rfl))) ?_ sc_law.nd
  refine go_set 7 (pv_lst (xs := [prD (0, (j : Int)), prD (0, (many : Int)), .tuple [.int 1, .int 0], .tuple [.int 0, .int (-1)], .tuple [.int 0, .int 12], .tuple [.bool true, .int 0], .tuple [.int 0, .bool false], .list [.int 0, .int 0], .none, .tuple [.int 0], .tuple [.list [], .int 0]]) ?_ (by simp)) ?_ sc_law.nd
  · refine pd_cons ?_ ?_
    · exact pv_var 5
    refine pd_cons ?_ ?_
    · refine pv_tup ?_
      refine pd_cons ?_ ?_
      · exact pv_int
      refine pd_cons ?_ ?_
      · exact pv_var 3
      exact pd_nil
    refine pd_cons ?_ ?_
    · refine pv_tup ?_
      refine pd_cons ?_ ?_
      · exact pv_int
      refine pd_cons ?_ ?_
      · exact pv_int
      exact pd_nil
    refine pd_cons ?_ ?_
    · refine pv_tup ?_
      refine pd_cons ?_ ?_
      · exact pv_int
      refine pd_cons ?_ ?_
      · exact pv_neg pv_int
      exact pd_nil
    refine pd_cons ?_ ?_
    · refine pv_tup ?_
      refine pd_cons ?_ ?_
      · exact pv_int
      refine pd_cons ?_ ?_
      · exact pv_int
      exact pd_nil
    refine pd_cons ?_ ?_
    · refine pv_tup ?_
      refine pd_cons ?_ ?_
      · exact pv_bool
      refine pd_cons ?_ ?_
      · exact pv_int
      exact pd_nil
    refine pd_cons ?_ ?_
    · refine pv_tup ?_
      refine pd_cons ?_ ?_
      · exact pv_int
      refine pd_cons ?_ ?_
      · exact pv_bool
      exact pd_nil
    refine pd_cons ?_ ?_
    · refine pv_lst ?_
      refine pd_cons ?_ ?_
      · exact pv_int
      refine pd_cons ?_ ?_
      · exact pv_int
      exact pd_nil
    refine pd_cons ?_ ?_
    · exact pv_none
    refine pd_cons ?_ ?_
    · refine pv_tup ?_
      refine pd_cons ?_ ?_
      · exact pv_int
      exact pd_nil
    refine pd_cons ?_ ?_
    · refine pv_tup ?_
      refine pd_cons ?_ ?_
      · exact pv_lst pd_nil
      refine pd_cons ?_ ?_
      · exact pv_int
      exact pd_nil
    exact pd_nil
  refine go_set 7 (d := .d (.list (oddL many j))) (pv_catL (pv_var 7) (pv_lst (pd_cons pv_str (pd_cons (pv_tup (pd_cons pv_int (pd_cons pv_int (pd_cons pv_int pd_nil)))) pd_nil))) (by simp)) ?_ sc_law.nd
  obtain ⟨bad, hb1, hb2⟩ := ix_in (xs := oddL many j) (z := cellZ ns 6) (n := 13) rfl (by decide)
  refine go_set 8 (pv_ix (pv_var 7) (pv_mod (by decide) (pv_call L.cell hr (pa_cons (pv_var 0) (pa_cons pv_int pa_nil)) ⟨ns, 6, rfl, rfl⟩) pv_int) hb1) ?_ sc_law.nd
  refine go_when (Pw.pt (pw_and (pt_lt (pv_var 3) pv_int) fun _ => pw_and1 (pt_eqI (pv_mod (by decide) (pv_call L.cell hr (pa_cons (pv_var 0) (pa_cons pv_int pa_nil)) ⟨ns, 7, rfl, rfl⟩) pv_int) pv_int))) (fun _ => go_set 8 (d := .d (prD (0, (many : Int)))) (pv_tup (pd_cons pv_int (pd_cons (pv_var 3) pd_nil))) (go_nil (go_back (tail _ o p l sd6 G6 H6 A7 many_bad))) sc_law.nd) (fun _ => tail bad o p l sd6 G6 H6 A7 (odd_bad bad hb2))
end
end Fb

namespace Fb
open PySem PySem.Spec PyProof.Rows L2 Evl
def dd_is_within : He.DefD := ⟨("is_within", none), "is_within", "is_within", defArgs s_is_within, defBody s_is_within, defScope s_is_within, [], []⟩
def dd_is_world : He.DefD := ⟨("is_world", none), "is_world", "is_world", defArgs s_is_world, defBody s_is_world, defScope s_is_world, [], []⟩
def dd_look_world : He.DefD := ⟨("look_world", none), "look_world", "look_world", defArgs s_look_world, defBody s_look_world, defScope s_look_world, [], []⟩
def dd_is_name : He.DefD := ⟨("is_name", none), "is_name", "is_name", defArgs s_is_name, defBody s_is_name, defScope s_is_name, [], []⟩
def dd_is_place : He.DefD := ⟨("is_place", none), "is_place", "is_place", defArgs s_is_place, defBody s_is_place, defScope s_is_place, [], []⟩
def dd_is_wish : He.DefD := ⟨("is_wish", none), "is_wish", "is_wish", defArgs s_is_wish, defBody s_is_wish, defScope s_is_wish, [], []⟩
def dd_look_wish : He.DefD := ⟨("look_wish", none), "look_wish", "look_wish", defArgs s_look_wish, defBody s_look_wish, defScope s_look_wish, [], []⟩
def dd_is_booking : He.DefD := ⟨("is_booking", none), "is_booking", "is_booking", defArgs s_is_booking, defBody s_is_booking, defScope s_is_booking, [], []⟩
def dd_wishes_in : He.DefD := ⟨("wishes_in", none), "wishes_in", "wishes_in", defArgs s_wishes_in, defBody s_wishes_in, defScope s_wishes_in, [], []⟩
def dd_law_cell : He.DefD := ⟨("_law_cell", none), "_law_cell", "_law_cell", defArgs s_law_cell, defBody s_law_cell, defScope s_law_cell, [], []⟩
def dd_law_seed : He.DefD := ⟨("_law_seed", none), "_law_seed", "_law_seed", defArgs s_law_seed, defBody s_law_seed, defScope s_law_seed, [], []⟩
def dd_law_pick : He.DefD := ⟨("_law_pick", none), "_law_pick", "_law_pick", defArgs s_law_pick, defBody s_law_pick, defScope s_law_pick, [], []⟩
def dd_law_world : He.DefD := ⟨("_law_world", none), "_law_world", "_law_world", defArgs s_law_world, defBody s_law_world, defScope s_law_world, [], []⟩
def dd_law_wish : He.DefD := ⟨("_law_wish", none), "_law_wish", "_law_wish", defArgs s_law_wish, defBody s_law_wish, defScope s_law_wish, [], []⟩
def dd_law_asked : He.DefD := ⟨("_law_asked", none), "_law_asked", "_law_asked", defArgs s_law_asked, defBody s_law_asked, defScope s_law_asked, [], []⟩
def dd_law_word : He.DefD := ⟨("_law_word", none), "_law_word", "_law_word", defArgs s_law_word, defBody s_law_word, defScope s_law_word, [], []⟩
def dd_law : He.DefD := ⟨("law", none), "law", "law", defArgs s_law, defBody s_law, defScope s_law, [], []⟩
def dd_Copy_init : He.DefD := ⟨("Copy", some "__init__"), "__init__", "Copy.__init__", defArgs s_Copy_init, defBody s_Copy_init, defScope s_Copy_init, [], []⟩
def dd_Copy_put : He.DefD := ⟨("Copy", some "put"), "put", "Copy.put", defArgs s_Copy_put, defBody s_Copy_put, defScope s_Copy_put, [], []⟩
def dd_Copy_tick : He.DefD := ⟨("Copy", some "tick"), "tick", "Copy.tick", defArgs s_Copy_tick, defBody s_Copy_tick, defScope s_Copy_tick, [], []⟩
def dd_Copy_look_known : He.DefD := ⟨("Copy", some "look_known"), "look_known", "Copy.look_known", defArgs s_Copy_look_known, defBody s_Copy_look_known, defScope s_Copy_look_known, [], []⟩
def dd_Copy_wish : He.DefD := ⟨("Copy", some "wish"), "wish", "Copy.wish", defArgs s_Copy_wish, defBody s_Copy_wish, defScope s_Copy_wish, [], []⟩
def dd_Copy_off : He.DefD := ⟨("Copy", some "off"), "off", "Copy.off", defArgs s_Copy_off, defBody s_Copy_off, defScope s_Copy_off, [], []⟩
def dd_Copy_pin : He.DefD := ⟨("Copy", some "pin"), "pin", "Copy.pin", defArgs s_Copy_pin, defBody s_Copy_pin, defScope s_Copy_pin, [], []⟩
def dd_Copy_told : He.DefD := ⟨("Copy", some "told"), "told", "Copy.told", defArgs s_Copy_told, defBody s_Copy_told, defScope s_Copy_told, [], []⟩
def dd_Copy_place : He.DefD := ⟨("Copy", some "place"), "place", "Copy.place", defArgs s_Copy_place, defBody s_Copy_place, defScope s_Copy_place, [], []⟩
def dd_Copy_day : He.DefD := ⟨("Copy", some "day"), "day", "Copy.day", defArgs s_Copy_day, defBody s_Copy_day, defScope s_Copy_day, [], []⟩
def dd_Copy_listed : He.DefD := ⟨("Copy", some "listed"), "listed", "Copy.listed", defArgs s_Copy_listed, defBody s_Copy_listed, defScope s_Copy_listed, [], []⟩
def fnL : List He.DefD := [dd_is_within, dd_is_world, dd_look_world, dd_is_name, dd_is_place, dd_is_wish, dd_look_wish, dd_is_booking, dd_wishes_in, dd_law_cell, dd_law_seed, dd_law_pick, dd_law_world, dd_law_wish, dd_law_asked, dd_law_word, dd_law, dd_Copy_init, dd_Copy_put, dd_Copy_tick, dd_Copy_look_known, dd_Copy_wish, dd_Copy_off, dd_Copy_pin, dd_Copy_told, dd_Copy_place, dd_Copy_day, dd_Copy_listed]
def faL0 : List He.Fa := [.glo "is_within", .glo "is_world", .glo "look_world", .glo "is_name", .glo "is_place", .glo "is_wish", .glo "look_wish", .glo "is_booking", .glo "wishes_in", .glo "_law_cell", .glo "_law_seed", .glo "_law_pick", .glo "_law_world", .glo "_law_wish", .glo "_law_asked", .glo "_law_word", .glo "law", .free "len", .free "isinstance", .free "int", .free "bool", .free "str", .free "tuple", .free "list", .free "dict", .free "set", .free "range", .free "sorted", .free "max", .free "min"]
def faL1 : List He.Fa := [.free "abs", .free "enumerate", .free "zip", .free "sum", .int "HOURS" 24, .int "MOST_COPIES" 5, .int "MOST_ROOMS" 3, .int "MOST_LONG" 6, .int "MOST_WISHES" 12, .str "SMALL" smallTxt, .glo "KEYS", .glo "ASKS", .glo "Copy", .cls "Copy", .mkr "Copy", .noat "Copy" "world", .noat "Copy" "mine", .noat "Copy" "facts", .noat "Copy" "clock", .noat "Copy" "own", .noat "Copy" "seen", .meth "Copy" "put", .meth "Copy" "tick", .meth "Copy" "look_known", .meth "Copy" "wish", .meth "Copy" "off", .meth "Copy" "pin", .meth "Copy" "told", .meth "Copy" "place", .meth "Copy" "day"]
def faL2 : List He.Fa := [.meth "Copy" "listed", .glo "BadWorld", .exc "BadWorld", .glo "BadCopy", .exc "BadCopy", .glo "BadWish", .exc "BadWish", .glo "BadWord", .exc "BadWord", .glo "NoBooking", .exc "NoBooking", .glo "Full", .exc "Full", .exm "NoBooking" "NoBooking" true, .exm "BadWish" "NoBooking" false, .exm "BadWish" "BadWish" true, .exm "BadWord" "NoBooking" false, .exm "BadWord" "BadWish" false, .exm "BadWord" "BadWord" true, .exm "Full" "NoBooking" false, .exm "Full" "BadWish" false, .exm "Full" "BadWord" false, .exm "Full" "Full" true]
def faL : List He.Fa := faL0 ++ (faL1 ++ (faL2))
def tu_KEYS : List Str := ["rank", "first", "short", "early"]
def tu_ASKS : List Str := ["moved", "out", "pinned", "order"]
def tsL : List He.Tab := []
def exL (K : PySem.W.Frag) : Bool := He.tupB K "KEYS" (tu_KEYS.map He.Dv.str) && (He.tupB K "ASKS" (tu_ASKS.map He.Dv.str))
abbrev RW : PySem.W.OpenRow := PySem.W.OpenLaw.row PySem.Challenge.rw_farbook_k09_refused
abbrev hk : PySem.W.Hook := He.hookX 5 faL fnL tsL [] exL
def ob (s : PySem.W.SharedT) : He.AlX := He.obsX 5 faL fnL tsL [] exL (HandSHeadRun.getT s)
theorem ob_eq (s : PySem.W.SharedT) : ob s = hk.obs s.abs := He.obsX_eq (HandSHeadRun.getT_eq s)
def loose0 : List Str := ["_wall", "BookError", "BadWorld", "BadWish", "BadCopy", "BadWord", "NoBooking", "Full", "HOURS", "MOST_COPIES", "MOST_ROOMS", "MOST_LONG", "MOST_WISHES", "KEYS", "SMALL", "is_within", "is_world", "look_world", "is_name", "is_place"]
def loose1 : List Str := ["is_wish", "look_wish", "is_booking", "wishes_in", "pins_in", "key_of", "in_order", "is_free", "fill", "nearest", "placed", "ASKS", "Copy", "_law_cell", "_law_seed", "_law_pick", "_law_world", "_law_wish", "_law_word", "_law_asked"]
def looseL : List Str := loose0 ++ (loose1)
theorem run_false (w : World) : HandSHeadRun.RunEq RW (PySem.W.view RW.prog [45]) hk ob 20000 looseL (w.withFollow "special-get-raises" false) := by
  intro os
  kernel_rfl
theorem run_true (w : World) : HandSHeadRun.RunEq RW (PySem.W.view RW.prog [45]) hk ob 20000 looseL (w.withFollow "special-get-raises" true) := by
  intro os
  kernel_rfl
theorem run (w : World) : HandSHeadRun.RunEq RW (PySem.W.view RW.prog [45]) hk ob 20000 looseL w := PySem.W.byRow2 "special-get-raises" (P := fun w => HandSHeadRun.RunEq RW (PySem.W.view RW.prog [45]) hk ob 20000 looseL w) run_false run_true w
theorem facts {P : Program} {w : World} {K : PySem.W.Frag} {h : Heap} {mg : Str → Option Value} {f : Addr} (X : K.In h) (G : h.Ns mainGlobals mg) (hfa : mg ("law" : Str) = some (.ref f)) (c : He.SaysX faL fnL tsL [] exL w h K) :
    ∃ fd : FuncData, (∀ (s : Shared) (v : Value), BindsTo s fd ⟨[v], []⟩ [("script", v)]) ∧ ∀ base : Heap, K.In base → base.Ns mainGlobals mg → FnOk P w K mg base (L2.CX P w) 8 f fd ["script"] (spLaw K) := by
  obtain ⟨fd_is_within, E_is_within⟩ := c.t.d.def_ 0 (d := dd_is_within) rfl
  have F_is_within : Fun K "is_within" "is_within" s_is_within (He.ga K "is_within") fd_is_within := fun_of E_is_within
  have b_is_within := F_is_within.binds (ps := ["thing", "low", "high"]) fun _ _ _ _ _ _ us hl => match us, hl with | [_, _, _], _ => rfl
  obtain ⟨fd_is_world, E_is_world⟩ := c.t.d.def_ 1 (d := dd_is_world) rfl
  have F_is_world : Fun K "is_world" "is_world" s_is_world (He.ga K "is_world") fd_is_world := fun_of E_is_world
  have b_is_world := F_is_world.binds (ps := ["thing"]) fun _ _ _ _ _ _ us hl => match us, hl with | [_], _ => rfl
  obtain ⟨fd_look_world, E_look_world⟩ := c.t.d.def_ 2 (d := dd_look_world) rfl
  have F_look_world : Fun K "look_world" "look_world" s_look_world (He.ga K "look_world") fd_look_world := fun_of E_look_world
  have b_look_world := F_look_world.binds (ps := ["thing"]) fun _ _ _ _ _ _ us hl => match us, hl with | [_], _ => rfl
  obtain ⟨fd_is_name, E_is_name⟩ := c.t.d.def_ 3 (d := dd_is_name) rfl
  have F_is_name : Fun K "is_name" "is_name" s_is_name (He.ga K "is_name") fd_is_name := fun_of E_is_name
  have b_is_name := F_is_name.binds (ps := ["thing"]) fun _ _ _ _ _ _ us hl => match us, hl with | [_], _ => rfl
  obtain ⟨fd_is_place, E_is_place⟩ := c.t.d.def_ 4 (d := dd_is_place) rfl
  have F_is_place : Fun K "is_place" "is_place" s_is_place (He.ga K "is_place") fd_is_place := fun_of E_is_place
  have b_is_place := F_is_place.binds (ps := ["world", "long", "room", "hour"]) fun _ _ _ _ _ _ us hl => match us, hl with | [_, _, _, _], _ => rfl
  obtain ⟨fd_is_wish, E_is_wish⟩ := c.t.d.def_ 5 (d := dd_is_wish) rfl
  have F_is_wish : Fun K "is_wish" "is_wish" s_is_wish (He.ga K "is_wish") fd_is_wish := fun_of E_is_wish
  have b_is_wish := F_is_wish.binds (ps := ["world", "thing"]) fun _ _ _ _ _ _ us hl => match us, hl with | [_, _], _ => rfl
  obtain ⟨fd_look_wish, E_look_wish⟩ := c.t.d.def_ 6 (d := dd_look_wish) rfl
  have F_look_wish : Fun K "look_wish" "look_wish" s_look_wish (He.ga K "look_wish") fd_look_wish := fun_of E_look_wish
  have b_look_wish := F_look_wish.binds (ps := ["world", "thing"]) fun _ _ _ _ _ _ us hl => match us, hl with | [_, _], _ => rfl
  obtain ⟨fd_is_booking, E_is_booking⟩ := c.t.d.def_ 7 (d := dd_is_booking) rfl
  have F_is_booking : Fun K "is_booking" "is_booking" s_is_booking (He.ga K "is_booking") fd_is_booking := fun_of E_is_booking
  have b_is_booking := F_is_booking.binds (ps := ["world", "thing"]) fun _ _ _ _ _ _ us hl => match us, hl with | [_, _], _ => rfl
  obtain ⟨fd_wishes_in, E_wishes_in⟩ := c.t.d.def_ 8 (d := dd_wishes_in) rfl
  have F_wishes_in : Fun K "wishes_in" "wishes_in" s_wishes_in (He.ga K "wishes_in") fd_wishes_in := fun_of E_wishes_in
  have b_wishes_in := F_wishes_in.binds (ps := ["facts"]) fun _ _ _ _ _ _ us hl => match us, hl with | [_], _ => rfl
  obtain ⟨fd_law_cell, E_law_cell⟩ := c.t.d.def_ 9 (d := dd_law_cell) rfl
  have F_law_cell : Fun K "_law_cell" "_law_cell" s_law_cell (He.ga K "_law_cell") fd_law_cell := fun_of E_law_cell
  have b_law_cell := F_law_cell.binds (ps := ["script", "k"]) fun _ _ _ _ _ _ us hl => match us, hl with | [_, _], _ => rfl
  obtain ⟨fd_law_seed, E_law_seed⟩ := c.t.d.def_ 10 (d := dd_law_seed) rfl
  have F_law_seed : Fun K "_law_seed" "_law_seed" s_law_seed (He.ga K "_law_seed") fd_law_seed := fun_of E_law_seed
  have b_law_seed := F_law_seed.binds (ps := ["seed", "k"]) fun _ _ _ _ _ _ us hl => match us, hl with | [_, _], _ => rfl
  obtain ⟨fd_law_pick, E_law_pick⟩ := c.t.d.def_ 11 (d := dd_law_pick) rfl
  have F_law_pick : Fun K "_law_pick" "_law_pick" s_law_pick (He.ga K "_law_pick") fd_law_pick := fun_of E_law_pick
  have b_law_pick := F_law_pick.binds (ps := ["seed", "many"]) fun _ _ _ _ _ _ us hl => match us, hl with | [_, _], _ => rfl
  obtain ⟨fd_law_world, E_law_world⟩ := c.t.d.def_ 12 (d := dd_law_world) rfl
  have F_law_world : Fun K "_law_world" "_law_world" s_law_world (He.ga K "_law_world") fd_law_world := fun_of E_law_world
  have b_law_world := F_law_world.binds (ps := ["cell"]) fun _ _ _ _ _ _ us hl => match us, hl with | [_], _ => rfl
  obtain ⟨fd_law_wish, E_law_wish⟩ := c.t.d.def_ 13 (d := dd_law_wish) rfl
  have F_law_wish : Fun K "_law_wish" "_law_wish" s_law_wish (He.ga K "_law_wish") fd_law_wish := fun_of E_law_wish
  have b_law_wish := F_law_wish.binds (ps := ["world", "seed"]) fun _ _ _ _ _ _ us hl => match us, hl with | [_, _], _ => rfl
  obtain ⟨fd_law_asked, E_law_asked⟩ := c.t.d.def_ 14 (d := dd_law_asked) rfl
  have F_law_asked : Fun K "_law_asked" "_law_asked" s_law_asked (He.ga K "_law_asked") fd_law_asked := fun_of E_law_asked
  have b_law_asked := F_law_asked.binds (ps := ["kind", "here", "thing", "spot"]) fun _ _ _ _ _ _ us hl => match us, hl with | [_, _, _, _], _ => rfl
  obtain ⟨fd_law_word, E_law_word⟩ := c.t.d.def_ 15 (d := dd_law_word) rfl
  have F_law_word : Fun K "_law_word" "_law_word" s_law_word (He.ga K "_law_word") fd_law_word := fun_of E_law_word
  have b_law_word := F_law_word.binds (ps := ["kind", "here", "thing", "spot"]) fun _ _ _ _ _ _ us hl => match us, hl with | [_, _, _, _], _ => rfl
  obtain ⟨fd_law, E_law⟩ := c.t.d.def_ 16 (d := dd_law) rfl
  have F_law : Fun K "law" "law" s_law (He.ga K "law") fd_law := fun_of E_law
  have b_law := F_law.binds (ps := ["script"]) fun _ _ _ _ _ _ us hl => match us, hl with | [_], _ => rfl
  obtain ⟨fd_Copy_init, E_Copy_init⟩ := c.t.d.def_ 17 (d := dd_Copy_init) rfl
  have F_Copy_init : Fun K "__init__" "Copy.__init__" s_Copy_init (He.ma K (He.ga K "Copy") "__init__") fd_Copy_init := fun_of E_Copy_init
  have b_Copy_init := F_Copy_init.binds (ps := ["self", "world", "mine"]) fun _ _ _ _ _ _ us hl => match us, hl with | [_, _, _], _ => rfl
  obtain ⟨fd_Copy_put, E_Copy_put⟩ := c.t.d.def_ 18 (d := dd_Copy_put) rfl
  have F_Copy_put : Fun K "put" "Copy.put" s_Copy_put (He.ma K (He.ga K "Copy") "put") fd_Copy_put := fun_of E_Copy_put
  have b_Copy_put := F_Copy_put.binds (ps := ["self", "fact"]) fun _ _ _ _ _ _ us hl => match us, hl with | [_, _], _ => rfl
  obtain ⟨fd_Copy_tick, E_Copy_tick⟩ := c.t.d.def_ 19 (d := dd_Copy_tick) rfl
  have F_Copy_tick : Fun K "tick" "Copy.tick" s_Copy_tick (He.ma K (He.ga K "Copy") "tick") fd_Copy_tick := fun_of E_Copy_tick
  have b_Copy_tick := F_Copy_tick.binds (ps := ["self"]) fun _ _ _ _ _ _ us hl => match us, hl with | [_], _ => rfl
  obtain ⟨fd_Copy_look_known, E_Copy_look_known⟩ := c.t.d.def_ 20 (d := dd_Copy_look_known) rfl
  have F_Copy_look_known : Fun K "look_known" "Copy.look_known" s_Copy_look_known (He.ma K (He.ga K "Copy") "look_known") fd_Copy_look_known := fun_of E_Copy_look_known
  have b_Copy_look_known := F_Copy_look_known.binds (ps := ["self", "booking"]) fun _ _ _ _ _ _ us hl => match us, hl with | [_, _], _ => rfl
  obtain ⟨fd_Copy_wish, E_Copy_wish⟩ := c.t.d.def_ 21 (d := dd_Copy_wish) rfl
  have F_Copy_wish : Fun K "wish" "Copy.wish" s_Copy_wish (He.ma K (He.ga K "Copy") "wish") fd_Copy_wish := fun_of E_Copy_wish
  have b_Copy_wish := F_Copy_wish.binds (ps := ["self", "thing"]) fun _ _ _ _ _ _ us hl => match us, hl with | [_, _], _ => rfl
  obtain ⟨fd_Copy_off, E_Copy_off⟩ := c.t.d.def_ 22 (d := dd_Copy_off) rfl
  have F_Copy_off : Fun K "off" "Copy.off" s_Copy_off (He.ma K (He.ga K "Copy") "off") fd_Copy_off := fun_of E_Copy_off
  have b_Copy_off := F_Copy_off.binds (ps := ["self", "booking"]) fun _ _ _ _ _ _ us hl => match us, hl with | [_, _], _ => rfl
  obtain ⟨fd_Copy_pin, E_Copy_pin⟩ := c.t.d.def_ 23 (d := dd_Copy_pin) rfl
  have F_Copy_pin : Fun K "pin" "Copy.pin" s_Copy_pin (He.ma K (He.ga K "Copy") "pin") fd_Copy_pin := fun_of E_Copy_pin
  have b_Copy_pin := F_Copy_pin.binds (ps := ["self", "booking", "room", "hour"]) fun _ _ _ _ _ _ us hl => match us, hl with | [_, _, _, _], _ => rfl
  obtain ⟨fd_Copy_told, E_Copy_told⟩ := c.t.d.def_ 24 (d := dd_Copy_told) rfl
  have F_Copy_told : Fun K "told" "Copy.told" s_Copy_told (He.ma K (He.ga K "Copy") "told") fd_Copy_told := fun_of E_Copy_told
  have b_Copy_told := F_Copy_told.binds (ps := ["self"]) fun _ _ _ _ _ _ us hl => match us, hl with | [_], _ => rfl
  obtain ⟨fd_Copy_place, E_Copy_place⟩ := c.t.d.def_ 25 (d := dd_Copy_place) rfl
  have F_Copy_place : Fun K "place" "Copy.place" s_Copy_place (He.ma K (He.ga K "Copy") "place") fd_Copy_place := fun_of E_Copy_place
  have b_Copy_place := F_Copy_place.binds (ps := ["self", "booking"]) fun _ _ _ _ _ _ us hl => match us, hl with | [_, _], _ => rfl
  obtain ⟨fd_Copy_day, E_Copy_day⟩ := c.t.d.def_ 26 (d := dd_Copy_day) rfl
  have F_Copy_day : Fun K "day" "Copy.day" s_Copy_day (He.ma K (He.ga K "Copy") "day") fd_Copy_day := fun_of E_Copy_day
  have b_Copy_day := F_Copy_day.binds (ps := ["self", "room"]) fun _ _ _ _ _ _ us hl => match us, hl with | [_, _], _ => rfl
  obtain ⟨fd_Copy_listed, E_Copy_listed⟩ := c.t.d.def_ 27 (d := dd_Copy_listed) rfl
  have F_Copy_listed : Fun K "listed" "Copy.listed" s_Copy_listed (He.ma K (He.ga K "Copy") "listed") fd_Copy_listed := fun_of E_Copy_listed
  have b_Copy_listed := F_Copy_listed.binds (ps := ["self", "word"]) fun _ _ _ _ _ _ us hl => match us, hl with | [_, _], _ => rfl
  have e := hfa.symm.trans (He.glo_ok X G (c.t.d.fact 16 (f := .glo "law") rfl))
  cases e
  have hex := c.more
  unfold exL at hex
  simp only [Bool.and_eq_true] at hex
  obtain ⟨hx0, hx1⟩ := hex
  have TBadWorld : Ec K mg "BadWorld" (He.ga K "BadWorld") := ec_of X G (c.t.d.fact 61 (f := .glo "BadWorld") rfl) (c.t.d.fact 62 (f := .exc "BadWorld") rfl)
  have TBadCopy : Ec K mg "BadCopy" (He.ga K "BadCopy") := ec_of X G (c.t.d.fact 63 (f := .glo "BadCopy") rfl) (c.t.d.fact 64 (f := .exc "BadCopy") rfl)
  have TBadWish : Ec K mg "BadWish" (He.ga K "BadWish") := ec_of X G (c.t.d.fact 65 (f := .glo "BadWish") rfl) (c.t.d.fact 66 (f := .exc "BadWish") rfl)
  have TBadWord : Ec K mg "BadWord" (He.ga K "BadWord") := ec_of X G (c.t.d.fact 67 (f := .glo "BadWord") rfl) (c.t.d.fact 68 (f := .exc "BadWord") rfl)
  have TNoBooking : Ec K mg "NoBooking" (He.ga K "NoBooking") := ec_of X G (c.t.d.fact 69 (f := .glo "NoBooking") rfl) (c.t.d.fact 70 (f := .exc "NoBooking") rfl)
  have TFull : Ec K mg "Full" (He.ga K "Full") := ec_of X G (c.t.d.fact 71 (f := .glo "Full") rfl) (c.t.d.fact 72 (f := .exc "Full") rfl)
  refine ⟨fd_law, fun s v => (FunD.bindsA (ps := ["script"]) E_law fun _ _ _ _ _ _ us hl => match us, hl with | [_], _ => rfl) s [v] rfl, fun base _ _ => ?_⟩
  have B : Bl mg := ⟨(He.free_ok X G (c.t.d.fact 17 (f := .free "len") rfl)), (He.free_ok X G (c.t.d.fact 18 (f := .free "isinstance") rfl)), (He.free_ok X G (c.t.d.fact 19 (f := .free "int") rfl)), (He.free_ok X G (c.t.d.fact 20 (f := .free "bool") rfl)), (He.free_ok X G (c.t.d.fact 21 (f := .free "str") rfl)), (He.free_ok X G (c.t.d.fact 22 (f := .free "tuple") rfl)), (He.free_ok X G (c.t.d.fact 23 (f := .free "list") rfl)), (He.free_ok X G (c.t.d.fact 24 (f := .free "dict") rfl)), (He.free_ok X G (c.t.d.fact 25 (f := .free "set") rfl)), (He.free_ok X G (c.t.d.fact 26 (f := .free "range") rfl)), (He.free_ok X G (c.t.d.fact 27 (f := .free "sorted") rfl)), (He.free_ok X G (c.t.d.fact 28 (f := .free "max") rfl)), (He.free_ok X G (c.t.d.fact 29 (f := .free "min") rfl)), (He.free_ok X G (c.t.d.fact 30 (f := .free "abs") rfl)), (He.free_ok X G (c.t.d.fact 31 (f := .free "enumerate") rfl)), (He.free_ok X G (c.t.d.fact 32 (f := .free "zip") rfl)), (He.free_ok X G (c.t.d.fact 33 (f := .free "sum") rfl))⟩
  have Cc : Cs K w mg := ⟨(He.int_ok X G (c.t.d.fact 34 (f := .int "HOURS" 24) rfl)), (He.int_ok X G (c.t.d.fact 35 (f := .int "MOST_COPIES" 5) rfl)), (He.int_ok X G (c.t.d.fact 36 (f := .int "MOST_ROOMS" 3) rfl)), (He.int_ok X G (c.t.d.fact 37 (f := .int "MOST_LONG" 6) rfl)), (He.int_ok X G (c.t.d.fact 38 (f := .int "MOST_WISHES" 12) rfl)), (He.str_ok X G (c.t.d.fact 39 (f := .str "SMALL" smallTxt) rfl)), ⟨_, (He.glo_ok X G (c.t.d.fact 40 (f := .glo "KEYS") rfl)), fun H => strs_of (ss := tu_KEYS) hx0 H⟩⟩
  have hA : ∃ a, mg "ASKS" = some (.ref a) ∧ ∀ H, Dp K H (.ref a) (.tuple (asksN.map PyData.str)) := ⟨_, (He.glo_ok X G (c.t.d.fact 41 (f := .glo "ASKS") rfl)), fun H => strs_of (ss := tu_ASKS) hx1 H⟩
  have T : Tc K (He.ga K "Copy") := ⟨He.cls_ok (c.t.d.fact 43 (f := .cls "Copy") rfl), He.noat_ok (c.t.d.fact 45 (f := .noat "Copy" "world") rfl), He.noat_ok (c.t.d.fact 46 (f := .noat "Copy" "mine") rfl), He.noat_ok (c.t.d.fact 47 (f := .noat "Copy" "facts") rfl), He.noat_ok (c.t.d.fact 48 (f := .noat "Copy" "clock") rfl), He.noat_ok (c.t.d.fact 49 (f := .noat "Copy" "own") rfl), He.noat_ok (c.t.d.fact 50 (f := .noat "Copy" "seen") rfl)⟩
  have M : Xm4 K (He.ga K "NoBooking") (He.ga K "BadWish") (He.ga K "BadWord") (He.ga K "Full") := ⟨(He.exm_ok (c.t.d.fact 73 (f := .exm "NoBooking" "NoBooking" true) rfl)), (He.exm_ok (c.t.d.fact 74 (f := .exm "BadWish" "NoBooking" false) rfl)), (He.exm_ok (c.t.d.fact 75 (f := .exm "BadWish" "BadWish" true) rfl)), (He.exm_ok (c.t.d.fact 76 (f := .exm "BadWord" "NoBooking" false) rfl)), (He.exm_ok (c.t.d.fact 77 (f := .exm "BadWord" "BadWish" false) rfl)), (He.exm_ok (c.t.d.fact 78 (f := .exm "BadWord" "BadWord" true) rfl)), (He.exm_ok (c.t.d.fact 79 (f := .exm "Full" "NoBooking" false) rfl)), (He.exm_ok (c.t.d.fact 80 (f := .exm "Full" "BadWish" false) rfl)), (He.exm_ok (c.t.d.fact 81 (f := .exm "Full" "BadWord" false) rfl)), (He.exm_ok (c.t.d.fact 82 (f := .exm "Full" "Full" true) rfl))⟩
  have Hwithin := fc_mk (x := "is_within") (ok_is_within (P := P) (w := w) (mg := mg) (base := base) F_is_within B) (He.glo_ok X G (c.t.d.fact 0 (f := .glo "is_within") rfl)) F_is_within.kp b_is_within
  have Hisworld := fc_mk (x := "is_world") (ok_is_world (P := P) (w := w) (mg := mg) (base := base) F_is_world B Cc Hwithin) (He.glo_ok X G (c.t.d.fact 1 (f := .glo "is_world") rfl)) F_is_world.kp b_is_world
  have Hlookworld := fc_mk (x := "look_world") (ok_look_world (P := P) (w := w) (mg := mg) (base := base) F_look_world Hisworld TBadWorld) (He.glo_ok X G (c.t.d.fact 2 (f := .glo "look_world") rfl)) F_look_world.kp b_look_world
  have Hname := fc_mk (x := "is_name") (ok_is_name (P := P) (w := w) (mg := mg) (base := base) F_is_name B Cc) (He.glo_ok X G (c.t.d.fact 3 (f := .glo "is_name") rfl)) F_is_name.kp b_is_name
  have Hplace := fc_mk (x := "is_place") (ok_is_place (P := P) (w := w) (mg := mg) (base := base) F_is_place Cc Hwithin) (He.glo_ok X G (c.t.d.fact 4 (f := .glo "is_place") rfl)) F_is_place.kp b_is_place
  have Hwish := fc_mk (x := "is_wish") (ok_is_wish (P := P) (w := w) (mg := mg) (base := base) F_is_wish B Cc Hwithin Hname Hplace) (He.glo_ok X G (c.t.d.fact 5 (f := .glo "is_wish") rfl)) F_is_wish.kp b_is_wish
  have Hlookwish := fc_mk (x := "look_wish") (ok_look_wish (P := P) (w := w) (mg := mg) (base := base) F_look_wish Hwish TBadWish) (He.glo_ok X G (c.t.d.fact 6 (f := .glo "look_wish") rfl)) F_look_wish.kp b_look_wish
  have Hbooking := fc_mk (x := "is_booking") (ok_is_booking (P := P) (w := w) (mg := mg) (base := base) F_is_booking B Cc Hwithin) (He.glo_ok X G (c.t.d.fact 7 (f := .glo "is_booking") rfl)) F_is_booking.kp b_is_booking
  have Hwin := fc_mk (x := "wishes_in") (ok_wishes_in (P := P) (w := w) (mg := mg) (base := base) F_wishes_in B) (He.glo_ok X G (c.t.d.fact 8 (f := .glo "wishes_in") rfl)) F_wishes_in.kp b_wishes_in
  have Hmake : FkCopy P w K mg base (He.ga K "Copy") (He.ga K "BadWorld") (He.ga K "BadCopy") := ⟨_, _, _, ok_init (P := P) (w := w) (mg := mg) (base := base) F_Copy_init T Hlookworld Hwithin TBadCopy, He.mkr_ok (c.t.d.fact 44 (f := .mkr "Copy") rfl), b_Copy_init, (He.glo_ok X G (c.t.d.fact 42 (f := .glo "Copy") rfl))⟩
  have Hput : Fm P w K mg base _ (He.ga K "Copy") "put" _ := ⟨_, _, _, ok_put (P := P) (w := w) (mg := mg) (base := base) F_Copy_put T, He.meth_ok (c.t.d.fact 51 (f := .meth "Copy" "put") rfl), b_Copy_put⟩
  have Htick : Fm P w K mg base _ (He.ga K "Copy") "tick" _ := ⟨_, _, _, ok_tick (P := P) (w := w) (mg := mg) (base := base) F_Copy_tick T, He.meth_ok (c.t.d.fact 52 (f := .meth "Copy" "tick") rfl), b_Copy_tick⟩
  have Hmwish : Fm P w K mg base _ (He.ga K "Copy") "wish" _ := ⟨_, _, _, ok_wish (P := P) (w := w) (mg := mg) (base := base) F_Copy_wish T Cc Hlookwish Hput Htick TFull, He.meth_ok (c.t.d.fact 54 (f := .meth "Copy" "wish") rfl), b_Copy_wish⟩
  have Hknown : Fm P w K mg base _ (He.ga K "Copy") "look_known" _ := ⟨_, _, _, ok_look_known (P := P) (w := w) (mg := mg) (base := base) F_Copy_look_known T Hbooking Hwin TNoBooking, He.meth_ok (c.t.d.fact 53 (f := .meth "Copy" "look_known") rfl), b_Copy_look_known⟩
  have Hoff : Fm P w K mg base _ (He.ga K "Copy") "off" _ := ⟨_, _, _, ok_off (P := P) (w := w) (mg := mg) (base := base) F_Copy_off T Hknown Hput, He.meth_ok (c.t.d.fact 55 (f := .meth "Copy" "off") rfl), b_Copy_off⟩
  have Htold : Fm P w K mg base _ (He.ga K "Copy") "told" _ := ⟨_, _, _, ok_told (P := P) (w := w) (mg := mg) (base := base) F_Copy_told B T, He.meth_ok (c.t.d.fact 57 (f := .meth "Copy" "told") rfl), b_Copy_told⟩
  have Hoffp : Fm P w K mg base _ (He.ga K "Copy") "off" _ := ⟨_, _, _, ok_offP (P := P) (w := w) (mg := mg) (base := base) F_Copy_off T Hknown, He.meth_ok (c.t.d.fact 55 (f := .meth "Copy" "off") rfl), b_Copy_off⟩
  have Hplacep : Fm P w K mg base _ (He.ga K "Copy") "place" _ := ⟨_, _, _, ok_placeP (P := P) (w := w) (mg := mg) (base := base) F_Copy_place T Hknown, He.meth_ok (c.t.d.fact 58 (f := .meth "Copy" "place") rfl), b_Copy_place⟩
  have Hpinp : Fm P w K mg base _ (He.ga K "Copy") "pin" _ := ⟨_, _, _, ok_pinP (P := P) (w := w) (mg := mg) (base := base) F_Copy_pin T Hknown Hwin Hplace TBadWish, He.meth_ok (c.t.d.fact 56 (f := .meth "Copy" "pin") rfl), b_Copy_pin⟩
  have Hdayp : Fm P w K mg base _ (He.ga K "Copy") "day" _ := ⟨_, _, _, ok_dayP (P := P) (w := w) (mg := mg) (base := base) F_Copy_day T Hwithin TBadWish, He.meth_ok (c.t.d.fact 59 (f := .meth "Copy" "day") rfl), b_Copy_day⟩
  have Hlistedp : Fm P w K mg base _ (He.ga K "Copy") "listed" _ := ⟨_, _, _, ok_listedP (P := P) (w := w) (mg := mg) (base := base) (C := He.ga K "Copy") F_Copy_listed B hA TBadWord, He.meth_ok (c.t.d.fact 60 (f := .meth "Copy" "listed") rfl), b_Copy_listed⟩
  have Hwishp : Fm P w K mg base _ (He.ga K "Copy") "wish" _ := ⟨_, _, _, ok_wishP (P := P) (w := w) (mg := mg) (base := base) F_Copy_wish T Cc Hlookwish TFull, He.meth_ok (c.t.d.fact 54 (f := .meth "Copy" "wish") rfl), b_Copy_wish⟩
  have Lcell := fc_mk (x := "_law_cell") (ok_cell (P := P) (w := w) (mg := mg) (base := base) F_law_cell B) (He.glo_ok X G (c.t.d.fact 9 (f := .glo "_law_cell") rfl)) F_law_cell.kp b_law_cell
  have Lseed := fc_mk (x := "_law_seed") (ok_seed (P := P) (w := w) (mg := mg) (base := base) F_law_seed ) (He.glo_ok X G (c.t.d.fact 10 (f := .glo "_law_seed") rfl)) F_law_seed.kp b_law_seed
  have Lpick := fc_mk (x := "_law_pick") (ok_pick (P := P) (w := w) (mg := mg) (base := base) F_law_pick ) (He.glo_ok X G (c.t.d.fact 11 (f := .glo "_law_pick") rfl)) F_law_pick.kp b_law_pick
  have Lworld := fc_mk (x := "_law_world") (ok_lworld (P := P) (w := w) (mg := mg) (base := base) F_law_world B Lseed Lpick) (He.glo_ok X G (c.t.d.fact 12 (f := .glo "_law_world") rfl)) F_law_world.kp b_law_world
  have Lwish := fc_mk (x := "_law_wish") (ok_lwish (P := P) (w := w) (mg := mg) (base := base) F_law_wish B Lseed Lpick) (He.glo_ok X G (c.t.d.fact 13 (f := .glo "_law_wish") rfl)) F_law_wish.kp b_law_wish
  have Lasked := fc_mk (x := "_law_asked") (ok_asked (P := P) (w := w) (mg := mg) (base := base) F_law_asked T ⟨Hoffp, Hpinp, Hplacep, Hdayp, Hlistedp, Hwishp⟩) (He.glo_ok X G (c.t.d.fact 14 (f := .glo "_law_asked") rfl)) F_law_asked.kp b_law_asked
  have Lword := fc_mk (x := "_law_word") (ok_word (P := P) (w := w) (mg := mg) (base := base) F_law_word Lasked TNoBooking TBadWish TBadWord TFull M) (He.glo_ok X G (c.t.d.fact 15 (f := .glo "_law_word") rfl)) F_law_word.kp b_law_word
  exact ok_law (P := P) (w := w) (mg := mg) (base := base) F_law ⟨B, T, Lcell, Lseed, Lworld, Lwish, Hmake, Hmwish, Hoff, Htold, Lword⟩
end Fb
open PySem PySem.W PySem.Calls PyProof.Rows in
set_option maxRecDepth 100000 in
set_option maxHeartbeats 0 in
theorem PySem.Challenge.cw_farbook_k09_refused_holds : PySem.Challenge.rw_farbook_k09_refused.Holds := by
  w_on; o_law
  refine HandSHeadRun.head_any (r := OpenLaw.row PySem.Challenge.rw_farbook_k09_refused) (q := view (OpenLaw.row PySem.Challenge.rw_farbook_k09_refused).prog [45]) (H := Fb.hk) (ob := Fb.ob) (M := 20000) (loose := Fb.looseL) (d := HandSHeadRun.topDef (OpenLaw.row PySem.Challenge.rw_farbook_k09_refused).prog 45) (kwd := []) Fb.ob_eq
    (by kernel_rfl) (fun s => by kernel_rfl) Fb.run (by kernel_rfl) (by kernel_rfl) (by kernel_rfl) (by rfl) (by first | assumption | decide +kernel) (by decide +kernel) ⟨rfl, rfl, rfl, rfl, rfl, by decide +kernel⟩ ?hw ?hc
  case hw => w_witness2
  case hc =>
    refine Fb.walkF (l := PySem.Challenge.rw_farbook_k09_refused) (n := 63) (k := 8) (x := "script") rfl (by decide) (by kernel_rfl) ⟨rfl, by decide, by decide⟩ ?F
    intro w mg fa h Y G hmg0
    obtain ⟨K, KX, c⟩ := Y
    have hmg : mg ("law" : PySem.Str) = some (.ref fa) := by
      have e : (HandSHeadRun.topDef (OpenLaw.row PySem.Challenge.rw_farbook_k09_refused).prog 45).name = ("law" : PySem.Str) := by kernel_rfl
      rw [← e]
      exact hmg0
    obtain ⟨fd, hb, hF⟩ := Fb.facts (P := (PySem.Challenge.rw_farbook_k09_refused).prog) (w := w) KX G hmg c
    exact ⟨K, fd, Fb.spLaw K, KX, hb, fun H a ns hl _ hS => ⟨a, ns, rfl, hS, fun _ => rfl⟩, hF⟩
