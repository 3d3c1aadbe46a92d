import PyProof.Rows.All
import Wide.All
import OpenK.AllK
import Wide.FinOn
import HandS.ForMost
import HandS.ForExc
import HandS.TryMany
import HandS.Deep
import HandS.IsInst
import HandS.TupAny
import HandS.Conv
import HandS.Style
import HandS.Evl
import HandS.Flow
import HandS.Text
import HandS.More
import HandS.Strs
import HandS.Sort
import KE.GoesEnum
import HandS.Codes
import KE.KStateDown
import HandS.Ends
import HandS.Defaults
import HandS.Head0
import HandS.Head1
import HandS.Head2
import HandS.HeadEnd
import HandS.HeadHook1
import HandS.HeadHook2
import HandS.HeadHook3
import HandS.HeadHook4
import PySem.Challenge.RW_farbook_k02_worlds
set_option Elab.async false
set_option linter.all false
set_option maxRecDepth 100000
set_option maxHeartbeats 4000000
/-! FbA: a layer of my own over HandS: every piece of syntax has one canonical reading (wE, wT, ..); what is pure is told by data alone: Pv X e r d: in an environment of data r the expression e gives the datum d, and the heap only grows. -/
namespace Fb
open PySem L2 Evl

/-! ### canonical readings -/
section
variable {X : Cx} {e : Expr} {es : List Expr} {st : Stmt} {sts : List Stmt} {s : L2.St} {H : Hp}
def wE (X : Cx) (e : Expr) : TE := fun σ H Q => ∀ (pins : List (Addr × Obj)) (s : Shared), L2.Inv X pins σ H s → wpAny (model X.prog X.w) X.A (eval e X.env) (EP X pins σ Q) X.xe s
def wT (X : Cx) (e : Expr) : TT := fun σ H Q => ∀ (pins : List (Addr × Obj)) (s : Shared), L2.Inv X pins σ H s → wpAny (model X.prog X.w) X.A (isTrue e X.env (eval e X.env)) (TP X pins σ Q) X.xe s
def wW (X : Cx) (e : Expr) : TT := fun σ H Q => ∀ (whole : Sem Value) (pins : List (Addr × Obj)) (s : Shared), L2.Inv X pins σ H s → wpAny (model X.prog X.w) X.A (isTrue e X.env whole) (TP X pins σ Q) X.xe s
def wA (X : Cx) (es : List Expr) : TA := fun σ H Q => ∀ (pos : Pos) (pins : List (Addr × Obj)) (s : Shared), L2.Inv X pins σ H s → wpAny (model X.prog X.w) X.A (spliced (backTo pos (starEach es X.env))) (AP X pins σ Q) X.xe s
def wS (X : Cx) (st : Stmt) : TS := fun D σ H => ∀ (pins : List (Addr × Obj)) (s : Shared), L2.Inv X pins σ H s → wpAny (model X.prog X.w) X.A (exec st X.env) (SP X pins D) X.xe s
def wSs (X : Cx) (sts : List Stmt) : TS := fun D σ H => ∀ (pins : List (Addr × Obj)) (s : Shared), L2.Inv X pins σ H s → wpAny (model X.prog X.w) X.A (execs sts X.env) (SP X pins D) X.xe s
theorem pe_w : PE X e (wE X e) := ⟨fun pins s _ _ _ I h => h pins s I⟩
theorem pt_w : PT X e (wT X e) := ⟨fun pins s _ _ _ I h => h pins s I⟩
theorem pw_w : PW X e (wW X e) := ⟨fun wh pins s _ _ _ I h => h wh pins s I⟩
theorem pa_w : PA X es (wA X es) := ⟨fun pos pins s _ _ _ I h => h pos pins s I⟩
theorem ps_w : PS X st (wS X st) := ⟨fun pins s _ _ _ I h => h pins s I⟩
theorem pss_w : PSs X sts (wSs X sts) := ⟨fun pins s _ _ _ I h => h pins s I⟩
theorem wE_of {t : TE} {Q : VK} (h : PE X e t) (q : t s H Q) : wE X e s H Q := fun pins sh I => h.run pins sh s H Q I q
theorem wT_of {t : TT} {Q : Bool → Hp → Prop} (h : PT X e t) (q : t s H Q) : wT X e s H Q := fun pins sh I => h.run pins sh s H Q I q
theorem wW_of {t : TT} {Q : Bool → Hp → Prop} (h : PW X e t) (q : t s H Q) : wW X e s H Q := fun wh pins sh I => h.run wh pins sh s H Q I q
theorem wA_of {t : TA} {Q : List V → Hp → Prop} (h : PA X es t) (q : t s H Q) : wA X es s H Q := fun pos pins sh I => h.run pos pins sh s H Q I q
theorem wS_of {t : TS} {D : Ends} (h : PS X st t) (q : t D s H) : wS X st D s H := fun pins sh I => h.run pins sh s H D I q
theorem wSs_of {t : TS} {D : Ends} (h : PSs X sts t) (q : t D s H) : wSs X sts D s H := fun pins sh I => h.run pins sh s H D I q
theorem wE_imp {Q Q' : VK} (h : wE X e s H Q) (k : ∀ v H', Q v H' → Q' v H') : wE X e s H Q' := fun pins sh I => thn (h pins sh I) fun _ _ ⟨v, H', I', r, q⟩ => ⟨v, H', I', r, k v H' q⟩
theorem wT_imp {Q Q' : Bool → Hp → Prop} (h : wT X e s H Q) (k : ∀ v H', Q v H' → Q' v H') : wT X e s H Q' := fun pins sh I => thn (h pins sh I) fun _ _ ⟨H', I', q⟩ => ⟨H', I', k _ H' q⟩
theorem wW_imp {Q Q' : Bool → Hp → Prop} (h : wW X e s H Q) (k : ∀ v H', Q v H' → Q' v H') : wW X e s H Q' := fun wh pins sh I => thn (h wh pins sh I) fun _ _ ⟨H', I', q⟩ => ⟨H', I', k _ H' q⟩
theorem wA_imp {Q Q' : List V → Hp → Prop} (h : wA X es s H Q) (k : ∀ v H', Q v H' → Q' v H') : wA X es s H Q' := fun pos pins sh I => thn (h pos pins sh I) fun _ _ ⟨v, H', I', r, q⟩ => ⟨v, H', I', r, k v H' q⟩
theorem wSs_imp {D D' : Ends} (h : wSs X sts D s H) (kn : ∀ σ H', D.nx σ H' → D'.nx σ H') (kr : ∀ v H', D.rt v H' → D'.rt v H') (kb : ∀ σ H', D.bk σ H' → D'.bk σ H') (kc : ∀ σ H', D.ct σ H' → D'.ct σ H') : wSs X sts D' s H := fun pins sh I =>
  thn (h pins sh I) fun f s1 q => by
    cases f with
    | next => obtain ⟨σ', H', I', z⟩ := q; exact ⟨σ', H', I', kn _ _ z⟩
    | brk => obtain ⟨σ', H', I', z⟩ := q; exact ⟨σ', H', I', kb _ _ z⟩
    | cont => obtain ⟨σ', H', I', z⟩ := q; exact ⟨σ', H', I', kc _ _ z⟩
    | ret u => obtain ⟨v, σ', H', I', r, z⟩ := q; exact ⟨v, σ', H', I', r, kr _ _ z⟩
end

/-! ### what a value tells -/
/-- an attribute: a datum, or a dict with tuple keys -/
inductive Fd where
  | d (x : PyData)
  | t (kvs : List (List Key × PyData))
/-- a datum; a dict with tuple keys; a dict with plain keys; that very value; the instance at p of the class at C and its attributes; the script -/
inductive Dn where
  | d (x : PyData)
  | t (kvs : List (List Key × PyData))
  | k (kvs : List (Key × PyData))
  | v (x : V)
  | ob (p C : Addr) (fs : List (Str × Fd))
  | sc (ns : List Int)
def Fd.dn : Fd → Dn
  | .d x => .d x
  | .t kvs => .t kvs

mutual
/-- a datum that stands in the heap: lists are tracked or locked, tuples may be written ones too -/
inductive Dp (K : PySem.W.Frag) (H : Hp) : V → PyData → Prop
  | non : Dp K H .non .none
  | bl (b : Bool) : Dp K H (.bl b) (.bool b)
  | int (i : Int) : Dp K H (.int i) (.int i)
  | str (x : Str) : Dp K H (.str x) (.str x)
  | lst {a : Addr} {xs : List V} {ds : List PyData} : Rd H a (.lst xs) → DpAll K H xs ds → Dp K H (.ref a) (.list ds)
  | tup {a : Addr} {xs : List V} {ds : List PyData} : SqT K H a xs → DpAll K H xs ds → Dp K H (.ref a) (.tuple ds)
inductive DpAll (K : PySem.W.Frag) (H : Hp) : List V → List PyData → Prop
  | nil : DpAll K H [] []
  | cons {v : V} {vs : List V} {d : PyData} {ds : List PyData} : Dp K H v d → DpAll K H vs ds → DpAll K H (v :: vs) (d :: ds)
end
section
variable {K : PySem.W.Frag} {H H' : Hp}
mutual
theorem Dp.l2 : ∀ (d : PyData) (v : V), Dp K H v d → L2.Dp K H v d
  | .none, _, h => by cases h; exact .non
  | .bool _, _, h => by cases h; exact .bl _
  | .int _, _, h => by cases h; exact .int _
  | .str _, _, h => by cases h; exact .str _
  | .list ds, _, h => by
    cases h with
    | lst h1 h2 => exact .lst (.inl h1) (DpAll.l2 ds _ h2)
  | .tuple ds, _, h => by
    cases h with
    | tup h1 h2 => exact .tup h1 (DpAll.l2 ds _ h2)
  | .dict _, _, h => nomatch h
theorem DpAll.l2 : ∀ (ds : List PyData) (vs : List V), DpAll K H vs ds → L2.DpAll K H vs ds
  | [], _, h => by cases h; exact .nil
  | d :: ds, _, h => by
    cases h with
    | cons h1 h2 => exact .cons (Dp.l2 d _ h1) (DpAll.l2 ds _ h2)
end
mutual
theorem dp_up (e : Ex H H') : ∀ (d : PyData) (v : V), Dp K H v d → Dp K H' v d
  | .none, _, h => by cases h; exact .non
  | .bool _, _, h => by cases h; exact .bl _
  | .int _, _, h => by cases h; exact .int _
  | .str _, _, h => by cases h; exact .str _
  | .list ds, _, h => by
    cases h with
    | lst h1 h2 => exact .lst (ex_rd e h1) (dpAll_up e ds _ h2)
  | .tuple ds, _, h => by
    cases h with
    | tup h1 h2 => exact .tup (ex_t e h1) (dpAll_up e ds _ h2)
  | .dict _, _, h => nomatch h
theorem dpAll_up (e : Ex H H') : ∀ (ds : List PyData) (vs : List V), DpAll K H vs ds → DpAll K H' vs ds
  | [], _, h => by cases h; exact .nil
  | d :: ds, _, h => by
    cases h with
    | cons h1 h2 => exact .cons (dp_up e d _ h1) (dpAll_up e ds _ h2)
end

theorem DpAll.len : ∀ {vs : List V} {ds : List PyData}, DpAll K H vs ds → vs.length = ds.length
  | _, _, .nil => rfl
  | _, _, .cons _ t => by rw [List.length_cons, List.length_cons, DpAll.len t]
theorem DpAll.get : ∀ {vs : List V} {ds : List PyData} {i : Nat} {d : PyData}, DpAll K H vs ds → ds[i]? = some d → ∃ v, vs[i]? = some v ∧ Dp K H v d
  | _, _, _, _, .nil, e => by simp at e
  | _, _, 0, _, .cons h _, e => by simp at e; subst e; exact ⟨_, rfl, h⟩
  | _, _, i + 1, d, .cons _ t, e => by
    obtain ⟨v, h1, h2⟩ := DpAll.get (i := i) (d := d) t (by simpa using e)
    exact ⟨v, by simpa using h1, h2⟩
theorem DpAll.back : ∀ {vs : List V} {ds : List PyData} {i : Nat} {v : V}, DpAll K H vs ds → vs[i]? = some v → ∃ d, ds[i]? = some d ∧ Dp K H v d
  | _, _, _, _, .nil, e => by simp at e
  | _, _, 0, _, .cons h _, e => by simp at e; subst e; exact ⟨_, rfl, h⟩
  | _, _, i + 1, v, .cons _ t, e => by
    obtain ⟨d, h1, h2⟩ := DpAll.back (i := i) (v := v) t (by simpa using e)
    exact ⟨d, by simpa using h1, h2⟩
theorem DpAll.app : ∀ {vs ws : List V} {ds es : List PyData}, DpAll K H vs ds → DpAll K H ws es → DpAll K H (vs ++ ws) (ds ++ es)
  | _, _, _, _, .nil, s => s
  | _, _, _, _, .cons h t, s => .cons h (DpAll.app t s)
theorem DpAll.take : ∀ {vs : List V} {ds : List PyData} (n : Nat), DpAll K H vs ds → DpAll K H (vs.take n) (ds.take n)
  | _, _, 0, _ => .nil
  | _, _, _ + 1, .nil => .nil
  | _, _, n + 1, .cons h t => .cons h (DpAll.take n t)
theorem DpAll.drop : ∀ {vs : List V} {ds : List PyData} (n : Nat), DpAll K H vs ds → DpAll K H (vs.drop n) (ds.drop n)
  | _, _, 0, r => r
  | _, _, _ + 1, .nil => .nil
  | _, _, n + 1, .cons _ t => DpAll.drop n t

def DenF (K : PySem.W.Frag) (H : Hp) (x : V) : Fd → Prop
  | .d y => Dp K H x y
  | .t kvs => ∃ a ws, x = .ref a ∧ Rd H a (.dT ws) ∧ Paired (fun (p : List Key × V) (q : List Key × PyData) => p.1 = q.1 ∧ Dp K H p.2 q.2) ws kvs
theorem DenF.up (e : Ex H H') {x : V} : ∀ {d : Fd}, DenF K H x d → DenF K H' x d
  | .d y, h => dp_up e y x h
  | .t kvs, ⟨a, ws, h1, h2, h3⟩ => ⟨a, ws, h1, ex_rd e h2, L2.Paired.mapP h3 fun _ _ z => ⟨z.1, dp_up e _ _ z.2⟩⟩
def Den (K : PySem.W.Frag) (H : Hp) (x : V) : Dn → Prop
  | .d y => Dp K H x y
  | .t kvs => ∃ a ws, x = .ref a ∧ Rd H a (.dT ws) ∧ Paired (fun (p : List Key × V) (q : List Key × PyData) => p.1 = q.1 ∧ Dp K H p.2 q.2) ws kvs
  | .ob p C fs => ∃ dx ws, x = .ref p ∧ H p = some (.ins C dx ws) ∧ Paired (fun (p : Str × V) (q : Str × Fd) => p.1 = q.1 ∧ DenF K H p.2 q.2) ws fs
  | .k kvs => ∃ a ws, x = .ref a ∧ Rd H a (.dK ws) ∧ Paired (fun (p : Key × V) (q : Key × PyData) => p.1 = q.1 ∧ Dp K H p.2 q.2) ws kvs
  | .v y => x = y
  | .sc ns => ∃ a, x = .ref a ∧ SqL K H a (ns.map V.int)
theorem Den.up (e : Ex H H') {x : V} : ∀ {d : Dn}, Den K H x d → Den K H' x d
  | .d y, h => dp_up e y x h
  | .t kvs, ⟨a, ws, h1, h2, h3⟩ => ⟨a, ws, h1, ex_rd e h2, L2.Paired.mapP h3 fun _ _ z => ⟨z.1, dp_up e _ _ z.2⟩⟩
  | .k kvs, ⟨a, ws, h1, h2, h3⟩ => ⟨a, ws, h1, ex_rd e h2, L2.Paired.mapP h3 fun _ _ z => ⟨z.1, dp_up e _ _ z.2⟩⟩
  | .v y, h => h
  | .sc ns, ⟨a, h1, h2⟩ => ⟨a, h1, ex_l e h2⟩
  | .ob p C fs, ⟨dx, ws, h1, h2, h3⟩ => ⟨dx, ws, h1, e _ _ h2, L2.Paired.mapP h3 fun _ _ z => ⟨z.1, DenF.up e z.2⟩⟩
abbrev Dens (K : PySem.W.Frag) (H : Hp) : List V → List Dn → Prop := Paired (Den K H)
theorem Dens.up (e : Ex H H') {vs : List V} {ds : List Dn} (h : Dens K H vs ds) : Dens K H' vs ds := L2.Paired.mapP h fun _ _ z => Den.up e z
theorem Dens.dp : ∀ {vs : List V} {ds : List PyData}, Dens K H vs (ds.map Dn.d) → DpAll K H vs ds
  | _, [], h => by cases h; exact .nil
  | _, d :: ds, h => by
    cases h with
    | cons h1 h2 => exact .cons h1 (Dens.dp h2)
theorem Dens.of : ∀ {vs : List V} {ds : List PyData}, DpAll K H vs ds → Dens K H vs (ds.map Dn.d)
  | _, _, .nil => .nil
  | _, _, .cons h t => .cons h (Dens.of t)
end

/-! ### the environment: what each slot tells -/
abbrev Rho := List (Option Dn)
structure En (K : PySem.W.Frag) (H : Hp) (σ : L2.St) (r : Rho) : Prop where
  len : σ.length = r.length
  at_ : ∀ (i : Nat) (d : Dn), r[i]? = some (some d) → ∃ v, σ[i]? = some (some v) ∧ Den K H v d
section
variable {K : PySem.W.Frag} {H H' : Hp} {σ : L2.St} {r : Rho}
theorem En.up (e : Ex H H') (n : En K H σ r) : En K H' σ r := ⟨n.len, fun i d h => let ⟨v, a, b⟩ := n.at_ i d h; ⟨v, a, b.up e⟩⟩
theorem En.set (n : En K H σ r) (i : Nat) {v : V} {d : Dn} (h : Den K H v d) : En K H (σ.set i (some v)) (r.set i (some d)) := by
  refine ⟨by rw [List.length_set, List.length_set]; exact n.len, fun j e hj => ?_⟩
  by_cases hij : i = j
  · subst hij
    have hl : i < r.length := by
      obtain ⟨q, _⟩ := List.getElem?_eq_some_iff.mp hj
      simpa using q
    rw [List.getElem?_set_self hl] at hj
    cases hj
    exact ⟨v, List.getElem?_set_self (by rw [n.len]; exact hl), h⟩
  · rw [List.getElem?_set_ne hij] at hj
    obtain ⟨u, a, b⟩ := n.at_ j e hj
    exact ⟨u, by rw [List.getElem?_set_ne hij]; exact a, b⟩
/-- a slot's word forgotten -/
theorem En.drop (n : En K H σ r) (i : Nat) (o : Option V) : En K H (σ.set i o) (r.set i none) := by
  refine ⟨by rw [List.length_set, List.length_set]; exact n.len, fun j e hj => ?_⟩
  by_cases hij : i = j
  · subst hij
    by_cases hl : i < r.length
    · rw [List.getElem?_set_self hl] at hj
      cases hj
    · rw [List.getElem?_eq_none (by simpa using hl)] at hj
      cases hj
  · rw [List.getElem?_set_ne hij] at hj
    obtain ⟨u, a, b⟩ := n.at_ j e hj
    exact ⟨u, by rw [List.getElem?_set_ne hij]; exact a, b⟩
def wipeR (r : Rho) : List Nat → Rho
  | [] => r
  | v :: vs => (wipeR r vs).set v none
theorem En.wipe (n : En K H σ r) : ∀ vs : List Nat, En K H (L2.wipe σ vs) (wipeR r vs)
  | [] => n
  | v :: vs => (En.wipe n vs).drop v none
theorem En.start {N : List Str} {vs : List V} {ds : List Dn} (h : Dens K H vs ds) : En K H (L2.start N vs) (ds.map some ++ List.replicate (N.length - vs.length) none) := by
  have hl := Paired.length h
  refine ⟨?_, fun i d hi => ?_⟩
  · unfold L2.start
    simp [hl]
  · unfold L2.start
    by_cases hlt : i < ds.length
    · rw [List.getElem?_append_left (by simpa using hlt), List.getElem?_map] at hi
      rw [List.getElem?_append_left (by simp; omega), List.getElem?_map]
      have : ∀ {vs : List V} {ds : List Dn} (i : Nat) (d : Dn), Dens K H vs ds → ds[i]? = some d → ∃ v, vs[i]? = some v ∧ Den K H v d := by
        intro vs ds i d h
        induction h generalizing i with
        | nil => intro e; simp at e
        | cons h1 _ ih =>
          cases i with
          | zero => intro e; simp at e; subst e; exact ⟨_, rfl, h1⟩
          | succ i => intro e; obtain ⟨v, a, b⟩ := ih i (by simpa using e); exact ⟨v, by simpa using a, b⟩
      cases hd : ds[i]? with
      | none => rw [hd] at hi; cases hi
      | some d' =>
        rw [hd] at hi
        cases hi
        obtain ⟨v, a, b⟩ := this i d h hd
        exact ⟨v, by rw [a]; rfl, b⟩
    · rw [List.getElem?_append_right (by simp; omega)] at hi
      rw [List.getElem?_replicate] at hi
      split at hi <;> cases hi
end

/-! ### the judgements by data: G is the part of the heap that the environment leans on, H the whole; both grow, and what is new in G is new in H -/
structure Gr (G H G2 H2 : Hp) : Prop where
  g : Ex G G2
  s : Ex G2 H2
  h : Ex H H2
  f : ∀ a, G a = none → G2 a ≠ none → H a = none
section
variable {G H G1 H1 G2 H2 : Hp}
theorem Gr.refl (e : Ex G H) : Gr G H G H := ⟨Ex.refl G, e, Ex.refl H, fun a h1 h2 => absurd h1 h2⟩
theorem Gr.trans (a : Gr G H G1 H1) (b : Gr G1 H1 G2 H2) : Gr G H G2 H2 := ⟨a.g.trans b.g, b.s, a.h.trans b.h, fun x h1 h2 => by
  cases q : G1 x with
  | none => exact fresh_back a.h (b.f x q h2)
  | some o => exact a.f x h1 (by rw [q]; exact fun z => nomatch z)⟩
theorem Gr.new {p : Addr} {o : HO} (e : Ex G H) (hp : H p = none) : Gr G H (upd G p o) (upd H p o) := by
  refine ⟨Ex.new (fresh_back e hp), fun a u h => ?_, Ex.new hp, fun a h1 h2 => ?_⟩
  · by_cases ha : a = p
    · subst ha; rw [upd_same] at h ⊢; exact h
    · rw [upd_ne ha] at h ⊢; exact e a u h
  · by_cases ha : a = p
    · rw [ha]; exact hp
    · rw [upd_ne ha] at h2; exact absurd h1 h2
end
/-- e tells d -/
def Pv (X : Cx) (e : Expr) (r : Rho) (d : Dn) : Prop := ∀ σ G H, Ex G H → En X.K G σ r → wE X e σ H fun v H2 => ∃ G2, Gr G H G2 H2 ∧ Den X.K G2 v d
def Pt (X : Cx) (e : Expr) (r : Rho) (b : Bool) : Prop := ∀ σ G H, Ex G H → En X.K G σ r → wT X e σ H fun c H2 => ∃ G2, Gr G H G2 H2 ∧ c = b
def Pw (X : Cx) (e : Expr) (r : Rho) (b : Bool) : Prop := ∀ σ G H, Ex G H → En X.K G σ r → wW X e σ H fun c H2 => ∃ G2, Gr G H G2 H2 ∧ c = b
def Pa (X : Cx) (es : List Expr) (r : Rho) (ds : List Dn) : Prop := ∀ σ G H, Ex G H → En X.K G σ r → wA X es σ H fun vs H2 => ∃ G2, Gr G H G2 H2 ∧ Dens X.K G2 vs ds

section
variable {X : Cx} {a b c e : Expr} {es : List Expr} {r : Rho} {d d1 d2 d3 : Dn} {pos : Pos}
theorem Pv.is (h : Pv X e r d) {d' : Dn} (q : d = d') : Pv X e r d' := q ▸ h
theorem Pt.is {b b' : Bool} (h : Pt X e r b) (q : b = b') : Pt X e r b' := q ▸ h
theorem Pw.is {b b' : Bool} (h : Pw X e r b) (q : b = b') : Pw X e r b' := q ▸ h
theorem Pw.pt {b : Bool} (h : Pw X e r b) : Pt X e r b := fun σ G H g n => fun pins s I => h σ G H g n _ pins s I

/-! #### names and constants -/
theorem pv_var (i : Nat) {x : Str} (hN : X.N[i]? = some x := by rfl) (hv : Vis X.env.scope x := by first | exact Or.inl rfl | exact Or.inr (Or.inl rfl) | exact Or.inr (Or.inr rfl)) (h : r[i]? = some (some d) := by rfl)
    (hd : (x == ("__debug__" : Str)) = false := by decide) (hcd : (x == ("__classdict__" : Str)) = false := by decide) : Pv X (.Name x pos) r d := fun σ G H g n =>
  let ⟨v, a, q⟩ := n.at_ i d h
  wE_of (pe_var hN hv hd hcd) ⟨v, a, G, Gr.refl g, q⟩
theorem pv_int {i : Int} {j : Nat} : Pv X (.Constant (.int i) j pos) r (.d (.int i)) := fun σ G H g _ => wE_of pe_int ⟨G, Gr.refl g, Dp.int i⟩
theorem pv_bool {i : Bool} {j : Nat} : Pv X (.Constant (.bool i) j pos) r (.d (.bool i)) := fun σ G H g _ => wE_of pe_bl ⟨G, Gr.refl g, Dp.bl i⟩
theorem pv_none {j : Nat} : Pv X (.Constant .none j pos) r (.d .none) := fun σ G H g _ => wE_of pe_non ⟨G, Gr.refl g, Dp.non⟩
theorem pv_str {i : Str} {j : Nat} : Pv X (.Constant (.str i) j pos) r (.d (.str i)) := fun σ G H g _ => wE_of pe_str ⟨G, Gr.refl g, Dp.str i⟩
theorem pv_glob {x : Str} {v : V} {u : Value} (hm : X.mg x = some u) (rv : RelV v u) (hd : ∀ H, Den X.K H v d) (hg : Gl X x := by rfl) (hdb : (x == ("__debug__" : Str)) = false := by decide) : Pv X (.Name x pos) r d := fun σ G H g _ =>
  wE_of (pe_glob hg hm rv hdb) ⟨G, Gr.refl g, hd G⟩

/-! #### arguments -/
theorem pa_nil : Pa X [] r [] := fun σ G H g _ => wA_of L2.pa_nil ⟨G, Gr.refl g, .nil⟩
theorem pa_cons {ds : List Dn} (ha : Pv X e r d) (hr : Pa X es r ds) (hs : starEach (e :: es) X.env = (false, eval e X.env) :: starEach es X.env := by rfl) : Pa X (e :: es) r (d :: ds) := fun σ G H g n =>
  wA_of (L2.pa_cons pe_w pa_w hs) (wE_imp (ha σ G H g n) fun v H1 ⟨G1, k1, q1⟩ => wA_imp (hr σ G1 H1 k1.s (n.up k1.g)) fun vs H2 ⟨G2, k2, q2⟩ => ⟨G2, k1.trans k2, .cons (q1.up k2.g) q2⟩)

/-! #### operators -/
/-- an operation by data -/
abbrev Op2 (K : PySem.W.Frag) (f : R2) (d1 d2 d : Dn) : Prop := ∀ x y G H (Q : VK), Ex G H → Den K G x d1 → Den K G y d2 → (∀ v G' H', Gr G H G' H' → Den K G' v d → Q v H') → f x y H Q
theorem pv_bin {op : Operator} {f : R2} (ho : OpR X (binaryOp op) f) (ha : Pv X a r d1) (hb : Pv X b r d2) (hr : Op2 X.K f d1 d2 d) : Pv X (.BinOp a op b pos) r d := fun σ G H g n =>
  wE_of (pe_op ho pe_w pe_w) (wE_imp (ha σ G H g n) fun x H1 ⟨G1, k1, q1⟩ => wE_imp (hb σ G1 H1 k1.s (n.up k1.g)) fun y H2 ⟨G2, k2, q2⟩ => hr x y G2 H2 _ k2.s (q1.up k2.g) q2 fun v G3 H3 k3 q3 => ⟨G3, (k1.trans k2).trans k3, q3⟩)
theorem pv_cmp {op : CmpOp} {f : R2} (ho : OpR X (compareOp op) f) (ha : Pv X a r d1) (hb : Pv X b r d2) (hr : Op2 X.K f d1 d2 d) (hm : behindInMarks op b = false) : Pv X (.Compare a [op] [b] pos) r d := fun σ G H g n =>
  wE_of (pe_cmpR ho pe_w pe_w hm) (wE_imp (ha σ G H g n) fun x H1 ⟨G1, k1, q1⟩ => wE_imp (hb σ G1 H1 k1.s (n.up k1.g)) fun y H2 ⟨G2, k2, q2⟩ => hr x y G2 H2 _ k2.s (q1.up k2.g) q2 fun v G3 H3 k3 q3 => ⟨G3, (k1.trans k2).trans k3, q3⟩)
theorem pt_cmp {op : CmpOp} {f : R2} {k : Bool} (ho : OpR X (compareOp op) f) (ha : Pv X a r d1) (hb : Pv X b r d2) (hr : Op2 X.K f d1 d2 (.d (.bool k))) (hm : behindInMarks op b = false) : Pt X (.Compare a [op] [b] pos) r k := fun σ G H g n =>
  wT_of (pt_cmpR ho pe_w pe_w hm) (wE_imp (ha σ G H g n) fun x H1 ⟨G1, k1, q1⟩ => wE_imp (hb σ G1 H1 k1.s (n.up k1.g)) fun y H2 ⟨G2, k2, q2⟩ => hr x y G2 H2 _ k2.s (q1.up k2.g) q2 fun v G3 H3 k3 q3 => by
    cases q3
    exact ⟨_, rfl, G3, (k1.trans k2).trans k3, rfl⟩)
theorem pv_un {op : UnaryOp} {f : V → Hp → VK → Prop} (ho : UnR X (unaryOp op) f) (ha : Pv X a r d1) (hr : ∀ x G H (Q : VK), Ex G H → Den X.K G x d1 → (∀ v G' H', Gr G H G' H' → Den X.K G' v d → Q v H') → f x H Q) : Pv X (.UnaryOp op a pos) r d := fun σ G H g n =>
  wE_of (pe_un ho pe_w) (wE_imp (ha σ G H g n) fun x H1 ⟨G1, k1, q1⟩ => hr x G1 H1 _ k1.s q1 fun v G3 H3 k3 q3 => ⟨G3, k1.trans k3, q3⟩)
theorem den_int {K : PySem.W.Frag} {H : Hp} {x : V} {i : Int} (h : Den K H x (.d (.int i))) : x = .int i := by cases h; rfl
theorem den_bool {K : PySem.W.Frag} {H : Hp} {x : V} {i : Bool} (h : Den K H x (.d (.bool i))) : x = .bl i := by cases h; rfl
theorem den_str {K : PySem.W.Frag} {H : Hp} {x : V} {i : Str} (h : Den K H x (.d (.str i))) : x = .str i := by cases h; rfl
theorem den_none {K : PySem.W.Frag} {H : Hp} {x : V} (h : Den K H x (.d .none)) : x = .non := by cases h; rfl
section
variable {i j : Int}
theorem binI {op : Operator} {C : Int → Int → Prop} {g : Int → Int → Int} (ho : OpR X (binaryOp op) (rI C fun i j => .int (g i j))) (hc : C i j) (ha : Pv X a r (.d (.int i))) (hb : Pv X b r (.d (.int j))) : Pv X (.BinOp a op b pos) r (.d (.int (g i j))) :=
  pv_bin ho ha hb fun x y G H Q e h1 h2 k => ⟨i, j, den_int h1, den_int h2, hc, k _ G H (Gr.refl e) (Dp.int _)⟩
theorem binI0 {op : Operator} {g : Int → Int → Int} (ho : OpR X (binaryOp op) (rI0 fun i j => .int (g i j))) (ha : Pv X a r (.d (.int i))) (hb : Pv X b r (.d (.int j))) : Pv X (.BinOp a op b pos) r (.d (.int (g i j))) :=
  pv_bin ho ha hb fun x y G H Q e h1 h2 k => ⟨i, j, den_int h1, den_int h2, k _ G H (Gr.refl e) (Dp.int _)⟩
theorem pv_add (ha : Pv X a r (.d (.int i))) (hb : Pv X b r (.d (.int j))) : Pv X (.BinOp a .Add b pos) r (.d (.int (i + j))) := binI0 op_add ha hb
theorem pv_sub (ha : Pv X a r (.d (.int i))) (hb : Pv X b r (.d (.int j))) : Pv X (.BinOp a .Sub b pos) r (.d (.int (i - j))) := binI0 op_sub ha hb
theorem pv_mul (hc : CMul i j) (ha : Pv X a r (.d (.int i))) (hb : Pv X b r (.d (.int j))) : Pv X (.BinOp a .Mult b pos) r (.d (.int (i * j))) := binI op_mul hc ha hb
theorem pv_fdiv (hc : CDiv i j) (ha : Pv X a r (.d (.int i))) (hb : Pv X b r (.d (.int j))) : Pv X (.BinOp a .FloorDiv b pos) r (.d (.int (i / j))) := binI op_fdiv hc ha hb
theorem pv_mod (hc : 0 < j) (ha : Pv X a r (.d (.int i))) (hb : Pv X b r (.d (.int j))) : Pv X (.BinOp a .Mod b pos) r (.d (.int (i % j))) := binI op_mod hc ha hb
theorem pv_pow (hc : CPow i j) (ha : Pv X a r (.d (.int i))) (hb : Pv X b r (.d (.int j))) : Pv X (.BinOp a .Pow b pos) r (.d (.int (i ^ j.toNat))) := binI op_pow hc ha hb
theorem pv_neg (ha : Pv X a r (.d (.int i))) : Pv X (.UnaryOp .USub a pos) r (.d (.int (-i))) := pv_un un_neg ha fun x G H Q e h k => ⟨i, den_int h, k _ G H (Gr.refl e) (Dp.int _)⟩
/-- comparisons of ints, as values, as tests -/
theorem cmpI {op : CmpOp} {g : Int → Int → Bool} (ho : OpR X (compareOp op) (rI0 fun i j => .bl (g i j))) (ha : Pv X a r (.d (.int i))) (hb : Pv X b r (.d (.int j))) (hm : behindInMarks op b = false) : Pv X (.Compare a [op] [b] pos) r (.d (.bool (g i j))) :=
  pv_cmp ho ha hb (fun x y G H Q e h1 h2 k => ⟨i, j, den_int h1, den_int h2, k _ G H (Gr.refl e) (Dp.bl _)⟩) hm
theorem tcmpI {op : CmpOp} {g : Int → Int → Bool} (ho : OpR X (compareOp op) (rI0 fun i j => .bl (g i j))) (ha : Pv X a r (.d (.int i))) (hb : Pv X b r (.d (.int j))) (hm : behindInMarks op b = false) : Pt X (.Compare a [op] [b] pos) r (g i j) :=
  pt_cmp ho ha hb (fun x y G H Q e h1 h2 k => ⟨i, j, den_int h1, den_int h2, k _ G H (Gr.refl e) (Dp.bl _)⟩) hm
theorem pv_lt (ha : Pv X a r (.d (.int i))) (hb : Pv X b r (.d (.int j))) : Pv X (.Compare a [.Lt] [b] pos) r (.d (.bool (decide (i < j)))) := cmpI op_lt ha hb (nomark _)
theorem pv_le (ha : Pv X a r (.d (.int i))) (hb : Pv X b r (.d (.int j))) : Pv X (.Compare a [.LtE] [b] pos) r (.d (.bool (decide (i ≤ j)))) := cmpI op_le ha hb (nomark _)
theorem pv_gt (ha : Pv X a r (.d (.int i))) (hb : Pv X b r (.d (.int j))) : Pv X (.Compare a [.Gt] [b] pos) r (.d (.bool (decide (j < i)))) := cmpI op_gt ha hb (nomark _)
theorem pv_ge (ha : Pv X a r (.d (.int i))) (hb : Pv X b r (.d (.int j))) : Pv X (.Compare a [.GtE] [b] pos) r (.d (.bool (decide (j ≤ i)))) := cmpI op_ge ha hb (nomark _)
theorem pt_lt (ha : Pv X a r (.d (.int i))) (hb : Pv X b r (.d (.int j))) : Pt X (.Compare a [.Lt] [b] pos) r (decide (i < j)) := tcmpI op_lt ha hb (nomark _)
theorem pt_le (ha : Pv X a r (.d (.int i))) (hb : Pv X b r (.d (.int j))) : Pt X (.Compare a [.LtE] [b] pos) r (decide (i ≤ j)) := tcmpI op_le ha hb (nomark _)
theorem pt_gt (ha : Pv X a r (.d (.int i))) (hb : Pv X b r (.d (.int j))) : Pt X (.Compare a [.Gt] [b] pos) r (decide (j < i)) := tcmpI op_gt ha hb (nomark _)
theorem pt_ge (ha : Pv X a r (.d (.int i))) (hb : Pv X b r (.d (.int j))) : Pt X (.Compare a [.GtE] [b] pos) r (decide (j ≤ i)) := tcmpI op_ge ha hb (nomark _)
end
/-! #### == of data -/
section
variable {x y : PyData}
theorem pv_eq (hu : X.A.units + 64 < cLine) (ha : Pv X a r (.d x)) (hb : Pv X b r (.d y)) (h1 : SeqAt.shaped x = true) (h2 : SeqAt.shaped y = true) : Pv X (.Compare a [.Eq] [b] pos) r (.d (.bool (PyData.eqv x y))) :=
  pv_cmp (op_eqD hu) ha hb (fun v w G H Q e q1 q2 k => ⟨x, y, Dp.l2 _ _ (dp_up e _ _ q1), Dp.l2 _ _ (dp_up e _ _ q2), h1, h2, k _ G H (Gr.refl e) (Dp.bl _)⟩) (nomark _)
theorem pv_ne (hu : X.A.units + 64 < cLine) (ha : Pv X a r (.d x)) (hb : Pv X b r (.d y)) (h1 : SeqAt.shaped x = true) (h2 : SeqAt.shaped y = true) : Pv X (.Compare a [.NotEq] [b] pos) r (.d (.bool (!PyData.eqv x y))) :=
  pv_cmp (op_neD hu) ha hb (fun v w G H Q e q1 q2 k => ⟨x, y, Dp.l2 _ _ (dp_up e _ _ q1), Dp.l2 _ _ (dp_up e _ _ q2), h1, h2, k _ G H (Gr.refl e) (Dp.bl _)⟩) (nomark _)
theorem pt_eq (hu : X.A.units + 64 < cLine) (ha : Pv X a r (.d x)) (hb : Pv X b r (.d y)) (h1 : SeqAt.shaped x = true) (h2 : SeqAt.shaped y = true) : Pt X (.Compare a [.Eq] [b] pos) r (PyData.eqv x y) :=
  pt_cmp (op_eqD hu) ha hb (fun v w G H Q e q1 q2 k => ⟨x, y, Dp.l2 _ _ (dp_up e _ _ q1), Dp.l2 _ _ (dp_up e _ _ q2), h1, h2, k _ G H (Gr.refl e) (Dp.bl _)⟩) (nomark _)
theorem pt_ne (hu : X.A.units + 64 < cLine) (ha : Pv X a r (.d x)) (hb : Pv X b r (.d y)) (h1 : SeqAt.shaped x = true) (h2 : SeqAt.shaped y = true) : Pt X (.Compare a [.NotEq] [b] pos) r (!PyData.eqv x y) :=
  pt_cmp (op_neD hu) ha hb (fun v w G H Q e q1 q2 k => ⟨x, y, Dp.l2 _ _ (dp_up e _ _ q1), Dp.l2 _ _ (dp_up e _ _ q2), h1, h2, k _ G H (Gr.refl e) (Dp.bl _)⟩) (nomark _)
end
end
end Fb

/-! FbB: truth, items, slices, displays, walks, comprehensions, by data. -/
namespace Fb
open PySem L2 Evl
section
variable {X : Cx} {a b c e : Expr} {es rest : List Expr} {r : Rho} {d d1 d2 d3 : Dn} {pos : Pos}

/-! #### and, or, not -/
theorem pv_one {op} (h : Pv X a r d) : Pv X (.BoolOp op [a] pos) r d := fun σ G H g n => wE_of (pe_one pe_w) (h σ G H g n)
theorem pv_and {p q : Bool} (ha : Pv X a r (.d (.bool p))) (hb : p = true → Pv X (.BoolOp .And (b :: rest) pos) r (.d (.bool q))) : Pv X (.BoolOp .And (a :: b :: rest) pos) r (.d (.bool (p && q))) := fun σ G H g n =>
  wE_of (pe_and pe_w pe_w) (wE_imp (ha σ G H g n) fun x H1 ⟨G1, k1, q1⟩ => ⟨p, den_bool q1, by
    cases p with
    | true => exact wE_imp (hb rfl σ G1 H1 k1.s (n.up k1.g)) fun v H2 ⟨G2, k2, q2⟩ => ⟨G2, k1.trans k2, q2⟩
    | false => exact ⟨G1, k1, Dp.bl false⟩⟩)
theorem pv_or {p q : Bool} (ha : Pv X a r (.d (.bool p))) (hb : p = false → Pv X (.BoolOp .Or (b :: rest) pos) r (.d (.bool q))) : Pv X (.BoolOp .Or (a :: b :: rest) pos) r (.d (.bool (p || q))) := fun σ G H g n =>
  wE_of (pe_or pe_w pe_w) (wE_imp (ha σ G H g n) fun x H1 ⟨G1, k1, q1⟩ => ⟨p, den_bool q1, by
    cases p with
    | false => exact wE_imp (hb rfl σ G1 H1 k1.s (n.up k1.g)) fun v H2 ⟨G2, k2, q2⟩ => ⟨G2, k1.trans k2, q2⟩
    | true => exact ⟨G1, k1, Dp.bl true⟩⟩)
theorem pv_not {p : Bool} (ha : Pv X a r (.d (.bool p))) : Pv X (.UnaryOp .Not a pos) r (.d (.bool (!p))) := fun σ G H g n =>
  wE_of (pe_not pe_w) (wE_imp (ha σ G H g n) fun x H1 ⟨G1, k1, q1⟩ => ⟨p, den_bool q1, G1, k1, Dp.bl _⟩)
theorem pw_and1 {p : Bool} (ha : Pt X a r p) : Pw X (.BoolOp .And [a] pos) r p := fun σ G H g n => wW_of (L2.pw_and1 pt_w) (ha σ G H g n)
theorem pw_or1 {p : Bool} (ha : Pt X a r p) : Pw X (.BoolOp .Or [a] pos) r p := fun σ G H g n => wW_of (L2.pw_or1 pt_w) (ha σ G H g n)
theorem pw_and {p q : Bool} (ha : Pt X a r p) (hb : p = true → Pw X (.BoolOp .And (b :: rest) pos) r q) : Pw X (.BoolOp .And (a :: b :: rest) pos) r (p && q) := fun σ G H g n =>
  wW_of (L2.pw_and pt_w pw_w) (wT_imp (ha σ G H g n) fun x H1 ⟨G1, k1, q1⟩ => by
    subst q1
    cases x with
    | true => exact wW_imp (hb rfl σ G1 H1 k1.s (n.up k1.g)) fun v H2 ⟨G2, k2, q2⟩ => ⟨G2, k1.trans k2, q2⟩
    | false => exact ⟨G1, k1, rfl⟩)
theorem pw_or {p q : Bool} (ha : Pt X a r p) (hb : p = false → Pw X (.BoolOp .Or (b :: rest) pos) r q) : Pw X (.BoolOp .Or (a :: b :: rest) pos) r (p || q) := fun σ G H g n =>
  wW_of (L2.pw_or pt_w pw_w) (wT_imp (ha σ G H g n) fun x H1 ⟨G1, k1, q1⟩ => by
    subst q1
    cases x with
    | false => exact wW_imp (hb rfl σ G1 H1 k1.s (n.up k1.g)) fun v H2 ⟨G2, k2, q2⟩ => ⟨G2, k1.trans k2, q2⟩
    | true => exact ⟨G1, k1, rfl⟩)
theorem pw_orT (ha : Pt X a r true) : Pw X (.BoolOp .Or (a :: b :: rest) pos) r true := pw_or (q := true) ha fun h => nomatch h
theorem pw_orF {q : Bool} (ha : Pt X a r false) (hb : Pw X (.BoolOp .Or (b :: rest) pos) r q) : Pw X (.BoolOp .Or (a :: b :: rest) pos) r q := pw_or ha fun _ => hb
theorem pw_andF (ha : Pt X a r false) : Pw X (.BoolOp .And (a :: b :: rest) pos) r false := pw_and (q := true) ha fun h => nomatch h
theorem pw_andT {q : Bool} (ha : Pt X a r true) (hb : Pw X (.BoolOp .And (b :: rest) pos) r q) : Pw X (.BoolOp .And (a :: b :: rest) pos) r q := pw_and ha fun _ => hb
theorem pv_orT (ha : Pv X a r (.d (.bool true))) : Pv X (.BoolOp .Or (a :: b :: rest) pos) r (.d (.bool true)) := pv_or (q := true) ha fun h => nomatch h
theorem pv_orF {q : Bool} (ha : Pv X a r (.d (.bool false))) (hb : Pv X (.BoolOp .Or (b :: rest) pos) r (.d (.bool q))) : Pv X (.BoolOp .Or (a :: b :: rest) pos) r (.d (.bool q)) := pv_or ha fun _ => hb
theorem pv_andF (ha : Pv X a r (.d (.bool false))) : Pv X (.BoolOp .And (a :: b :: rest) pos) r (.d (.bool false)) := pv_and (q := true) ha fun h => nomatch h
theorem pv_andT {q : Bool} (ha : Pv X a r (.d (.bool true))) (hb : Pv X (.BoolOp .And (b :: rest) pos) r (.d (.bool q))) : Pv X (.BoolOp .And (a :: b :: rest) pos) r (.d (.bool q)) := pv_and ha fun _ => hb
theorem pt_not {p : Bool} (ha : Pt X a r p) : Pt X (.UnaryOp .Not a pos) r (!p) := fun σ G H g n =>
  wT_of (L2.pt_not pt_w) (wT_imp (ha σ G H g n) fun x H1 ⟨G1, k1, q1⟩ => ⟨G1, k1, by rw [q1]⟩)
theorem pt_val {p : Bool} (ha : Pv X a r (.d (.bool p))) (he : ∀ whole, isTrue a X.env whole = (do let v ← whole; standAt a.pos; holding [v] (truthy v)) := by intro _; rfl) : Pt X a r p := fun σ G H g n =>
  wT_of (L2.pt_val pe_w he) (wE_imp (ha σ G H g n) fun x H1 ⟨G1, k1, q1⟩ => ⟨p, den_bool q1, G1, k1, rfl⟩)
/-- truth of a datum -/
def truD : PyData → Bool
  | .none => false
  | .bool b => b
  | .int i => i != 0
  | .str y => (y.length : Int) != 0
  | .list xs => !xs.isEmpty
  | .tuple xs => !xs.isEmpty
  | .dict _ => false
def strOk : PyData → Prop
  | .str y => y.length ≤ sizeLine
  | _ => True
theorem truV_of {K : PySem.W.Frag} {H : Hp} {x : V} {y : PyData} (h : Dp K H x y) (hs : strOk y) : TruV K x H (truD y) := by
  cases h with
  | non => rfl
  | bl b => rfl
  | int i => rfl
  | str z => exact ⟨hs, rfl⟩
  | lst h1 h2 => exact .inl ⟨_, .inl h1, by have := DpAll.len h2; cases h2 <;> rfl⟩
  | tup h1 h2 => exact .inr (.inl ⟨_, h1, by have := DpAll.len h2; cases h2 <;> rfl⟩)
theorem pt_truth {y : PyData} (ha : Pv X a r (.d y)) (hs : strOk y := by trivial) (he : ∀ whole, isTrue a X.env whole = (do let v ← whole; standAt a.pos; holding [v] (truthy v)) := by intro _; rfl) : Pt X a r (truD y) := fun σ G H g n =>
  wT_of (L2.pt_truth pe_w he) (wE_imp (ha σ G H g n) fun x H1 ⟨G1, k1, q1⟩ => ⟨_, truV_of (dp_up k1.s _ _ q1) hs, G1, k1, rfl⟩)
theorem pv_notT {y : PyData} (ha : Pv X a r (.d y)) (hs : strOk y := by trivial) : Pv X (.UnaryOp .Not a pos) r (.d (.bool (!truD y))) := fun σ G H g n =>
  wE_of (pe_notT pe_w) (wE_imp (ha σ G H g n) fun x H1 ⟨G1, k1, q1⟩ => ⟨_, truV_of (dp_up k1.s _ _ q1) hs, G1, k1, Dp.bl _⟩)
theorem pv_if {p : Bool} (hc : Pt X c r p) (ha : p = true → Pv X a r d) (hb : p = false → Pv X b r d) : Pv X (.IfExp c a b pos) r d := fun σ G H g n =>
  wE_of (pe_ifExp pt_w pe_w pe_w) (wT_imp (hc σ G H g n) fun x H1 ⟨G1, k1, q1⟩ => by
    subst q1
    cases x with
    | true => exact wE_imp (ha rfl σ G1 H1 k1.s (n.up k1.g)) fun v H2 ⟨G2, k2, q2⟩ => ⟨G2, k1.trans k2, q2⟩
    | false => exact wE_imp (hb rfl σ G1 H1 k1.s (n.up k1.g)) fun v H2 ⟨G2, k2, q2⟩ => ⟨G2, k1.trans k2, q2⟩)
/-- a <= b <= c of ints -/
theorem chainI {op op' : CmpOp} {g g' : Int → Int → Bool} {i j k : Int} (ho : OpR X (compareOp op) (rI0 fun i j => .bl (g i j))) (ho' : OpR X (compareOp op') (rI0 fun i j => .bl (g' i j)))
    (ha : Pv X a r (.d (.int i))) (hb : Pv X b r (.d (.int j))) (hc : Pv X c r (.d (.int k))) (hm : lastMarks [op, op'] [b, c] = false := by rfl) : Pv X (.Compare a [op, op'] [b, c] pos) r (.d (.bool (g i j && g' j k))) := fun σ G H gg n =>
  wE_of (pe_chain ho ho' pe_w pe_w pe_w hm) (wE_imp (ha σ G H gg n) fun x H1 ⟨G1, k1, q1⟩ => wE_imp (hb σ G1 H1 k1.s (n.up k1.g)) fun y H2 ⟨G2, k2, q2⟩ => ⟨i, j, den_int q1, den_int q2, g i j, rfl, by
    cases hg : g i j with
    | true => exact wE_imp (hc σ G2 H2 k2.s ((n.up k1.g).up k2.g)) fun z H3 ⟨G3, k3, q3⟩ => ⟨j, k, den_int q2, den_int q3, G3, (k1.trans k2).trans k3, Dp.bl _⟩
    | false => exact ⟨G2, k1.trans k2, Dp.bl _⟩⟩)
theorem tchainI {op op' : CmpOp} {g g' : Int → Int → Bool} {i j k : Int} (ho : OpR X (compareOp op) (rI0 fun i j => .bl (g i j))) (ho' : OpR X (compareOp op') (rI0 fun i j => .bl (g' i j)))
    (ha : Pv X a r (.d (.int i))) (hb : Pv X b r (.d (.int j))) (hc : Pv X c r (.d (.int k))) (hm : lastMarks [op, op'] [b, c] = false := by rfl) : Pt X (.Compare a [op, op'] [b, c] pos) r (g i j && g' j k) := fun σ G H gg n =>
  wT_of (pt_chain ho ho' pe_w pe_w pe_w hm) (wE_imp (ha σ G H gg n) fun x H1 ⟨G1, k1, q1⟩ => wE_imp (hb σ G1 H1 k1.s (n.up k1.g)) fun y H2 ⟨G2, k2, q2⟩ => ⟨i, j, den_int q1, den_int q2, g i j, rfl, by
    cases hg : g i j with
    | true => exact wE_imp (hc σ G2 H2 k2.s ((n.up k1.g).up k2.g)) fun z H3 ⟨G3, k3, q3⟩ => ⟨j, k, den_int q2, den_int q3, _, rfl, G3, (k1.trans k2).trans k3, by simp⟩
    | false => exact ⟨_, rfl, G2, k1.trans k2, rfl⟩⟩)
theorem pv_le_le {i j k : Int} (ha : Pv X a r (.d (.int i))) (hb : Pv X b r (.d (.int j))) (hc : Pv X c r (.d (.int k))) (hm : lastMarks [.LtE, .LtE] [b, c] = false := by rfl) : Pv X (.Compare a [.LtE, .LtE] [b, c] pos) r (.d (.bool (decide (i ≤ j) && decide (j ≤ k)))) := chainI op_le op_le ha hb hc hm
theorem pt_le_le {i j k : Int} (ha : Pv X a r (.d (.int i))) (hb : Pv X b r (.d (.int j))) (hc : Pv X c r (.d (.int k))) (hm : lastMarks [.LtE, .LtE] [b, c] = false := by rfl) : Pt X (.Compare a [.LtE, .LtE] [b, c] pos) r (decide (i ≤ j) && decide (j ≤ k)) := tchainI op_le op_le ha hb hc hm
/-- is None, is not None -/
def isNoneD : PyData → Bool
  | .none => true
  | _ => false
theorem isN_dec {K : PySem.W.Frag} {H : Hp} {x : V} {y : PyData} (h : Dp K H x y) : decide (x = V.non) = isNoneD y := by cases h <;> simp [isNoneD]
theorem pv_isN {y : PyData} {j : Nat} {p' : Pos} (ha : Pv X a r (.d y)) : Pv X (.Compare a [.Is] [.Constant .none j p'] pos) r (.d (.bool (isNoneD y))) :=
  pv_cmp op_isN ha pv_none (fun x y' G H Q e h1 h2 k => ⟨den_none h2, k _ G H (Gr.refl e) (by rw [isN_dec h1]; exact Dp.bl _)⟩) (nomark _)
theorem pv_notN {y : PyData} {j : Nat} {p' : Pos} (ha : Pv X a r (.d y)) : Pv X (.Compare a [.IsNot] [.Constant .none j p'] pos) r (.d (.bool (!isNoneD y))) :=
  pv_cmp op_notN ha pv_none (fun x y' G H Q e h1 h2 k => ⟨den_none h2, k _ G H (Gr.refl e) (by rw [isN_dec h1]; exact Dp.bl _)⟩) (nomark _)
theorem pt_isN {y : PyData} {j : Nat} {p' : Pos} (ha : Pv X a r (.d y)) : Pt X (.Compare a [.Is] [.Constant .none j p'] pos) r (isNoneD y) :=
  pt_cmp op_isN ha pv_none (fun x y' G H Q e h1 h2 k => ⟨den_none h2, k _ G H (Gr.refl e) (by rw [isN_dec h1]; exact Dp.bl _)⟩) (nomark _)
theorem pt_notN {y : PyData} {j : Nat} {p' : Pos} (ha : Pv X a r (.d y)) : Pt X (.Compare a [.IsNot] [.Constant .none j p'] pos) r (!isNoneD y) :=
  pt_cmp op_notN ha pv_none (fun x y' G H Q e h1 h2 k => ⟨den_none h2, k _ G H (Gr.refl e) (by rw [isN_dec h1]; exact Dp.bl _)⟩) (nomark _)

/-! #### items and slices -/
theorem atI_dp {K : PySem.W.Frag} {H : Hp} {vs : List V} {ds : List PyData} {i : Int} {y : PyData} (h : DpAll K H vs ds) (e : atI ds i = some y) : ∃ v, atI vs i = some v ∧ Dp K H v y := by
  unfold atI at e ⊢
  rw [DpAll.len h]
  cases q : ixN ds.length i with
  | none => rw [q] at e; cases e
  | some j =>
    rw [q] at e
    obtain ⟨v, a, b⟩ := DpAll.get h (show ds[j]? = some y from e)
    exact ⟨v, a, b⟩
def ixD : PyData → Int → Option PyData
  | .tuple ds, i => atI ds i
  | .list ds, i => atI ds i
  | _, _ => none
theorem pv_ix {y z : PyData} {i : Int} (ha : Pv X a r (.d y)) (hb : Pv X b r (.d (.int i))) (hi : ixD y i = some z) (hs : PlainIx b := by exact fun _ _ => rfl) : Pv X (.Subscript a b pos) r (.d z) := fun σ G H g n =>
  wE_of (pe_ix ix_seq pe_w pe_w hs) (wE_imp (ha σ G H g n) fun x H1 ⟨G1, k1, q1⟩ => wE_imp (hb σ G1 H1 k1.s (n.up k1.g)) fun u H2 ⟨G2, k2, q2⟩ => by
    have q1' := Den.up k2.g q1
    cases y with
    | tuple ds =>
      cases q1' with
      | tup h1 h2 =>
        obtain ⟨v, hv, hd⟩ := atI_dp h2 hi
        exact .inr (.inl ⟨_, _, i, v, rfl, den_int q2, ex_t k2.s h1, hv, G2, k1.trans k2, hd⟩)
    | list ds =>
      cases q1' with
      | lst h1 h2 =>
        obtain ⟨v, hv, hd⟩ := atI_dp h2 hi
        exact .inl ⟨_, _, i, v, rfl, den_int q2, .inl (ex_rd k2.s h1), hv, G2, k1.trans k2, hd⟩
    | _ => cases hi)
/-- a slice's part -/
def Po (X : Cx) (oe : Option Expr) (r : Rho) (o : Option Int) : Prop := ∃ t, PO X oe t ∧ ∀ σ G H, Ex G H → En X.K G σ r → ∀ Q : Option Int → Hp → Prop, (∀ G2 H2, Gr G H G2 H2 → Q o H2) → t σ H Q
theorem po_none : Po X none r none := ⟨_, L2.po_none, fun σ G H g _ Q q => q G H (Gr.refl g)⟩
theorem po_some {i : Int} (h : Pv X e r (.d (.int i))) : Po X (some e) r (some i) := ⟨_, L2.po_some pe_w, fun σ G H g n Q q => wE_imp (h σ G H g n) fun v H1 ⟨G1, k1, q1⟩ => ⟨i, den_int q1, q G1 H1 k1⟩⟩
def cutD (xs : List PyData) (lo hi : Option Int) : List PyData := (xs.drop (HT.sIx xs.length 0 lo)).take (HT.sIx xs.length xs.length hi - HT.sIx xs.length 0 lo)
theorem cut_dp {K : PySem.W.Frag} {H : Hp} {vs : List V} {ds : List PyData} (h : DpAll K H vs ds) (lo hi : Option Int) : DpAll K H (cutV vs lo hi) (cutD ds lo hi) := by
  unfold cutV cutD
  rw [DpAll.len h]
  exact DpAll.take _ (DpAll.drop _ h)
theorem cutD_whole {ds : List PyData} {lo hi : Option Int} (h : HT.sIx ds.length 0 lo = 0 ∧ HT.sIx ds.length ds.length hi = ds.length) : cutD ds lo hi = ds := by
  unfold cutD
  rw [h.1, h.2]
  simp
theorem pv_sliceT {ds : List PyData} {lo hi : Option Expr} {l u : Option Int} {p2 : Pos} (ha : Pv X a r (.d (.tuple ds))) (hl : Po X lo r l) (hu : Po X hi r u) : Pv X (.Subscript a (.Slice lo hi none p2) pos) r (.d (.tuple (cutD ds l u))) := by
  obtain ⟨t1, p1, f1⟩ := hl
  obtain ⟨t2, p2', f2⟩ := hu
  intro σ G H g n
  refine wE_of (pe_slice sl_tupA pe_w p1 p2') (wE_imp (ha σ G H g n) fun x H1 ⟨G1, k1, q1⟩ => f1 σ G1 H1 k1.s (n.up k1.g) _ fun G2 H2 k2 => f2 σ G2 H2 k2.s ((n.up k1.g).up k2.g) _ fun G3 H3 k3 => ?_)
  have q := Den.up (k2.g.trans k3.g) q1
  cases q with
  | tup h1 h2 =>
    have hl := DpAll.len h2
    refine ⟨_, _, rfl, ex_t k3.s h1, fun hw => ⟨G3, (k1.trans k2).trans k3, ?_⟩, fun _ p hp => ⟨_, ((k1.trans k2).trans k3).trans (Gr.new k3.s hp), ?_⟩⟩
    · rw [cutD_whole (by rw [← hl]; exact hw)]
      exact Dp.tup h1 h2
    · exact Dp.tup (st_of upd_same) (dpAll_up (Ex.new (fresh_back k3.s hp)) _ _ (cut_dp h2 l u))
theorem pv_sliceL {ds : List PyData} {lo hi : Option Expr} {l u : Option Int} {p2 : Pos} (ha : Pv X a r (.d (.list ds))) (hl : Po X lo r l) (hu : Po X hi r u) : Pv X (.Subscript a (.Slice lo hi none p2) pos) r (.d (.list (cutD ds l u))) := by
  obtain ⟨t1, p1, f1⟩ := hl
  obtain ⟨t2, p2', f2⟩ := hu
  intro σ G H g n
  refine wE_of (pe_slice sl_list pe_w p1 p2') (wE_imp (ha σ G H g n) fun x H1 ⟨G1, k1, q1⟩ => f1 σ G1 H1 k1.s (n.up k1.g) _ fun G2 H2 k2 => f2 σ G2 H2 k2.s ((n.up k1.g).up k2.g) _ fun G3 H3 k3 => ?_)
  have q := Den.up (k2.g.trans k3.g) q1
  cases q with
  | lst h1 h2 => exact ⟨_, _, rfl, .inl (ex_rd k3.s h1), fun p hp => ⟨_, ((k1.trans k2).trans k3).trans (Gr.new k3.s hp), Dp.lst (.inl upd_same) (dpAll_up (Ex.new (fresh_back k3.s hp)) _ _ (cut_dp h2 l u))⟩⟩

/-! #### displays -/
def Pd (X : Cx) (es : List Expr) (r : Rho) (xs : List PyData) : Prop := Pa X es r (xs.map Dn.d)
theorem pd_nil : Pd X [] r [] := pa_nil
theorem pd_cons {x : PyData} {xs : List PyData} (ha : Pv X e r (.d x)) (hr : Pd X es r xs) (hs : starEach (e :: es) X.env = (false, eval e X.env) :: starEach es X.env := by rfl) : Pd X (e :: es) r (x :: xs) := pa_cons ha hr hs
theorem pv_tup {xs : List PyData} {x1} (h : Pd X es r xs) (hl : xs.length ≤ 100000 := by simp) : Pv X (.Tuple es x1 pos) r (.d (.tuple xs)) := fun σ G H g n =>
  wE_of (pe_tup pa_w) (wA_imp (h σ G H g n) fun vs H1 ⟨G1, k1, q1⟩ => by
    have q := Dens.dp q1
    have hlen := DpAll.len q
    exact ⟨sz_of (by omega), fun p hp => ⟨_, k1.trans (Gr.new k1.s hp), Dp.tup (st_of upd_same) (dpAll_up (Ex.new (fresh_back k1.s hp)) _ _ q)⟩⟩)
theorem pv_lst {xs : List PyData} (h : Pd X es r xs) (hl : xs.length ≤ 100000 := by simp) : Pv X (.List es pos) r (.d (.list xs)) := fun σ G H g n =>
  wE_of (pe_lst pa_w) (wA_imp (h σ G H g n) fun vs H1 ⟨G1, k1, q1⟩ => by
    have q := Dens.dp q1
    have hlen := DpAll.len q
    exact ⟨sz_of (by omega), fun p hp => ⟨_, k1.trans (Gr.new k1.s hp), Dp.lst (.inl upd_same) (dpAll_up (Ex.new (fresh_back k1.s hp)) _ _ q)⟩⟩)

/-! #### + of tuples -/
theorem pv_catT {xs ys : List PyData} (ha : Pv X a r (.d (.tuple xs))) (hb : Pv X b r (.d (.tuple ys))) (hl : xs.length + ys.length ≤ 100000) : Pv X (.BinOp a .Add b pos) r (.d (.tuple (xs ++ ys))) :=
  pv_bin op_catA ha hb fun x y G H Q e h1 h2 k => by
    cases h1 with
    | tup s1 t1 =>
      cases h2 with
      | tup s2 t2 =>
        have l1 := DpAll.len t1
        have l2 := DpAll.len t2
        refine ⟨_, _, _, _, rfl, rfl, ex_t e s1, ex_t e s2, sz_of (by omega), fun hx => k _ G H (Gr.refl e) ?_, fun _ hy => k _ G H (Gr.refl e) ?_, fun _ _ p hp => k _ _ _ (Gr.new e hp) (Dp.tup (st_of upd_same) (dpAll_up (Ex.new (fresh_back e hp)) _ _ (DpAll.app t1 t2)))⟩
        · subst hx
          cases t1
          exact Dp.tup s2 t2
        · subst hy
          cases t2
          rw [List.append_nil]
          exact Dp.tup s1 t1

/-! #### what is walked -/
/-- iter, walked with the target tg, tells the data ds one after another -/
def Wk (X : Cx) (tg iter : Expr) (r : Rho) (ds : List Dn) : Prop := ∃ wi : TI, PI X tg iter wi ∧ ∀ σ G H, Ex G H → En X.K G σ r → ∀ R : It → Hp → Prop,
  (∀ J G1 H1, Gr G H G1 H1 → (∀ i H2, Ex G1 H2 → i < ds.length → J.go i H2) → (∀ i G2 H2 x H3, Ex G1 G2 → Ex G2 H2 → J.yld i H2 x H3 → ∀ d, ds[i]? = some d → ∃ G3, Gr G2 H2 G3 H3 ∧ Den X.K G3 x d) → (∀ i H2, Ex G1 H2 → ds.length ≤ i → J.stop i H2) → R J H1) → wi σ H R
theorem wk_list {tg : Expr} {xs : List PyData} (h : Pv X e r (.d (.list xs))) : Wk X tg e r (xs.map Dn.d) := ⟨_, pi_list pe_w, fun σ G H g n R k => wE_imp (h σ G H g n) fun v H1 ⟨G1, k1, q1⟩ => by
  cases q1 with
  | @lst p vs _ h1 h2 =>
    have hl := DpAll.len h2
    refine ⟨p, rfl, ⟨vs, .inl (ex_rd k1.s h1)⟩, k _ G1 H1 k1 (fun i H2 e2 hi => ?_) (fun i G2 H2 x H3 e2 s2 y d hd => ?_) (fun i H2 e2 hi => ⟨vs, .inl (ex_rd e2 h1), by rw [hl]; simpa using hi⟩)⟩
    · rw [List.length_map, ← hl] at hi
      exact ⟨vs, vs[i], .inl (ex_rd e2 h1), List.getElem?_eq_getElem hi⟩
    · obtain ⟨rfl, y⟩ := y
      have hx := y vs (.inl (ex_rd (e2.trans s2) h1))
      obtain ⟨d', q1, q2⟩ := DpAll.back h2 hx
      rw [List.getElem?_map, q1] at hd
      cases hd
      exact ⟨G2, Gr.refl s2, Den.up (d := .d d') e2 q2⟩⟩
theorem wk_tup {tg : Expr} {xs : List PyData} (h : Pv X e r (.d (.tuple xs))) : Wk X tg e r (xs.map Dn.d) := ⟨_, pi_tup pe_w, fun σ G H g n R k => wE_imp (h σ G H g n) fun v H1 ⟨G1, k1, q1⟩ => by
  cases q1 with
  | @tup p vs _ h1 h2 =>
    have hl := DpAll.len h2
    refine ⟨p, rfl, ⟨vs, ex_t k1.s h1⟩, k _ G1 H1 k1 (fun i H2 e2 hi => ?_) (fun i G2 H2 x H3 e2 s2 y d hd => ?_) (fun i H2 e2 hi => ⟨vs, ex_t e2 h1, by rw [hl]; simpa using hi⟩)⟩
    · rw [List.length_map, ← hl] at hi
      exact ⟨vs, vs[i], ex_t e2 h1, List.getElem?_eq_getElem hi⟩
    · obtain ⟨rfl, y⟩ := y
      have hx := y vs (ex_t (e2.trans s2) h1)
      obtain ⟨d', q1, q2⟩ := DpAll.back h2 hx
      rw [List.getElem?_map, q1] at hd
      cases hd
      exact ⟨G2, Gr.refl s2, Den.up (d := .d d') e2 q2⟩⟩
theorem wk_str {tg : Expr} {x : Str} (h : Pv X e r (.d (.str x))) : Wk X tg e r (x.cps.toList.map fun c => Dn.d (.str ⟨#[c]⟩)) := ⟨_, pi_str pe_w, fun σ G H g n R k => wE_imp (h σ G H g n) fun v H1 ⟨G1, k1, q1⟩ => by
  refine ⟨x, den_str q1, k _ G1 H1 k1 (fun i H2 e2 hi => ?_) (fun i G2 H2 v H3 e2 s2 y d hd => ?_) (fun i H2 e2 hi => ?_)⟩
  · show i < x.cps.size
    simpa using hi
  · obtain ⟨rfl, c, hc, rfl⟩ := y
    rw [List.getElem?_map] at hd
    have : x.cps.toList[i]? = some c := by simpa using hc
    rw [this] at hd
    cases hd
    exact ⟨G2, Gr.refl s2, Dp.str _⟩
  · show x.cps.size ≤ i
    simpa using hi⟩
/-- the ints lo, lo + 1, .. -/
def upto (lo : Int) (n : Nat) : List Int := (List.range n).map fun (i : Nat) => lo + (i : Int)
theorem upto_len (lo : Int) (n : Nat) : (upto lo n).length = n := by simp [upto]
theorem upto_get {lo : Int} {n i : Nat} {d : Dn} (hd : ((upto lo n).map fun i => Dn.d (.int i))[i]? = some d) : d = Dn.d (.int (lo + (i : Int))) := by
  unfold upto at hd
  rw [List.getElem?_map, List.getElem?_map] at hd
  cases hr : (List.range n)[i]? with
  | none => rw [hr] at hd; cases hd
  | some i' =>
    rw [hr] at hd
    obtain ⟨_, q⟩ := List.getElem?_eq_some_iff.mp hr
    rw [List.getElem_range] at q
    subst q
    cases hd
    rfl
theorem wk_range1 {tg : Expr} {p : Pos} {j : Int} (hm : X.mg "range" = none) (h : Pv X e r (.d (.int j))) (hj : -(2 ^ 62) ≤ j ∧ j < 2 ^ 62) (hg : Gl X "range" := by rfl) (hs : starEach [e] X.env = [(false, eval e X.env)] := by rfl) :
    Wk X tg (.Call (.Name "range" p) [e] [] pos) r ((upto 0 j.toNat).map fun i => Dn.d (.int i)) := ⟨_, pi_range1 hg hm pa_w hs, fun σ G H g n R k => wA_imp (pa_cons h pa_nil hs σ G H g n) fun vs H1 ⟨G1, k1, q1⟩ => by
  cases q1 with
  | cons a1 a2 =>
    cases a2
    refine ⟨j, by rw [den_int a1], hj.1, hj.2, k _ G1 H1 k1 (fun i H2 e2 hi => ?_) (fun i G2 H2 v H3 e2 s2 y d hd => ?_) (fun i H2 e2 hi => ?_)⟩
    · rw [List.length_map, upto_len] at hi
      exact hi
    · obtain ⟨rfl, rfl⟩ := y
      rw [upto_get hd]
      exact ⟨G2, Gr.refl s2, Dp.int _⟩
    · rw [List.length_map, upto_len] at hi
      exact hi⟩
theorem wk_range2 {tg : Expr} {p : Pos} {i0 j : Int} (hm : X.mg "range" = none) (ha : Pv X a r (.d (.int i0))) (hb : Pv X b r (.d (.int j))) (hj : -(2 ^ 62) ≤ i0 ∧ i0 < 2 ^ 62 ∧ -(2 ^ 62) ≤ j ∧ j < 2 ^ 62) (hg : Gl X "range" := by rfl)
    (hs : starEach [a, b] X.env = [(false, eval a X.env), (false, eval b X.env)] := by rfl) (hs2 : starEach [b] X.env = [(false, eval b X.env)] := by rfl) :
    Wk X tg (.Call (.Name "range" p) [a, b] [] pos) r ((upto i0 (j - i0).toNat).map fun i => Dn.d (.int i)) := ⟨_, pi_range2 hg hm pa_w hs hs2, fun σ G H g n R k => wA_imp (pa_cons ha (pa_cons hb pa_nil hs2) (by rw [hs, hs2]) σ G H g n) fun vs H1 ⟨G1, k1, q1⟩ => by
  cases q1 with
  | cons a1 a2 =>
    cases a2 with
    | cons a2 a3 =>
      cases a3
      refine ⟨i0, j, by rw [den_int a1, den_int a2], hj, k _ G1 H1 k1 (fun i H2 e2 hi => ?_) (fun i G2 H2 v H3 e2 s2 y d hd => ?_) (fun i H2 e2 hi => ?_)⟩
      · rw [List.length_map, upto_len] at hi
        exact hi
      · obtain ⟨rfl, rfl⟩ := y
        rw [upto_get hd]
        exact ⟨G2, Gr.refl s2, Dp.int _⟩
      · rw [List.length_map, upto_len] at hi
        exact hi⟩

/-! #### targets -/
def wG (X : Cx) (tg : Expr) : TG := fun v σ H Q => ∀ (pins : List (Addr × Obj)) (s : Shared) (u : Value), L2.Inv X pins σ H s → RelV v u → wpAny (model X.prog X.w) X.A (assign tg X.env u) (fun _ s' => ∃ σ' H', L2.Inv X pins σ' H' s' ∧ Q σ' H') X.xe s
theorem pg_w {tg : Expr} : PG X tg (wG X tg) := ⟨fun pins s σ H v u Q I rv h => h pins s u I rv⟩
theorem wG_of {tg : Expr} {t : TG} {v : V} {σ : L2.St} {H : Hp} {Q : L2.St → Hp → Prop} (h : PG X tg t) (q : t v σ H Q) : wG X tg v σ H Q := fun pins s u I rv => h.run pins s σ H v u Q I rv q
theorem wG_imp {tg : Expr} {v : V} {σ : L2.St} {H : Hp} {Q Q' : L2.St → Hp → Prop} (h : wG X tg v σ H Q) (k : ∀ σ' H', Q σ' H' → Q' σ' H') : wG X tg v σ H Q' := fun pins s u I rv => thn (h pins s u I rv) fun _ _ ⟨σ', H', I', q⟩ => ⟨σ', H', I', k _ _ q⟩
/-- tg = a datum d: the environment r becomes r2, only the slots js are turned; the heap stays -/
def Pg (X : Cx) (tg : Expr) (r : Rho) (d : Dn) (r2 : Rho) (js : List Nat) : Prop := ∀ σ G H v, Ex G H → En X.K G σ r → Den X.K G v d → wG X tg v σ H fun σ2 H2 => H2 = H ∧ En X.K G σ2 r2 ∧ ∀ i, i ∉ js → σ2[i]? = σ[i]?
theorem pg_name (j : Nat) {x : Str} (hN : X.N.Nodup) (hi : X.N[j]? = some x := by rfl) (hx : Loc X.env.scope x := by first | exact Or.inl rfl | exact Or.inr rfl) (hf : X.fn x = true ∨ X.env.scope.names.lookup x = some .local := by first | exact .inl rfl | exact .inr rfl) :
    Pg X (.Name x pos) r d (r.set j (some d)) [j] := fun σ G H v g n q => wG_of (L2.pg_name hN hi hx hf) ⟨rfl, n.set j q, fun i hi => List.getElem?_set_ne (by simpa using fun z => hi (by simp [z]))⟩
/-- targets one after another -/
def wGs (X : Cx) (ts : List Expr) : TGs := fun vs σ H Q => ∀ (pins : List (Addr × Obj)) (s : Shared) (us : List Value), L2.Inv X pins σ H s → Vals vs us → wpAny (model X.prog X.w) X.A (assignInOrder ((assignEach ts X.env).map (·.2)) us) (fun _ s' => ∃ σ' H', L2.Inv X pins σ' H' s' ∧ Q σ' H') X.xe s
theorem pgs_w {ts : List Expr} : PGs X ts (wGs X ts) := ⟨fun pins s σ H vs us Q I rv h => h pins s us I rv⟩
theorem wGs_of {ts : List Expr} {t : TGs} {vs : List V} {σ : L2.St} {H : Hp} {Q : L2.St → Hp → Prop} (h : PGs X ts t) (q : t vs σ H Q) : wGs X ts vs σ H Q := fun pins s us I rv => h.run pins s σ H vs us Q I rv q
theorem wGs_imp {ts : List Expr} {vs : List V} {σ : L2.St} {H : Hp} {Q Q' : L2.St → Hp → Prop} (h : wGs X ts vs σ H Q) (k : ∀ σ' H', Q σ' H' → Q' σ' H') : wGs X ts vs σ H Q' := fun pins s us I rv => thn (h pins s us I rv) fun _ _ ⟨σ', H', I', q⟩ => ⟨σ', H', I', k _ _ q⟩
def Pgs (X : Cx) (ts : List Expr) (r : Rho) (ds : List Dn) (r2 : Rho) (js : List Nat) : Prop := ∀ σ G H vs, Ex G H → En X.K G σ r → Dens X.K G vs ds → wGs X ts vs σ H fun σ2 H2 => H2 = H ∧ En X.K G σ2 r2 ∧ ∀ i, i ∉ js → σ2[i]? = σ[i]?
theorem pgs_nil : Pgs X [] r [] r [] := fun σ G H vs g n q => by
  cases q
  exact wGs_of L2.pgs_nil ⟨rfl, rfl, n, fun _ _ => rfl⟩
theorem pgs_cons {ts : List Expr} {ds : List Dn} {r2 r3 : Rho} {js ks : List Nat} (h1 : Pg X e r d r2 js) (h2 : Pgs X ts r2 ds r3 ks) (hs : (assignEach (e :: ts) X.env).map (·.2) = assign e X.env :: (assignEach ts X.env).map (·.2) := by rfl) : Pgs X (e :: ts) r (d :: ds) r3 (js ++ ks) := fun σ G H vs g n q => by
  cases q with
  | cons q1 q2 =>
    refine wGs_of (L2.pgs_cons pg_w pgs_w hs) ⟨_, _, rfl, wG_imp (h1 σ G H _ g n q1) fun σ1 H1 ⟨e1, n1, k1⟩ => ?_⟩
    subst e1
    refine wGs_imp (h2 σ1 G H1 _ g n1 q2) fun σ2 H2 ⟨e2, n2, k2⟩ => ⟨e2, n2, fun i hi => ?_⟩
    rw [List.mem_append, not_or] at hi
    exact (k2 i hi.2).trans (k1 i hi.1)
theorem pg_tup {ts : List Expr} {k : Nat} {xs : List PyData} {r2 : Rho} {js : List Nat} (hc : X.calm = true) (h : Pgs X ts r (xs.map Dn.d) r2 js) (hn : (assignEach ts X.env).length = xs.length := by rfl) (hst : (assignEach ts X.env).findIdx? (·.1) = none := by rfl) :
    Pg X (.Tuple ts k pos) r (.d (.tuple xs)) r2 js := fun σ G H v g n q => by
  cases q with
  | tup h1 h2 => exact wG_of (L2.pg_tup hc pgs_w hn hst) ⟨_, _, rfl, ex_t g h1, DpAll.len h2, h σ G H _ g n (Dens.of h2)⟩

/-! #### list comprehensions -/
def wTs (X : Cx) (ifs : List Expr) : TT := fun σ H Q => ∀ (pins : List (Addr × Obj)) (s : Shared), L2.Inv X pins σ H s →
  wpAny (model X.prog X.w) X.A (forIn ifs true fun c r => if r = true then do let ok ← isTrue c X.env (eval c X.env); pure (ForInStep.yield ok) else pure (ForInStep.yield r)) (TP X pins σ Q) X.xe s
theorem wTs_of {ifs : List Expr} {t : TT} {σ : L2.St} {H : Hp} {Q : Bool → Hp → Prop} (h : PTs X ifs t) (q : t σ H Q) : wTs X ifs σ H Q := fun pins s I => h.run pins s σ H Q I q
theorem wTs_imp {ifs : List Expr} {σ : L2.St} {H : Hp} {Q Q' : Bool → Hp → Prop} (h : wTs X ifs σ H Q) (k : ∀ v H', Q v H' → Q' v H') : wTs X ifs σ H Q' := fun pins sh I => thn (h pins sh I) fun _ _ ⟨H', I', q⟩ => ⟨H', I', k _ H' q⟩
def Pts (X : Cx) (ifs : List Expr) (r : Rho) (b : Bool) : Prop := ∀ σ G H, Ex G H → En X.K G σ r → wTs X ifs σ H fun c H2 => ∃ G2, Gr G H G2 H2 ∧ c = b
theorem pts_nil : Pts X [] r true := fun σ G H g n => wTs_of L2.pts_nil ⟨G, Gr.refl g, rfl⟩
theorem pts_one {p : Bool} (h : Pt X c r p) : Pts X [c] r p := fun σ G H g n => wTs_of (L2.pts_one pt_w) (h σ G H g n)
theorem wipe_in {σ : L2.St} {i : Nat} : ∀ {vs : List Nat}, i ∈ vs → (wipe σ vs)[i]? = if i < σ.length then some none else none
  | v :: vs, h => by
    unfold wipe
    by_cases hv : v = i
    · subst hv
      by_cases hl : v < σ.length
      · rw [if_pos hl, List.getElem?_set_self (by rw [wipe_length]; exact hl)]
      · rw [if_neg hl, List.getElem?_eq_none (by rw [List.length_set, wipe_length]; omega)]
    · rw [List.getElem?_set_ne hv]
      exact wipe_in (by rcases List.mem_cons.mp h with e | e; exact absurd e.symm hv; exact e)
theorem wipe_eq {σ σ2 : L2.St} {vs : List Nat} (hl : σ2.length = σ.length) (h : ∀ i, i ∉ vs → σ2[i]? = (wipe σ vs)[i]?) : wipe σ2 vs = wipe σ vs := by
  refine List.ext_getElem? fun i => ?_
  by_cases hi : i ∈ vs
  · rw [wipe_in hi, wipe_in hi, hl]
  · rw [wipe_out hi]
    exact h i hi
theorem take_succ {al : Type} : ∀ {l : List al} {i : Nat} {x : al}, l[i]? = some x → l.take (i + 1) = l.take i ++ [x]
  | [], i, x, h => by simp at h
  | a :: l, 0, x, h => by
    have e : a = x := Option.some.inj h
    subst e
    rfl
  | a :: l, i + 1, x, h => by
    have ih := take_succ (l := l) (i := i) (x := x) h
    show a :: l.take (i + 1) = a :: l.take i ++ [x]
    rw [ih]
    rfl
/-- a comprehension's block, whatever it starts at -/
abbrev Blk (X : Cx) (scope : Scope) (P : Cx → Prop) : Prop := ∀ (s : Shared) (H : Hp) (C : Addr) (cl : List (Str × Addr)) (fp : List Addr), P (X.blk s H scope (compEnvC scope cl C X.env) fp)
/-- the comprehension's own readings, whatever block it runs in -/
def bG (X : Cx) (scope : Scope) (tg : Expr) : TG := fun v σ H Q => ∀ (s0 : Shared) (H0 : Hp) (C : Addr) (cl : List (Str × Addr)) (fp : List Addr), wG (X.blk s0 H0 scope (compEnvC scope cl C X.env) fp) tg v σ H Q
def bTs (X : Cx) (scope : Scope) (ifs : List Expr) : TT := fun σ H Q => ∀ (s0 : Shared) (H0 : Hp) (C : Addr) (cl : List (Str × Addr)) (fp : List Addr), wTs (X.blk s0 H0 scope (compEnvC scope cl C X.env) fp) ifs σ H Q
def bE (X : Cx) (scope : Scope) (elt : Expr) : TE := fun σ H Q => ∀ (s0 : Shared) (H0 : Hp) (C : Addr) (cl : List (Str × Addr)) (fp : List Addr), wE (X.blk s0 H0 scope (compEnvC scope cl C X.env) fp) elt σ H Q
theorem bG_ok {scope : Scope} {tg : Expr} (s0 : Shared) (H0 : Hp) (C : Addr) (cl : List (Str × Addr)) (fp : List Addr) : PG (X.blk s0 H0 scope (compEnvC scope cl C X.env) fp) tg (bG X scope tg) := ⟨fun pins s σ H v u Q I rv h => h s0 H0 C cl fp pins s u I rv⟩
theorem bTs_ok {scope : Scope} {ifs : List Expr} (s0 : Shared) (H0 : Hp) (C : Addr) (cl : List (Str × Addr)) (fp : List Addr) : PTs (X.blk s0 H0 scope (compEnvC scope cl C X.env) fp) ifs (bTs X scope ifs) := ⟨fun pins s σ H Q I h => h s0 H0 C cl fp pins s I⟩
theorem bE_ok {scope : Scope} {elt : Expr} (s0 : Shared) (H0 : Hp) (C : Addr) (cl : List (Str × Addr)) (fp : List Addr) : PE (X.blk s0 H0 scope (compEnvC scope cl C X.env) fp) elt (bE X scope elt) := ⟨fun pins s σ H Q I h => h s0 H0 C cl fp pins s I⟩
theorem lc_data {al : Type} {elt tg : Expr} {ifs : List Expr} {scope : Scope} {own : List (Str × Nat)} {js : List Nat} {xs : List al} {enc : al → Dn} {p : al → Bool} {f : al → PyData} {r2 : al → Rho} {wi : TI}
    (hwi : ∀ σ G H, Ex G H → En X.K G σ r → ∀ R : It → Hp → Prop, (∀ J G1 H1, Gr G H G1 H1 → (∀ i H2, Ex G1 H2 → i < (xs.map enc).length → J.go i H2) → (∀ i G2 H2 x H3, Ex G1 G2 → Ex G2 H2 → J.yld i H2 x H3 → ∀ d, (xs.map enc)[i]? = some d → ∃ G3, Gr G2 H2 G3 H3 ∧ Den X.K G3 x d) → (∀ i H2, Ex G1 H2 → (xs.map enc).length ≤ i → J.stop i H2) → R J H1) → wi σ H R)
    (hg : ∀ x, x ∈ xs → Blk X scope fun Y => Pg Y tg (wipeR r (own.map (·.2))) (enc x) (r2 x) js) (ht : ∀ x, x ∈ xs → Blk X scope fun Y => Pts Y ifs (r2 x) (p x)) (he : ∀ x, x ∈ xs → p x = true → Blk X scope fun Y => Pv Y elt (r2 x) (.d (f x)))
    (hl : xs.length ≤ 100000) (hj : ∀ j, j ∈ js → j ∈ own.map (·.2)) (hlen : ∀ x, x ∈ xs → (r2 x).length = r.length) {σ : L2.St} {G H : Hp} (g : Ex G H) (n : En X.K G σ r) {Q : VK} (hQ : ∀ v G2 H2, Gr G H G2 H2 → Den X.K G2 v (.d (.list ((xs.filter p).map f))) → Q v H2) :
    tLc wi (bG X scope tg) (bTs X scope ifs) (bE X scope elt) (own.map (·.2)) σ H Q := by
  refine hwi σ G H g n _ fun J G1 H1 k1 hgo hyl hst => fun D hD => ?_
  have hDG : G1 D = none := fresh_back k1.s hD
  rw [List.length_map] at hgo hst
  -- the invariant: behind i turns the list at D, which G2 does not know
  refine ⟨fun i m H2 => m = xs.length - i ∧ i ≤ xs.length ∧ Ex H1 H2 ∧ ∃ G2 vs, Ex G1 G2 ∧ Ex G2 H2 ∧ G2 D = none ∧ (∀ a, G1 a = none → G2 a ≠ none → H1 a = none) ∧ H2 D = some (.lst vs) ∧ DpAll X.K G2 vs (((xs.take i).filter p).map f),
    ⟨xs.length, by simp, Nat.zero_le _, Ex.new hD, G1, [], Ex.refl _, k1.s.trans (Ex.new hD), hDG, fun a h1 h2 => absurd h1 h2, upd_same, .nil⟩, ?_⟩
  rintro i m H2 ⟨rfl, hi2, e12, G2, vs, e1, s2, d2, f2, hD2, hv⟩
  by_cases hlt : i < xs.length
  · obtain ⟨x, hx⟩ : ∃ x, xs[i]? = some x := ⟨xs[i], List.getElem?_eq_getElem hlt⟩
    have hmem : x ∈ xs := List.mem_of_getElem? hx
    refine .inr ⟨hgo i H2 (e1.trans s2) hlt, fun H' => Ex H1 H' ∧ ∃ G3 vs', Ex G1 G3 ∧ Ex G3 H' ∧ G3 D = none ∧ (∀ a, G1 a = none → G3 a ≠ none → H1 a = none) ∧ H' D = some (.lst vs') ∧ DpAll X.K G3 vs' (((xs.take (i + 1)).filter p).map f), fun H' ⟨q0, q⟩ => ⟨xs.length - (i + 1), by omega, rfl, hlt, q0, q⟩, fun v H3 yl => ?_⟩
    obtain ⟨G3, k3, q3⟩ := hyl i G2 H2 v H3 e1 s2 yl (enc x) (by rw [List.getElem?_map, hx]; rfl)
    have hN3 : En X.K G3 σ r := n.up ((k1.g.trans e1).trans k3.g)
    have frD : ∀ {A B A' B' : Hp}, Gr A B A' B' → A D = none → B D ≠ none → A' D = none := fun {A B A' B'} k hA hB => by
      cases q : A' D with
      | none => rfl
      | some o => exact absurd (k.f D hA (by rw [q]; exact fun z => nomatch z)) hB
    have d3 : G3 D = none := frD k3 d2 (by rw [hD2]; exact fun z => nomatch z)
    have hD3 : H3 D = some (.lst vs) := k3.h D _ hD2
    have f3 : ∀ a, G1 a = none → G3 a ≠ none → H1 a = none := fun a h1 h2 => by
      cases q : G2 a with
      | none => exact fresh_back e12 (k3.f a q h2)
      | some o => exact f2 a h1 (by rw [q]; exact fun z => nomatch z)
    have hv3 : DpAll X.K G3 vs (((xs.take i).filter p).map f) := dpAll_up k3.g _ _ hv
    have ht1 : xs.take (i + 1) = xs.take i ++ [x] := take_succ hx
    intro s0 H0 C cl fp
    refine wG_imp (hg x hmem s0 H0 C cl fp (wipe σ (own.map (·.2))) G3 H3 v k3.s (hN3.wipe _) q3) fun σ2 H4 ⟨e4, n4, keep4⟩ => ?_
    subst e4
    refine ⟨wipe_eq (by rw [n4.len, hlen x hmem, n.len]) fun j hj' => keep4 j fun z => hj' (hj j z), fun s0 H0 C cl fp => ?_⟩
    refine wTs_imp (ht x hmem s0 H0 C cl fp σ2 G3 H4 k3.s n4) fun bb H5 ⟨G5, k5, q5⟩ => ?_
    subst q5
    have d5 : G5 D = none := frD k5 d3 (by rw [hD3]; exact fun z => nomatch z)
    have hD5 : H5 D = some (.lst vs) := k5.h D _ hD3
    have f5 : ∀ a, G1 a = none → G5 a ≠ none → H1 a = none := fun a h1 h2 => by
      cases q : G3 a with
      | none => exact fresh_back (e12.trans k3.h) (k5.f a q h2)
      | some o => exact f3 a h1 (by rw [q]; exact fun z => nomatch z)
    cases hp : p x with
    | false =>
      show _ ∧ _
      rw [ht1, List.filter_append, List.filter_cons, if_neg (by rw [hp]; decide)]
      refine ⟨(e12.trans k3.h).trans k5.h, G5, vs, (e1.trans k3.g).trans k5.g, k5.s, d5, f5, hD5, ?_⟩
      rw [List.filter_nil, List.append_nil]
      exact dpAll_up k5.g _ _ hv3
    | true =>
      show bE X scope elt _ _ _
      intro s0 H0 C cl fp
      refine wE_imp (he x hmem hp s0 H0 C cl fp σ2 G5 H5 k5.s (n4.up k5.g)) fun y H6 ⟨G6, k6, q6⟩ => ?_
      have d6 : G6 D = none := frD k6 d5 (by rw [hD5]; exact fun z => nomatch z)
      have hD6 : H6 D = some (.lst vs) := k6.h D _ hD5
      have hvl := DpAll.len hv3
      refine ⟨vs, hD6, sz_lt ?_, fun a o ha => ?_, G6, vs ++ [y], ((e1.trans k3.g).trans k5.g).trans k6.g, k6.s.mut d6, d6, fun a h1 h2 => ?_, upd_same, ?_⟩
      · rw [hvl, List.length_map]
        have := List.length_filter_le p (xs.take i)
        rw [List.length_take] at this
        omega
      · have hne : a ≠ D := fun z => by rw [z, hD] at ha; cases ha
        rw [upd_ne hne]
        exact k6.h a o (k5.h a o (k3.h a o (e12 a o ha)))
      · cases q : G5 a with
        | none => exact fresh_back ((e12.trans k3.h).trans k5.h) (k6.f a q h2)
        | some o => exact f5 a h1 (by rw [q]; exact fun z => nomatch z)
      · rw [ht1, List.filter_append, List.filter_cons, if_pos hp, List.filter_nil, List.map_append]
        exact DpAll.app (dpAll_up (k5.g.trans k6.g) _ _ hv3) (.cons q6 .nil)
  · have hi3 : i = xs.length := by omega
    subst hi3
    rw [List.take_length] at hv
    refine .inl ⟨hst _ H2 (e1.trans s2) (Nat.le_refl _), hQ _ (upd G2 D (.lst vs)) _ ⟨(k1.g.trans e1).trans (Ex.new d2), fun a o h => ?_, k1.h.trans e12, fun a h1 h2 => ?_⟩ (Dp.lst (.inl upd_same) (dpAll_up (Ex.new d2) _ _ hv))⟩
    · by_cases ha : a = D
      · subst ha
        rw [upd_same] at h
        rw [hD2]
        exact h
      · rw [upd_ne ha] at h
        exact s2 a o h
    · by_cases ha : a = D
      · rw [ha]
        exact fresh_back k1.h hD
      · rw [upd_ne ha] at h2
        cases q : G1 a with
        | none => exact fresh_back k1.h (f2 a q h2)
        | some o => exact k1.f a h1 (by rw [q]; exact fun z => nomatch z)
theorem pv_lc {al : Type} {elt tg iter : Expr} {ifs : List Expr} {scope : Scope} (own : List (Str × Nat)) {js : List Nat} {xs : List al} {enc : al → Dn} (p : al → Bool) (f : al → PyData) (r2 : al → Rho) (hc : X.calm = true) (hN : X.N.Nodup) (hw : Wk X tg iter r (xs.map enc)) (ok : BlkOk X.N X.env.scope scope own)
    (hg : ∀ x, x ∈ xs → Blk X scope fun Y => Pg Y tg (wipeR r (own.map (·.2))) (enc x) (r2 x) js) (ht : ∀ x, x ∈ xs → Blk X scope fun Y => Pts Y ifs (r2 x) (p x)) (he : ∀ x, x ∈ xs → p x = true → Blk X scope fun Y => Pv Y elt (r2 x) (.d (f x)))
    (hl : xs.length ≤ 100000) (hj : ∀ j, j ∈ js → j ∈ own.map (·.2)) (hlen : ∀ x, x ∈ xs → (r2 x).length = r.length) (hs : ∀ x, foldedSetIterable iter X.env x = pure x := by intro _; rfl) : Pv X (.ListComp elt [⟨tg, iter, ifs, 0⟩] scope pos) r (.d (.list ((xs.filter p).map f))) := by
  obtain ⟨wi, hi, hwi⟩ := hw
  intro σ G H g n
  exact wE_of (pe_lc hc hN hi ok bG_ok bTs_ok bE_ok hs) (lc_data hwi hg ht he hl hj hlen g n fun v G2 H2 k q => ⟨G2, k, q⟩)
end
end Fb

/-! FbC: calls (own defs, built-ins) and statements, by data. -/
namespace Fb
open PySem L2 Evl
section
variable {X : Cx} {a b c e o : Expr} {es rest : List Expr} {r : Rho} {d d1 d2 d3 : Dn} {pos p : Pos}

/-! #### built-ins -/
abbrev CallD (K : PySem.W.Frag) (f : List V → Hp → VK → Prop) (ds : List Dn) (d : Dn) : Prop := ∀ vs G H (Q : VK), Ex G H → Dens K G vs ds → (∀ v G' H', Gr G H G' H' → Den K G' v d → Q v H') → f vs H Q
theorem pv_callB {x : Str} {id : String} {f : List V → Hp → VK → Prop} {ds : List Dn} (hc : CallR X (.builtin id) f) (hg : Gl X x) (hm : X.mg x = none) (hv : bootBuiltins x = some (.builtin id)) (ha : Pa X (e :: es) r ds) (hr : CallD X.K f ds d)
    (hn : x ≠ "__name__" := by decide) (hdb : (x == ("__debug__" : Str)) = false := by decide) (he : starEach (e :: es) X.env = (false, eval e X.env) :: starEach es X.env := by rfl) (hpl : (backTo pos (starEach es X.env)).any (·.1) = false := by rfl) :
    Pv X (.Call (.Name x p) (e :: es) [] pos) r d := fun σ G H g n =>
  wE_of (pe_callB hc hg hm hv pa_w hn hdb he hpl) (wA_imp (ha σ G H g n) fun vs H1 ⟨G1, k1, q1⟩ => hr vs G1 H1 _ k1.s q1 fun v G2 H2 k2 q2 => ⟨G2, k1.trans k2, q2⟩)
theorem pv_callTy {x : Str} {T : String} {f : List V → Hp → VK → Prop} {ds : List Dn} (hc : CallR X (.type T) f) (hg : Gl X x) (hm : X.mg x = none) (hv : bootBuiltins x = some (.type T)) (ha : Pa X (e :: es) r ds) (hr : CallD X.K f ds d)
    (hn : x ≠ "__name__" := by decide) (hdb : (x == ("__debug__" : Str)) = false := by decide) (he : starEach (e :: es) X.env = (false, eval e X.env) :: starEach es X.env := by rfl) (hpl : (backTo pos (starEach es X.env)).any (·.1) = false := by rfl) :
    Pv X (.Call (.Name x p) (e :: es) [] pos) r d := fun σ G H g n =>
  wE_of (pe_callTy hc hg hm hv pa_w hn hdb he hpl) (wA_imp (ha σ G H g n) fun vs H1 ⟨G1, k1, q1⟩ => hr vs G1 H1 _ k1.s q1 fun v G2 H2 k2 q2 => ⟨G2, k1.trans k2, q2⟩)
theorem dens1 {K : PySem.W.Frag} {H : Hp} {vs : List V} (h : Dens K H vs [d]) : ∃ v, vs = [v] ∧ Den K H v d := by
  cases h with
  | cons h1 h2 => cases h2; exact ⟨_, rfl, h1⟩
theorem dens2 {K : PySem.W.Frag} {H : Hp} {vs : List V} (h : Dens K H vs [d, d1]) : ∃ v w, vs = [v, w] ∧ Den K H v d ∧ Den K H w d1 := by
  cases h with
  | cons h1 h2 =>
    obtain ⟨w, rfl, h3⟩ := dens1 h2
    exact ⟨_, w, rfl, h1, h3⟩
/-- len -/
def lenD : PyData → Option Nat
  | .str y => some y.length
  | .list xs => some xs.length
  | .tuple xs => some xs.length
  | _ => none
theorem lenV_of {K : PySem.W.Frag} {H : Hp} {x : V} {y : PyData} {n : Nat} (h : Dp K H x y) (hs : strOk y) (hn : lenD y = some n) : LenV K x H n := by
  cases h with
  | str z => cases hn; exact ⟨hs, rfl⟩
  | lst h1 h2 => cases hn; exact .inl ⟨_, .inl h1, (DpAll.len h2).symm⟩
  | tup h1 h2 => cases hn; exact .inr ⟨_, h1, (DpAll.len h2).symm⟩
  | _ => cases hn
theorem pv_len {y : PyData} {n : Nat} (hm : X.mg "len" = none) (ha : Pv X a r (.d y)) (hn : lenD y = some n) (hs : strOk y := by trivial) (hg : Gl X "len" := by rfl) (he : starEach [a] X.env = (false, eval a X.env) :: starEach [] X.env := by rfl) (hpl : (backTo pos (starEach [] X.env)).any (·.1) = false := by rfl) :
    Pv X (.Call (.Name "len" p) [a] [] pos) r (.d (.int n)) :=
  pv_callB call_len hg hm PySem.boot_len (pa_cons ha pa_nil he) (fun vs G H Q g hd k => by
    obtain ⟨v, rfl, hv⟩ := dens1 hd
    exact ⟨v, n, rfl, lenV_of (dp_up g _ _ hv) hs hn, k _ G H (Gr.refl g) (Dp.int _)⟩) (he := he) (hpl := hpl)
/-- isinstance with a built-in class -/
def tyD : PyData → String
  | .none => "NoneType"
  | .bool _ => "bool"
  | .int _ => "int"
  | .str _ => "str"
  | .list _ => "list"
  | .tuple _ => "tuple"
  | .dict _ => "dict"
theorem tyX_of {K : PySem.W.Frag} {H : Hp} {x : V} {y : PyData} (h : Dp K H x y) : TyX K H x (.type (tyD y)) := by
  cases h with
  | non => exact .base .non
  | bl b => exact .base (.bl b)
  | int i => exact .base (.int i)
  | str z => exact .base (.str z)
  | lst h1 h2 =>
    rcases h1 with h1 | ⟨o, h1⟩
    · exact .base (.lst h1)
    · exact .base (.frz h1)
  | tup h1 h2 =>
    rcases h1 with (h1 | ⟨o, h1⟩) | ⟨o, its, n, hk, hc, _⟩
    · exact .base (.tup h1)
    · exact .fTuple h1
    · exact .kTuple hk hc
theorem pv_ty {x : Str} {T : String} (hm : X.mg x = none) (hv : bootBuiltins x = some (.type T)) (hg : Gl X x := by rfl) (hn : x ≠ "__name__" := by decide) (hd : (x == ("__debug__" : Str)) = false := by decide) : Pv X (.Name x pos) r (.v (.ty T)) := fun σ G H g _ =>
  wE_of (pe_bltn hg hm hv (v := .ty T) rfl hn hd) ⟨G, Gr.refl g, rfl⟩
theorem pv_isi {y : PyData} {T : String} {k : Bool} (hm : X.mg "isinstance" = none) (ha : Pv X a r (.d y)) (hb : Pv X b r (.v (.ty T))) (hk : kitB (tyD y) T = some k)
    (hg : Gl X "isinstance" := by rfl) (he : starEach [a, b] X.env = (false, eval a X.env) :: starEach [b] X.env := by rfl) (he2 : starEach [b] X.env = (false, eval b X.env) :: starEach [] X.env := by rfl) (hpl : (backTo pos (starEach [b] X.env)).any (·.1) = false := by rfl) :
    Pv X (.Call (.Name "isinstance" p) [a, b] [] pos) r (.d (.bool k)) :=
  pv_callB call_isi hg hm PyProof.Rows.boot_isinstance (pa_cons ha (pa_cons hb pa_nil he2) he) (fun vs G H Q g hd kk => by
    obtain ⟨v, w, rfl, hv, hw⟩ := dens2 hd
    have hw' : w = .ty T := hw
    subst hw'
    exact ⟨v, _, _, _, k, rfl, .ty T, tyX_of (dp_up g _ _ hv), kit_ty hk, kk _ G H (Gr.refl g) (Dp.bl _)⟩) (he := he) (hpl := hpl)
def isTup : PyData → Bool
  | .tuple _ => true
  | _ => false
def isStr : PyData → Bool
  | .str _ => true
  | _ => false
def isBool : PyData → Bool
  | .bool _ => true
  | _ => false
def isInt : PyData → Bool
  | .int _ => true
  | .bool _ => true
  | _ => false
def isList : PyData → Bool
  | .list _ => true
  | _ => false
theorem kit_tup : ∀ y : PyData, kitB (tyD y) "tuple" = some (isTup y)
  | .none => (by decide +kernel : kitB "NoneType" "tuple" = some false)
  | .bool _ => (by decide +kernel : kitB "bool" "tuple" = some false)
  | .int _ => (by decide +kernel : kitB "int" "tuple" = some false)
  | .str _ => (by decide +kernel : kitB "str" "tuple" = some false)
  | .list _ => (by decide +kernel : kitB "list" "tuple" = some false)
  | .tuple _ => (by decide +kernel : kitB "tuple" "tuple" = some true)
  | .dict _ => (by decide +kernel : kitB "dict" "tuple" = some false)
theorem kit_str : ∀ y : PyData, kitB (tyD y) "str" = some (isStr y)
  | .none => (by decide +kernel : kitB "NoneType" "str" = some false)
  | .bool _ => (by decide +kernel : kitB "bool" "str" = some false)
  | .int _ => (by decide +kernel : kitB "int" "str" = some false)
  | .str _ => (by decide +kernel : kitB "str" "str" = some true)
  | .list _ => (by decide +kernel : kitB "list" "str" = some false)
  | .tuple _ => (by decide +kernel : kitB "tuple" "str" = some false)
  | .dict _ => (by decide +kernel : kitB "dict" "str" = some false)
theorem kit_bool : ∀ y : PyData, kitB (tyD y) "bool" = some (isBool y)
  | .none => (by decide +kernel : kitB "NoneType" "bool" = some false)
  | .bool _ => (by decide +kernel : kitB "bool" "bool" = some true)
  | .int _ => (by decide +kernel : kitB "int" "bool" = some false)
  | .str _ => (by decide +kernel : kitB "str" "bool" = some false)
  | .list _ => (by decide +kernel : kitB "list" "bool" = some false)
  | .tuple _ => (by decide +kernel : kitB "tuple" "bool" = some false)
  | .dict _ => (by decide +kernel : kitB "dict" "bool" = some false)
theorem kit_int : ∀ y : PyData, kitB (tyD y) "int" = some (isInt y)
  | .none => (by decide +kernel : kitB "NoneType" "int" = some false)
  | .bool _ => (by decide +kernel : kitB "bool" "int" = some true)
  | .int _ => (by decide +kernel : kitB "int" "int" = some true)
  | .str _ => (by decide +kernel : kitB "str" "int" = some false)
  | .list _ => (by decide +kernel : kitB "list" "int" = some false)
  | .tuple _ => (by decide +kernel : kitB "tuple" "int" = some false)
  | .dict _ => (by decide +kernel : kitB "dict" "int" = some false)
theorem kit_list : ∀ y : PyData, kitB (tyD y) "list" = some (isList y)
  | .none => (by decide +kernel : kitB "NoneType" "list" = some false)
  | .bool _ => (by decide +kernel : kitB "bool" "list" = some false)
  | .int _ => (by decide +kernel : kitB "int" "list" = some false)
  | .str _ => (by decide +kernel : kitB "str" "list" = some false)
  | .list _ => (by decide +kernel : kitB "list" "list" = some true)
  | .tuple _ => (by decide +kernel : kitB "tuple" "list" = some false)
  | .dict _ => (by decide +kernel : kitB "dict" "list" = some false)
/-- abs, max, min of two ints, int of a truth value -/
theorem pv_abs {i : Int} (hm : X.mg "abs" = none) (ha : Pv X a r (.d (.int i))) (hg : Gl X "abs" := by rfl) (he : starEach [a] X.env = (false, eval a X.env) :: starEach [] X.env := by rfl) (hpl : (backTo pos (starEach [] X.env)).any (·.1) = false := by rfl) :
    Pv X (.Call (.Name "abs" p) [a] [] pos) r (.d (.int (if i < 0 then -i else i))) :=
  pv_callB call_abs hg hm PyProof.Rows.boot_abs (pa_cons ha pa_nil he) (fun vs G H Q g hd k => by
    obtain ⟨v, rfl, hv⟩ := dens1 hd
    exact ⟨i, by rw [den_int hv], k _ G H (Gr.refl g) (Dp.int _)⟩) (he := he) (hpl := hpl)
theorem pv_max2 {i j : Int} (hm : X.mg "max" = none) (ha : Pv X a r (.d (.int i))) (hb : Pv X b r (.d (.int j)))
    (hc : X.calm = true := by rfl) (hg : Gl X "max" := by rfl) (he : starEach [a, b] X.env = (false, eval a X.env) :: starEach [b] X.env := by rfl) (he2 : starEach [b] X.env = (false, eval b X.env) :: starEach [] X.env := by rfl) (hpl : (backTo pos (starEach [b] X.env)).any (·.1) = false := by rfl) :
    Pv X (.Call (.Name "max" p) [a, b] [] pos) r (.d (.int (if j > i then j else i))) :=
  pv_callB (call_max2 hc) hg hm PyProof.Rows.boot_max (pa_cons ha (pa_cons hb pa_nil he2) he) (fun vs G H Q g hd k => by
    obtain ⟨v, w, rfl, hv, hw⟩ := dens2 hd
    exact ⟨i, j, by rw [den_int hv, den_int hw], k _ G H (Gr.refl g) (Dp.int _)⟩) (he := he) (hpl := hpl)
theorem pv_min2 {i j : Int} (hm : X.mg "min" = none) (ha : Pv X a r (.d (.int i))) (hb : Pv X b r (.d (.int j)))
    (hc : X.calm = true := by rfl) (hg : Gl X "min" := by rfl) (he : starEach [a, b] X.env = (false, eval a X.env) :: starEach [b] X.env := by rfl) (he2 : starEach [b] X.env = (false, eval b X.env) :: starEach [] X.env := by rfl) (hpl : (backTo pos (starEach [b] X.env)).any (·.1) = false := by rfl) :
    Pv X (.Call (.Name "min" p) [a, b] [] pos) r (.d (.int (if j < i then j else i))) :=
  pv_callB (call_min2 hc) hg hm PyProof.Rows.boot_min (pa_cons ha (pa_cons hb pa_nil he2) he) (fun vs G H Q g hd k => by
    obtain ⟨v, w, rfl, hv, hw⟩ := dens2 hd
    exact ⟨i, j, by rw [den_int hv, den_int hw], k _ G H (Gr.refl g) (Dp.int _)⟩) (he := he) (hpl := hpl)
theorem pv_intb {i : Bool} (hm : X.mg "int" = none) (ha : Pv X a r (.d (.bool i))) (hg : Gl X "int" := by rfl) (he : starEach [a] X.env = (false, eval a X.env) :: starEach [] X.env := by rfl) (hpl : (backTo pos (starEach [] X.env)).any (·.1) = false := by rfl) :
    Pv X (.Call (.Name "int" p) [a] [] pos) r (.d (.int (if i then 1 else 0))) :=
  pv_callTy call_int1 hg hm PyProof.Rows.boot_int (pa_cons ha pa_nil he) (fun vs G H Q g hd k => by
    obtain ⟨v, rfl, hv⟩ := dens1 hd
    exact .inr ⟨i, by rw [den_bool hv], k _ G H (Gr.refl g) (Dp.int _)⟩) (he := he) (hpl := hpl)
/-- tuple(list), list(tuple or list) -/
theorem pv_tupleL {xs : List PyData} (hm : X.mg "tuple" = none) (ha : Pv X a r (.d (.list xs))) (hg : Gl X "tuple" := by rfl) (he : starEach [a] X.env = (false, eval a X.env) :: starEach [] X.env := by rfl) (hpl : (backTo pos (starEach [] X.env)).any (·.1) = false := by rfl) :
    Pv X (.Call (.Name "tuple" p) [a] [] pos) r (.d (.tuple xs)) :=
  pv_callTy call_tuple_of hg hm PyProof.Rows.boot_tuple (pa_cons ha pa_nil he) (fun vs G H Q g hd k => by
    obtain ⟨v, rfl, hv⟩ := dens1 hd
    cases hv with
    | lst h1 h2 => exact ⟨_, _, rfl, .inl ⟨.inl (ex_rd g h1), fun l hl => k _ _ _ (Gr.new g hl) (Dp.tup (st_of upd_same) (dpAll_up (Ex.new (fresh_back g hl)) _ _ h2))⟩⟩) (he := he) (hpl := hpl)
theorem pv_tupleT {xs : List PyData} (hm : X.mg "tuple" = none) (ha : Pv X a r (.d (.tuple xs))) (hg : Gl X "tuple" := by rfl) (he : starEach [a] X.env = (false, eval a X.env) :: starEach [] X.env := by rfl) (hpl : (backTo pos (starEach [] X.env)).any (·.1) = false := by rfl) :
    Pv X (.Call (.Name "tuple" p) [a] [] pos) r (.d (.tuple xs)) :=
  pv_callTy call_tuple_of hg hm PyProof.Rows.boot_tuple (pa_cons ha pa_nil he) (fun vs G H Q g hd k => by
    obtain ⟨v, rfl, hv⟩ := dens1 hd
    cases hv with
    | tup h1 h2 => exact ⟨_, _, rfl, .inr ⟨ex_t g h1, k _ _ _ (Gr.refl g) (Dp.tup h1 h2)⟩⟩) (he := he) (hpl := hpl)
theorem pv_list {xs : List PyData} {y : PyData} (hy : y = .list xs ∨ y = .tuple xs) (hm : X.mg "list" = none) (ha : Pv X a r (.d y)) (hg : Gl X "list" := by rfl) (he : starEach [a] X.env = (false, eval a X.env) :: starEach [] X.env := by rfl) (hpl : (backTo pos (starEach [] X.env)).any (·.1) = false := by rfl) :
    Pv X (.Call (.Name "list" p) [a] [] pos) r (.d (.list xs)) :=
  pv_callTy call_list_of hg hm PyProof.Rows.boot_list (pa_cons ha pa_nil he) (fun vs G H Q g hd k => by
    obtain ⟨v, rfl, hv⟩ := dens1 hd
    rcases hy with rfl | rfl
    · cases hv with
      | lst h1 h2 => exact ⟨_, _, rfl, .inl (.inl (ex_rd g h1)), fun l hl => k _ _ _ (Gr.new g hl) (Dp.lst (.inl upd_same) (dpAll_up (Ex.new (fresh_back g hl)) _ _ h2))⟩
    · cases hv with
      | tup h1 h2 => exact ⟨_, _, rfl, .inr (ex_t g h1), fun l hl => k _ _ _ (Gr.new g hl) (Dp.lst (.inl upd_same) (dpAll_up (Ex.new (fresh_back g hl)) _ _ h2))⟩) (he := he) (hpl := hpl)

/-! #### + and * of lists -/
theorem lstR {pins : List (Addr × Obj)} {σ : L2.St} {H : Hp} {s : Shared} {l : Addr} {xs : List V} (I : L2.Inv X pins σ H s) (hH : Rd H l (.lst xs)) : xs.length ≤ sizeLine ∧ ∃ (its : List Value) (n : Nat), Vals xs its ∧ xs.length = its.length ∧ s.heap.get? l = some { cls := .type "list", data := .seq its.toArray n } := by
  obtain ⟨z, its, n, rr, e⟩ := hH.ok I.hok
  exact ⟨z, its, n, rr, rr.length, e⟩
def rCatR : R2 := fun x y H Q => ∃ l b xs zs, x = .ref l ∧ y = .ref b ∧ Rd H l (.lst xs) ∧ Rd H b (.lst zs) ∧ xs.length + zs.length ≤ sizeLine ∧ ∀ p, H p = none → Q (.ref p) (upd H p (.lst (xs ++ zs)))
theorem op_catR : OpR X (binaryOp .Add) rCatR := by
  intro pins s σ H x y v u Q I rx ry h
  obtain ⟨l, b, xs, zs, rfl, rfl, hH, hB, hz, q⟩ := h
  cases rx
  cases ry
  obtain ⟨z, its, n, rr, hl, e⟩ := lstR I hH
  obtain ⟨z2, its2, n2, r2, hl2, e2⟩ := lstR I hB
  refine PySem.P.add_list e e2 ?_ (by rw [List.size_toArray, List.size_toArray]; omega)
  have ea : its.toArray ++ its2.toArray = (its ++ its2).toArray := by simp
  rw [ea]
  exact ⟨.ref _, _, I.lnew (t' := s.toks) (rr.append r2) (by rw [List.length_append]; omega), rfl, q _ I.fresh⟩
theorem pv_catL {xs ys : List PyData} (ha : Pv X a r (.d (.list xs))) (hb : Pv X b r (.d (.list ys))) (hl : xs.length + ys.length ≤ 100000) : Pv X (.BinOp a .Add b pos) r (.d (.list (xs ++ ys))) :=
  pv_bin op_catR ha hb fun x y G H Q e h1 h2 k => by
    cases h1 with
    | lst s1 t1 =>
      cases h2 with
      | lst s2 t2 =>
        have l1 := DpAll.len t1
        have l2 := DpAll.len t2
        exact ⟨_, _, _, _, rfl, rfl, ex_rd e s1, ex_rd e s2, sz_of (by omega), fun p hp => k _ _ _ (Gr.new e hp) (Dp.lst (.inl upd_same) (dpAll_up (Ex.new (fresh_back e hp)) _ _ (DpAll.app t1 t2)))⟩
theorem dpAll_rep {K : PySem.W.Frag} {H : Hp} {vs : List V} {ds : List PyData} (h : DpAll K H vs ds) : ∀ n : Nat, DpAll K H (List.replicate n vs).flatten (List.replicate n ds).flatten
  | 0 => .nil
  | n + 1 => by
    rw [List.replicate_succ, List.replicate_succ, List.flatten_cons, List.flatten_cons]
    exact DpAll.app h (dpAll_rep h n)
/-- [..] * k, the list just written -/
theorem pv_repL {xs : List PyData} {k : Int} (ha : Pd X es r xs) (hb : Pv X b r (.d (.int k))) (hk : -(2 ^ 63) ≤ k ∧ k < 2 ^ 63) (hl : xs.length * k.toNat ≤ 100000) (hl1 : xs.length ≤ 100000 := by simp) {p2 : Pos} : Pv X (.BinOp (.List es p2) .Mult b pos) r (.d (.list (List.replicate k.toNat xs).flatten)) := fun σ G H g n =>
  wE_of (pe_op op_rep (pe_lst pa_w) pe_w) (wA_imp (ha σ G H g n) fun vs H1 ⟨G1, k1, q1⟩ => by
    have q := Dens.dp q1
    have hlen := DpAll.len q
    refine ⟨sz_of (by omega), fun p hp => ?_⟩
    have kn := Gr.new (o := .lst vs) k1.s hp
    refine wE_imp (hb σ _ _ kn.s ((n.up k1.g).up kn.g)) fun y H2 ⟨G2, k2, q2⟩ => ?_
    refine ⟨p, k, vs, rfl, den_int q2, k2.h _ _ upd_same, hk.1, hk.2, sz_of (by rw [hlen]; exact hl), fun l hl2 => ⟨_, ((k1.trans kn).trans k2).trans (Gr.new k2.s hl2), Dp.lst (.inl upd_same) (dpAll_up (kn.g.trans (k2.g.trans (Ex.new (fresh_back k2.s hl2)))) _ _ (dpAll_rep q _))⟩⟩)

/-! #### in, not in -/
/-- a text (or another flat thing) in a tuple, a list of flat things -/
def flatD : PyData → Bool
  | .none => true
  | .bool _ => true
  | .int _ => true
  | .str _ => true
  | _ => false
theorem pv_inD {x : PyData} {xs : List PyData} (hu : X.A.units + 65 < cLine) (ha : Pv X a r (.d x)) (hb : Pv X b r (.d (.list xs))) (h1 : SeqAt.shaped x = true) (h2 : SeqAt.shaped (.list xs) = true) (hm : behindInMarks .In b = false := by rfl) : Pv X (.Compare a [.In] [b] pos) r (.d (.bool (xs.any fun z => PyData.eqv z x))) :=
  pv_cmp (op_inD hu) ha hb (fun v w G H Q e q1 q2 k => ⟨x, xs, Dp.l2 _ _ (dp_up e _ _ q1), Dp.l2 _ _ (dp_up e _ _ q2), h1, h2, k _ G H (Gr.refl e) (Dp.bl _)⟩) hm
theorem pt_inD {x : PyData} {xs : List PyData} (hu : X.A.units + 65 < cLine) (ha : Pv X a r (.d x)) (hb : Pv X b r (.d (.list xs))) (h1 : SeqAt.shaped x = true) (h2 : SeqAt.shaped (.list xs) = true) (hm : behindInMarks .In b = false := by rfl) : Pt X (.Compare a [.In] [b] pos) r (xs.any fun z => PyData.eqv z x) :=
  pt_cmp (op_inD hu) ha hb (fun v w G H Q e q1 q2 k => ⟨x, xs, Dp.l2 _ _ (dp_up e _ _ q1), Dp.l2 _ _ (dp_up e _ _ q2), h1, h2, k _ G H (Gr.refl e) (Dp.bl _)⟩) hm
theorem pv_ninD {x : PyData} {xs : List PyData} (hu : X.A.units + 65 < cLine) (ha : Pv X a r (.d x)) (hb : Pv X b r (.d (.list xs))) (h1 : SeqAt.shaped x = true) (h2 : SeqAt.shaped (.list xs) = true) (hm : behindInMarks .NotIn b = false := by rfl) : Pv X (.Compare a [.NotIn] [b] pos) r (.d (.bool (!xs.any fun z => PyData.eqv z x))) :=
  pv_cmp (op_notInD hu) ha hb (fun v w G H Q e q1 q2 k => ⟨x, xs, Dp.l2 _ _ (dp_up e _ _ q1), Dp.l2 _ _ (dp_up e _ _ q2), h1, h2, k _ G H (Gr.refl e) (Dp.bl _)⟩) hm
theorem pt_ninD {x : PyData} {xs : List PyData} (hu : X.A.units + 65 < cLine) (ha : Pv X a r (.d x)) (hb : Pv X b r (.d (.list xs))) (h1 : SeqAt.shaped x = true) (h2 : SeqAt.shaped (.list xs) = true) (hm : behindInMarks .NotIn b = false := by rfl) : Pt X (.Compare a [.NotIn] [b] pos) r (!xs.any fun z => PyData.eqv z x) :=
  pt_cmp (op_notInD hu) ha hb (fun v w G H Q e q1 q2 k => ⟨x, xs, Dp.l2 _ _ (dp_up e _ _ q1), Dp.l2 _ _ (dp_up e _ _ q2), h1, h2, k _ G H (Gr.refl e) (Dp.bl _)⟩) hm
/-- a text in a tuple of texts -/
theorem strs_flat {K : PySem.W.Frag} {H : Hp} : ∀ {vs : List V} {ss : List Str}, DpAll K H vs (ss.map PyData.str) → vs = ss.map V.str
  | _, [], h => by cases h; rfl
  | _, s :: ss, h => by
    cases h with
    | cons h1 h2 =>
      cases h1
      rw [strs_flat h2]
      rfl
theorem inV_strs (x : Str) : ∀ ss : List Str, inV (.str x) (ss.map V.str) = ss.contains x
  | [] => rfl
  | s :: ss => by
    have ih := inV_strs x ss
    unfold inV at ih ⊢
    rw [List.map_cons, List.any_cons, ih, List.contains_cons]
    congr 1
    show (s == x) = (x == s)
    rw [Bool.eq_iff_iff, beq_iff_eq, beq_iff_eq]
    exact eq_comm
theorem flat_strs : ∀ ss : List Str, (ss.map V.str).all flatV = true
  | [] => rfl
  | s :: ss => by rw [List.map_cons, List.all_cons, flat_strs ss]; rfl
theorem inS_op {x : Str} {ss : List Str} {neg : Bool} : Op2 X.K (rIn X.K neg) (.d (.str x)) (.d (.tuple (ss.map PyData.str))) (.d (.bool (if neg then !ss.contains x else ss.contains x))) := fun v w G H Q e q1 q2 k => by
  cases q2 with
  | tup s1 t1 =>
    have := strs_flat t1
    subst this
    refine ⟨_, _, rfl, .inr (ex_t e s1), by rw [den_str q1]; rfl, flat_strs ss, k _ G H (Gr.refl e) ?_⟩
    rw [den_str q1, inV_strs]
    exact Dp.bl _
theorem pt_ninS {x : Str} {ss : List Str} (ha : Pv X a r (.d (.str x))) (hb : Pv X b r (.d (.tuple (ss.map PyData.str)))) (hm : behindInMarks .NotIn b = false := by rfl) : Pt X (.Compare a [.NotIn] [b] pos) r (!ss.contains x) := pt_cmp op_notIn_seq ha hb (inS_op (neg := true)) hm
theorem pt_inS {x : Str} {ss : List Str} (ha : Pv X a r (.d (.str x))) (hb : Pv X b r (.d (.tuple (ss.map PyData.str)))) (hm : behindInMarks .In b = false := by rfl) : Pt X (.Compare a [.In] [b] pos) r (ss.contains x) := pt_cmp op_in_seq ha hb (inS_op (neg := false)) hm
/-- one sign in a text -/
theorem pt_nin1 {c : Nat} {z : Str} (ha : Pv X a r (.d (.str ⟨#[c]⟩))) (hb : Pv X b r (.d (.str z))) (hm : behindInMarks .NotIn b = false := by rfl) : Pt X (.Compare a [.NotIn] [b] pos) r (!decide (c ∈ z.cps.toList)) :=
  pt_cmp op_notIn_sign ha hb (fun v w G H Q e q1 q2 k => ⟨c, z, den_str q1, den_str q2, k _ G H (Gr.refl e) (Dp.bl _)⟩) hm

/-! #### calls of own defs -/
/-- at x stands a def that keeps the promise sp, at the level k -/
structure Fc (P : Program) (w : World) (K : PySem.W.Frag) (mg : Str → Option Value) (base : Heap) (k : Nat) (x : Str) (sp : Sp) : Prop where
  ex : ∃ f fd ps, FnOk P w K mg base (L2.CX P w) k f fd ps sp ∧ mg x = some (.ref f) ∧ PySem.W.keepIn K (.ref f) = true ∧ Binds K fd ps []
/-- the promise of a pure def: R of the arguments' data and the answer's; or, B, an error of the class at C -/
def spR (K : PySem.W.Frag) (R : List Dn → Dn → Prop) (B : List Dn → Addr → Prop) : Sp := fun vs H Q E => ∃ ds G, Ex G H ∧ Dens K G vs ds ∧
  ((∃ d, R ds d ∧ ∀ v G' H', Gr G H G' H' → Den K G' v d → Q v H') ∨ (∃ C, B ds C ∧ ∀ G' H', Gr G H G' H' → E (.ref C) none H'))
abbrev noB : List Dn → Addr → Prop := fun _ _ => False
theorem pv_call {x : Str} {k j : Nat} {R : List Dn → Dn → Prop} {B : List Dn → Addr → Prop} {ds : List Dn} (F : Fc X.prog X.w X.K X.mg X.base k x (spR X.K R B)) (hr : Room j X.A) (ha : Pa X (e :: es) r ds) (hR : R ds d) (hk : k ≤ j := by decide) (hg : Gl X x := by rfl)
    (hdb : (x == ("__debug__" : Str)) = false := by decide) (he : starEach (e :: es) X.env = (false, eval e X.env) :: starEach es X.env := by rfl) (hpl : (backTo pos (starEach es X.env)).any (·.1) = false := by rfl) :
    Pv X (.Call (.Name x p) (e :: es) [] pos) r d := fun σ G H g n => by
  obtain ⟨f, fd, ps, F, hm, hkp, hb⟩ := F.ex
  refine wE_of (pe_call F (hr.mono hk) hg hm hkp hb .nil passL pa_w hdb he hpl) (wA_imp (ha σ G H g n) fun vs H1 ⟨G1, k1, q1⟩ => ?_)
  rw [List.append_nil]
  exact ⟨ds, G1, k1.s, q1, .inl ⟨d, hR, fun v G2 H2 k2 q2 => ⟨G2, k1.trans k2, q2⟩⟩⟩
end

/-! ### statements -/
/-- from the environment r, G grown from G0 as H from H0, the block sts comes to D -/
def Go (X : Cx) (sts : List Stmt) (D : Ends) (G0 H0 : Hp) (r : Rho) : Prop := ∀ σ G H, Gr G0 H0 G H → En X.K G σ r → wSs X sts D σ H
/-- behind a statement: the environment r -/
def Nx (K : PySem.W.Frag) (G0 H0 : Hp) (r : Rho) : L2.St → Hp → Prop := fun σ H => ∃ G, Gr G0 H0 G H ∧ En K G σ r
section
variable {X : Cx} {a b c e o : Expr} {st : Stmt} {sts ss rest : List Stmt} {r : Rho} {d d1 d2 d3 : Dn} {pos p : Pos} {D : Ends} {G0 H0 : Hp}
theorem go_in {N : List Str} {vs : List V} {ds : List Dn} {G H : Hp} (g : Ex G H) (hd : Dens X.K G vs ds) (h : Go X sts D G H (ds.map some ++ List.replicate (N.length - vs.length) none)) : wSs X sts D (L2.start N vs) H := h _ G H (Gr.refl g) (En.start hd)
theorem go_nil (h : ∀ σ H, Nx X.K G0 H0 r σ H → D.nx σ H) : Go X [] D G0 H0 r := fun σ G H g n => wSs_of pss_nil (h σ H ⟨G, g, n⟩)
theorem go_back (h : Go X rest D G0 H0 r) : ∀ σ H, Nx X.K G0 H0 r σ H → wSs X rest D σ H := fun σ H ⟨G, g, n⟩ => h σ G H g n
theorem go_set (i : Nat) {x : Str} {p' : Pos} (h : Pv X e r d) (k : Go X rest D G0 H0 (r.set i (some d))) (hN : X.N.Nodup) (hi : X.N[i]? = some x := by rfl) (hx : Loc X.env.scope x := by first | exact Or.inl rfl | exact Or.inr rfl)
    (hs : swapsWith e (some (.Name x p')) pos.line X.env = pure false := by rfl) (hf : X.fn x = true ∨ X.env.scope.names.lookup x = some .local := by first | exact .inl rfl | exact .inr rfl) : Go X (.Assign [.Name x p'] e pos :: rest) D G0 H0 r := fun σ G H g n =>
  wSs_of (pss_cons (ps_set hN hi hx pe_w hs hf) pss_w) (wE_imp (h σ G H g.s n) fun v H1 ⟨G1, k1, q1⟩ => k _ G1 H1 (g.trans k1) ((n.up k1.g).set i q1))
/-- y = [..], a local -/
theorem go_setLc {al : Type} (i : Nat) {y : Str} {py pl : Pos} {elt tg iter : Expr} {ifs : List Expr} {scope : Scope} (own : List (Str × Nat)) {js : List Nat} {xs : List al} {enc : al → Dn} (f0 : al → Bool) (f : al → PyData) (r2 : al → Rho) (hc : X.calm = true) (hN : X.N.Nodup) (hw : Wk X tg iter r (xs.map enc)) (ok : BlkOk X.N X.env.scope scope own)
    (hg : ∀ x, x ∈ xs → Blk X scope fun Y => Pg Y tg (wipeR r (own.map (·.2))) (enc x) (r2 x) js) (ht : ∀ x, x ∈ xs → Blk X scope fun Y => Pts Y ifs (r2 x) (f0 x)) (he : ∀ x, x ∈ xs → f0 x = true → Blk X scope fun Y => Pv Y elt (r2 x) (.d (f x)))
    (hl : xs.length ≤ 100000) (hj : ∀ j, j ∈ js → j ∈ own.map (·.2)) (hlen : ∀ x, x ∈ xs → (r2 x).length = r.length) (k : Go X rest D G0 H0 (r.set i (some (.d (.list ((xs.filter f0).map f))))))
    (hsw : swapsWith (.ListComp elt [⟨tg, iter, ifs, 0⟩] scope pl) (some (.Name y py)) pos.line X.env = pure true) (hi : X.N[i]? = some y := by rfl) (hyl : X.env.scope.names.lookup y = some .local := by rfl) (hs : ∀ x, foldedSetIterable iter X.env x = pure x := by intro _; rfl) :
    Go X (.Assign [.Name y py] (.ListComp elt [⟨tg, iter, ifs, 0⟩] scope pl) pos :: rest) D G0 H0 r := by
  obtain ⟨wi, hi', hwi⟩ := hw
  intro σ G H g n
  exact wSs_of (pss_cons (ps_setLc hc hN hi hyl hsw hi' ok bG_ok bTs_ok bE_ok hs) pss_w) (lc_data hwi hg ht he hl hj hlen g.s n fun v G2 H2 k2 q2 => k _ G2 H2 (g.trans k2) ((n.up k2.g).set i q2))
/-- a, b = e -/
theorem go_unp {tg : Expr} {r2 : Rho} {js : List Nat} (h : Pv X e r d) (hg : Pg X tg r d r2 js) (k : Go X rest D G0 H0 r2) (hs : swapsWithSole [tg] e pos.line X.env = pure false := by rfl) (hw : swappedStores [tg] e X.env = pure none := by rfl) (h1 : (assignEach [tg] X.env).map (·.2) = [assign tg X.env] := by rfl) : Go X (.Assign [tg] e pos :: rest) D G0 H0 r := fun σ G H g n =>
  wSs_of (pss_cons (ps_asg pe_w pg_w hs hw h1) pss_w) (wE_imp (h σ G H g.s n) fun v H1 ⟨G1, k1, q1⟩ => wG_imp (hg σ G1 H1 v k1.s (n.up k1.g) q1) fun σ2 H2 ⟨e2, n2, _⟩ => by
    subst e2
    exact k _ G1 H2 (g.trans k1) n2)
theorem go_ret (h : Pv X e r d) (k : ∀ v G' H', Gr G0 H0 G' H' → Den X.K G' v d → D.rt v H') : Go X (.Return (some e) pos :: rest) D G0 H0 r := fun σ G H g n =>
  wSs_of (pss_cons (ps_ret pe_w) pss_w) (wE_imp (h σ G H g.s n) fun v H1 ⟨G1, k1, q1⟩ => k v G1 H1 (g.trans k1) q1)
theorem go_if {q : Bool} (h : Pt X c r q) (h1 : q = true → Go X ss { D with nx := wSs X rest D } G0 H0 r) (h2 : q = false → Go X sts { D with nx := wSs X rest D } G0 H0 r) : Go X (.If c ss sts pos :: rest) D G0 H0 r := fun σ G H g n =>
  wSs_of (pss_cons (ps_if pt_w pss_w pss_w) pss_w) (wT_imp (h σ G H g.s n) fun b H1 ⟨G1, k1, q1⟩ => by
    subst q1
    cases b with
    | true => exact h1 rfl σ G1 H1 (g.trans k1) (n.up k1.g)
    | false => exact h2 rfl σ G1 H1 (g.trans k1) (n.up k1.g))
/-- if c: .. (no else), the block leaves, or goes on as the rest does -/
theorem go_when {q : Bool} (h : Pt X c r q) (h1 : q = true → Go X ss { D with nx := wSs X rest D } G0 H0 r) (h2 : q = false → Go X rest D G0 H0 r) : Go X (.If c ss [] pos :: rest) D G0 H0 r :=
  go_if h h1 fun z => go_nil (go_back (h2 z))
theorem go_expr (h : Pv X e r d) (k : Go X rest D G0 H0 r) (hs : swapsWith e none pos.line X.env = pure false := by rfl) : Go X (.Expr e pos :: rest) D G0 H0 r := fun σ G H g n =>
  wSs_of (pss_cons (ps_expr pe_w hs) pss_w) (wE_imp (h σ G H g.s n) fun v H1 ⟨G1, k1, q1⟩ => k σ G1 H1 (g.trans k1) (n.up k1.g))
/-- for tg in iter: the word P at each turn -/
theorem go_for {al : Type} {tg iter : Expr} {xs : List al} {enc : al → Dn} (P : Nat → Rho → Prop) (hp : PassesOwn (model X.prog X.w) X.A X.env X.xe) (hc : X.calm = true) (hw : Wk X tg iter r (xs.map enc)) (h0 : P 0 r)
    (hs : ∀ G1 H1, Gr G0 H0 G1 H1 → ∀ i x r1, xs[i]? = some x → P i r1 → ∃ r2 js, Pg X tg r1 (enc x) r2 js ∧ Go X ss { D with nx := fun σ H => ∃ r3, P (i + 1) r3 ∧ Nx X.K G1 H1 r3 σ H, ct := fun σ H => ∃ r3, P (i + 1) r3 ∧ Nx X.K G1 H1 r3 σ H, bk := wSs X rest D } G1 H1 r2)
    (hd : ∀ r1, P xs.length r1 → Go X rest D G0 H0 r1) (hfs : ∀ v, foldedSetIterable iter X.env v = pure v := by intro _; rfl) : Go X (.For tg iter ss [] pos :: rest) D G0 H0 r := by
  obtain ⟨wi, hi, hwi⟩ := hw
  intro σ G H g n
  refine wSs_of (pss_cons (ps_for hp hc hi pg_w pss_w hfs) pss_w) ?_
  refine hwi σ G H g.s n _ fun J G1 H1 k1 hgo hyl hst => ?_
  rw [List.length_map] at hgo hst
  refine ⟨fun i m σ' H' => m = xs.length - i ∧ i ≤ xs.length ∧ ∃ r1 G', P i r1 ∧ Gr G1 H1 G' H' ∧ En X.K G' σ' r1, ⟨xs.length, by simp, Nat.zero_le _, r, G1, h0, Gr.refl k1.s, n.up k1.g⟩, ?_⟩
  rintro i m σ' H' ⟨rfl, hi2, r1, G', hP, k', n'⟩
  by_cases hlt : i < xs.length
  · obtain ⟨x, hx⟩ : ∃ x, xs[i]? = some x := ⟨xs[i], List.getElem?_eq_getElem hlt⟩
    refine .inr ⟨hgo i H' (k'.g.trans k'.s) hlt, fun σ3 H3 => ∃ r3, P (i + 1) r3 ∧ ∃ G3, Gr G1 H1 G3 H3 ∧ En X.K G3 σ3 r3, fun σ3 H3 ⟨r3, q1, G3, q2, q3⟩ => ⟨xs.length - (i + 1), by omega, rfl, hlt, r3, G3, q1, q2, q3⟩, fun v H3 yl => ?_⟩
    obtain ⟨G3, k3, q3⟩ := hyl i G' H' v H3 k'.g k'.s yl (enc x) (by rw [List.getElem?_map, hx]; rfl)
    have kk := k'.trans k3
    obtain ⟨r2, js, hg, hb⟩ := hs G3 H3 ((g.trans k1).trans kk) i x r1 hx hP
    refine wG_imp (hg σ' G3 H3 v k3.s (n'.up k3.g) q3) fun σ2 H4 ⟨e4, n4, _⟩ => ?_
    subst e4
    exact wSs_imp (hb σ2 G3 H4 (Gr.refl k3.s) n4) (fun σ5 H5 ⟨r5, q1, G5, q2, q5⟩ => ⟨r5, q1, G5, kk.trans q2, q5⟩) (fun _ _ z => z) (fun _ _ z => z) (fun σ5 H5 ⟨r5, q1, G5, q2, q5⟩ => ⟨r5, q1, G5, kk.trans q2, q5⟩)
  · have hi3 : i = xs.length := by omega
    subst hi3
    exact .inl ⟨hst _ H' (k'.g.trans k'.s) (Nat.le_refl _), hd r1 hP σ' G' H' ((g.trans k1).trans k') n'⟩
end
end Fb

/-! FbS: len(set(t)), t a tuple of any number of texts: how many unlike ones there are. -/
namespace Fb
open PySem
/-- how many unlike ones, of a list from behind -/
def dcr : List Str → Nat
  | [] => 0
  | x :: l => if l.any (· == x) then dcr l else dcr l + 1
def dcn (l : List Str) : Nat := dcr l.reverse
theorem dcn_snoc (l : List Str) (x : Str) : dcn (l ++ [x]) = if l.any (· == x) then dcn l else dcn l + 1 := by
  unfold dcn
  rw [List.reverse_append]
  show (if l.reverse.any (· == x) then dcr l.reverse else dcr l.reverse + 1) = _
  rw [List.any_reverse]
theorem dcr_le : ∀ l : List Str, dcr l ≤ l.length
  | [] => Nat.le_refl _
  | x :: l => by
    have := dcr_le l
    unfold dcr
    rw [List.length_cons]
    split <;> omega
theorem dcn_le (l : List Str) : dcn l ≤ l.length := by
  have := dcr_le l.reverse
  rw [List.length_reverse] at this
  exact this
theorem dcr_nodup : ∀ l : List Str, dcr l = l.length ↔ l.Nodup
  | [] => by simp [dcr]
  | x :: l => by
    have ih := dcr_nodup l
    have hle := dcr_le l
    rw [List.nodup_cons, ← ih, show dcr (x :: l) = if l.any (· == x) then dcr l else dcr l + 1 from rfl]
    by_cases hx : l.any (· == x) = true
    · rw [if_pos hx, List.length_cons]
      have hm : x ∈ l := by
        obtain ⟨y, hy, e⟩ := List.any_eq_true.mp hx
        rw [beq_iff_eq] at e
        exact e ▸ hy
      exact ⟨fun h => by omega, fun h => absurd hm h.1⟩
    · rw [if_neg hx, List.length_cons]
      have hm : x ∉ l := fun hm => hx (List.any_eq_true.mpr ⟨x, hm, beq_iff_eq.mpr rfl⟩)
      exact ⟨fun h => ⟨hm, by omega⟩, fun h => by rw [h.2]⟩
theorem dcn_nodup (l : List Str) : dcn l = l.length ↔ l.Nodup := by
  have := dcr_nodup l.reverse
  rw [List.length_reverse, (List.reverse_perm l).nodup_iff] at this
  exact this
section
variable {prog : Program} {w : World} {A : Around} {R : Result → Shared → Prop} {I : Addr} {fp wr : List Addr} {G : Array GenState → Array GenState → Prop} {n : Nat} {P : Nat → Value → Prop} {St : Nat → Shared → Prop}
/-- the loop of set(..): one text a turn, known already or new -/
theorem set_turns (W : WalksS prog w A.in1 I fp wr G n P St) (S : Addr) (hSf : S ∉ fp) (xs : List Str) (hsz : xs.length = n) (hn1 : n ≤ 1000) (hval : ∀ i v, P i v → ∃ t, v = .str (xs.getD i Str.empty) t) :
    ∀ (k i : Nat) (s : Shared), n - i = k → i ≤ n → St i s → s.heap.SetOf (PySem.strKind prog w) S (fun k' => (xs.take i).any (· == k')) (dcn (xs.take i)) →
      (∀ s', Moved (S :: wr) G s s' → s'.heap.SetOf (PySem.strKind prog w) S (fun k' => xs.any (· == k')) (dcn xs) → R (.ok (.ret .none)) s') →
      codeAny (model prog w) A (.builtin "set.update.loop" ⟨[.ref S, .ref I], []⟩) R s := by
  have hSw : S ∉ wr := fun h => hSf (W.sub _ h)
  have wider : ∀ b ∈ wr, b ∈ S :: wr := fun b hb => List.mem_cons_of_mem _ hb
  have stay : ∀ {s s' : Shared} {T : Str → Bool} {m : Nat}, Moved wr G s s' → s.heap.SetOf (PySem.strKind prog w) S T m → s'.heap.SetOf (PySem.strKind prog w) S T m := fun hm ⟨o, es, ep, t, ho, more⟩ => ⟨o, es, ep, t, hm.heap S _ hSw ho, more⟩
  intro k
  induction k with
  | zero =>
    intro i s hk hi hst hS hR
    obtain rfl : i = n := by omega
    refine codeAny_builtin PyProof.Rows.F.entry_set_update_loop ?_
    rw [Around.under_plainId PyProof.Rows.F.plain_set_update_loop _]
    refine wpAny_bind (W.done s _ _ hst fun s' hm => ?_)
    have q := stay hm hS
    rw [← hsz, List.take_length] at q
    exact wpAny_pure (hR s' (hm.mono wider) q)
  | succ k ih =>
    intro i s hk hi hst hS hR
    have hlt : i < n := by omega
    refine codeAny_builtin PyProof.Rows.F.entry_set_update_loop ?_
    rw [Around.under_plainId PyProof.Rows.F.plain_set_update_loop _]
    refine wpAny_bind (W.item i s _ _ hlt hst fun v s' hP hst' hm => ?_)
    obtain ⟨t, rfl⟩ := hval i v hP
    have hx : xs[i]? = some (xs.getD i Str.empty) := by
      rw [List.getD_eq_getElem?_getD, List.getElem?_eq_getElem (by omega)]
      rfl
    have hS' := stay hm hS
    have htk : xs.take (i + 1) = xs.take i ++ [xs.getD i Str.empty] := take_succ hx
    refine wpAny_bind (wpAny_holding ?_)
    unfold setAdd
    refine wpAny_holding (wpAny_bind ((PySem.strKind prog w).pyHash (k := xs.getD i Str.empty) (strKind_is _ _ _ _) ?_))
    have hroom : dcn (xs.take i) + 1 < scanBound := by
      have h1 := dcn_le (xs.take i)
      rw [List.length_take] at h1
      unfold scanBound
      omega
    refine wpAny_setAddHashed_of (knd := PySem.strKind prog w) (s := { s' with toks := s'.toks + 1 }) (strKind_is _ _ _ _) rfl hS' hroom fun h' hsb hS2 => ?_
    have hS3 : h'.SetOf (PySem.strKind prog w) S (fun k' => (xs.take (i + 1)).any (· == k')) (dcn (xs.take (i + 1))) := by
      refine PyProof.Rows.SetOf_congr hS2 (fun k' => ?_) ?_
      · rw [htk, List.any_append, List.any_cons, List.any_nil, Bool.or_false]
        congr 1
        rw [Bool.eq_iff_iff, decide_eq_true_iff, beq_iff_eq]
        exact eq_comm
      · rw [htk, dcn_snoc]
    refine wpAny_pure ⟨plainId_quiet PyProof.Rows.F.plain_set_update_loop _, ih (i + 1) _ (by omega) hlt (W.frame _ s' _ _ hst' (Nat.le_succ _) fun b hb o e => ?_) hS3 fun s'' hm'' hS'' => ?_⟩
    · rw [hsb.2 b (fun h : b = S => hSf (by rw [← h]; exact hb))]
      exact e
    · refine hR s'' (Moved.trans W.gtrans ((hm.mono wider).then_heap (Nat.le_succ _) fun b o hb e => ?_) hm'') hS''
      rw [hsb.2 b (fun h : b = S => hb (by rw [h]; exact List.mem_cons_self))]
      exact e
end
section
variable {prog : Program} {w : World} {A : Around} {E : Value → Shared → Prop} {s : Shared}
open PyProof.Rows
/-- the object of a new set -/
abbrev emptySet (led : Bool) : Obj := { cls := .type "set", dict := none, data := .set #[] 0 (.fresh 0 0 led) }
/-- set(t), t a tuple of texts -/
theorem set_of_texts {l : Addr} {items : Array Value} {xs : List Str} {Q : Value → Shared → Prop} (hh : A.handled = none) (hl : s.heap.IsTuple l items) (hi : PyProof.Rows.StrsAre items.toList xs) (hn1 : xs.length ≤ 1000)
    (h : ∀ (h' : Heap) (tk : Nat), h'.SetOf (PySem.strKind prog w) s.heap.objs.size (fun k' => xs.any (· == k')) (dcn xs) → (∀ b o, b < s.heap.objs.size → s.heap.get? b = some o → h'.get? b = some o) → Q (.ref s.heap.objs.size) { s with heap := h', toks := tk }) :
    wpAny (model prog w) A (call (.type "set") [.ref l]) Q E s := by
  have hmade := PySem.F.called_set.made
  have hsub := PySem.F.called_set.sub
  obtain ⟨c, tl, hmro⟩ := PySem.F.called_set.mro
  have hT1 := PySem.F.called_set.notType
  have hT2 := PySem.F.called_set.canCreate
  have hT3 := PySem.F.typeCall_set_1 (.ref l)
  refine wpAny_call (codeAny_of_tree ?_)
  show wpAny _ _ (callAny (.type "set") _) _ _ _
  refine wpAny_pure ⟨Code.quiet_builtin _ (by decide +kernel), codeAny_builtin PySem.F.entry_type_call ?_⟩
  rw [Around.under_plain (weight_type_call_type "set" [.ref l] []) rfl]
  repeat (any_goals (first | assumption | wp_step))
  -- the new, empty set
  refine codeAny_mono (code_set_new_1 (.ref l) (E := E) (Q₁ := fun z s1 => ∃ led : Bool, z = .ref s.heap.objs.size ∧ s1 = { s with heap := s.heap.push (emptySet led) }) fun led => ⟨led, rfl, rfl⟩) fun r s1 hr => ?_
  cases r with
  | error e => exact hr
  | ok fl =>
    cases fl with
    | ret z =>
      obtain ⟨led, rfl, rfl⟩ := hr
      have hS : (s.heap.push (emptySet led)).get? s.heap.objs.size = some (emptySet led) := Heap.get?_push_size _ rfl
      have hT : Shared.TypeIs { s with heap := s.heap.push (emptySet led) } (.ref s.heap.objs.size) "set" := ⟨_, hS, rfl⟩
      have hli := PySem.F.called_set.init.lookup
      have hbi := PySem.F.called_set.init.bind (.ref s.heap.objs.size)
      repeat (any_goals (first | assumption | wp_step))
      refine codeAny_mono (codeAny_call_builtin (R := wants (fun r s2 => r = .none ∧ ∃ h' tk, s2 = { s with heap := h', toks := tk } ∧ h'.SetOf (PySem.strKind prog w) s.heap.objs.size (fun k' => xs.any (· == k')) (dcn xs) ∧
          (∀ b o, b < s.heap.objs.size → s.heap.get? b = some o → h'.get? b = some o)) E) PySem.F.called_set.init.plain PySem.F.entry_set_init (check_set_init_1 hT ?_)) fun r2 s2 hr2 => ?_
      · obtain ⟨⟨oc, od, odt, osl⟩, hol, hcl, nl, hdl⟩ := hl
        simp only at hcl hdl
        subst hcl hdl
        have hol2 : (s.heap.push (emptySet led)).get? l = some { cls := .type "tuple", dict := od, data := .seq items nl, slots := osl } := Heap.get?_push_of_some _ hol
        have hsls := PySem.F.sub_tuple_set
        have hslf := PySem.F.sub_tuple_frozenset
        have hne : (Value.type "tuple" == Value.type "dict") = false := by decide
        have hl1 : (s.heap.push (emptySet led)).IsTuple l items := ⟨_, hol2, rfl, nl, rfl⟩
        unfold Builtin.«set.__init__» noKeywords Builtin.Frozenset.updateFrom
        generalize hPI : pyIter = PI
        wp_walk
        subst hPI
        refine wpAny_pyIter_tuple (s := { s with heap := s.heap.push (emptySet led) }) hl1 ?_
        refine wpAny_bind (wpAny_runValue ?_)
        have hlS : l < s.heap.objs.size := Heap.lt_size hol
        have hz : (s.heap.push (emptySet led)).objs.size = s.heap.objs.size + 1 := Heap.size_push _ _
        have hval : ∀ (i : Nat) (v : Value), items[i]? = some v → ∃ t, v = .str (xs.getD i Str.empty) t := fun i v hv => SS.strs_at hi i v (by rw [Array.getElem?_toList]; exact hv)
        have hsz : xs.length = items.size := by rw [← StrsAre.len_eq hi, Array.length_toList]
        refine set_turns ((Walks.tuple (by simp [hh]) _ l (by rw [hz]; exact Nat.ne_of_lt (Nat.lt_succ_of_lt hlS)) items).toS) s.heap.objs.size ?hSf xs hsz (by rw [← hsz]; exact hn1) hval (items.size - 0) 0 _ (by omega) (Nat.zero_le _) ⟨⟨_, Heap.get?_push_size _ rfl, rfl, rfl⟩, hl1.push _⟩ ?hS0 ?hR
        case hSf =>
          rw [hz]
          simp only [List.mem_cons, List.mem_singleton, List.not_mem_nil, or_false, not_or]
          exact ⟨Nat.ne_of_lt (Nat.lt_succ_self _), Nat.ne_of_gt hlS⟩
        case hS0 =>
          have hget := Heap.get?_push_of_some { cls := .type "tuple_iterator", data := .fields #[.ref l, .int 0 0] } hS
          exact SetOf_congr ((setObjOf_fresh (knd := PySem.strKind prog w) led).setOf hget (by unfold scanBound; omega)) (fun _ => rfl) rfl
        case hR =>
          rintro ⟨h', g', d', tk', os'⟩ hm hS'
          obtain rfl : g' = s.gens := hm.gens
          obtain rfl : d' = s.drawn := hm.drawn
          obtain rfl : os' = s.os := hm.os
          show wpAny _ _ _ _ _ _
          refine wpAny_pure ?_
          show wpAny _ _ (ret Value.none) _ _ _
          refine wpAny_pure ⟨rfl, h', tk', rfl, hS', fun b o hb e => ?_⟩
          refine hm.heap b o ?_ (Heap.get?_push_of_some _ (Heap.get?_push_of_some _ e))
          rw [hz]
          simp only [List.mem_cons, List.mem_singleton, List.not_mem_nil, or_false, not_or]
          exact ⟨Nat.ne_of_lt hb, Nat.ne_of_lt (Nat.lt_succ_of_lt hb)⟩
      · cases r2 with
        | error e => exact hr2
        | ok fl2 =>
          cases fl2 with
          | ret r =>
            obtain ⟨rfl, h', tk, rfl, hS', hk'⟩ := hr2
            repeat (any_goals (first | assumption | wp_step))
            exact h _ _ hS' hk'
          | _ => exact hr2.elim
    | _ => exact hr.elim
end
section
open L2 Evl
variable {X : Cx} {a : Expr} {r : Rho} {pos p p2 q : Pos}
/-- len(set(t)) -/
theorem pv_lenSet {xs : List Str} (hm : X.mg "len" = none) (hm2 : X.mg "set" = none) (ha : Pv X a r (.d (.tuple (xs.map PyData.str)))) (hl : xs.length ≤ 1000) (hc : X.calm = true := by rfl) (hg : Gl X "len" := by rfl) (hg2 : Gl X "set" := by rfl)
    (na : starEach [a] X.env = (false, eval a X.env) :: starEach [] X.env := by rfl) : Pv X (.Call (.Name "len" p) [.Call (.Name "set" p2) [a] [] q] [] pos) r (.d (.int (dcn xs))) := fun σ G H g n pins s I => by
  refine PyProof.Rows.Call_ (ld_blt I hg hm PySem.boot_len ?_)
  refine PyProof.Rows.callWith_builtin1 (PyProof.Rows.args_cons ?_ rfl) rfl rfl
  refine PyProof.Rows.Call_ (ld_blt I hg2 hm2 PyProof.Rows.boot_set ?_)
  refine PyProof.Rows.callWith_type1 (PyProof.Rows.args_cons (thn (ha σ G H g n pins s I) fun v s1 ⟨x, H1, I1, r1, G1, k1, q1⟩ => PyProof.Rows.args_nil ?_) na) na rfl
  cases q1 with
  | tup h1 h2 =>
    have hv := strs_flat h2
    subst hv
    cases r1
    obtain ⟨its, rv, pl, hz⟩ := I1.tuple (ex_t k1.s h1)
    refine set_of_texts (I1.ok.hd hc) pl (by simpa using strsAre_of rv) hl fun h' tk hS hk => ?_
    refine PyProof.Rows.args_nil ?_
    obtain ⟨o, es, ep, t, ho, hex, hd, _, _, _, hf, hn⟩ := hS
    have I2 : L2.Inv X pins σ H1 { s1 with heap := h', toks := tk } := I1.kept fun b o e => hk b o (Heap.lt_size e) e
    have hle := dcn_le xs
    exact call_len_set ho hex hd hf (by rw [hn]; omega) ⟨.int (dcn xs), H1, I2.tok _, ⟨_, by rw [hn]⟩, G1, k1, Dp.int _⟩
end
end Fb

/-! FbD: defs and their promises, errors, attributes, what is owned. -/
namespace Fb
open PySem PySem.Spec PyProof.Rows L2 Evl
section
variable {P : Program} {w : World} {K : PySem.W.Frag} {mg : Str → Option Value} {base : Heap}
/-- a def keeps a pure promise -/
theorem okP {x qual : Str} {st : Stmt} {f : Addr} {fd : FuncData} {N ps : List Str} {k : Nat} {R : List Dn → Dn → Prop} (F : Fun K x qual st f fd) (S : FnScope N ps (defScope st)) (hR : ∀ ds d, R ds d → ds.length = ps.length)
    (body : ∀ (cdv : Value) (A : Around) (outer : List Env) (s : Shared) (H : Hp) (Q : VK) (E : XK) (ds : List Dn) (d : Dn) (G : Hp), Room k (A.deeper (envOfC qual (defScope st) s.heap.objs.size f cdv)) → R ds d → (∀ v G' H', Gr G H G' H' → Den K G' v d → Q v H') →
      Go (cxOf (L2.CX P w) P w K mg base N qual (defScope st) f cdv A outer s H E) (defBody st) { nx := fun _ H' => Q .non H', rt := Q } G H (ds.map some ++ List.replicate (N.length - ds.length) none)) : FnOk P w K mg base (L2.CX P w) (k + 1) f fd ps (spR K R noB) := by
  refine F.okX S ?_ (fun cdv A outer s H vs Q E hr h => ⟨_, pss_w, ?_⟩)
  · rintro vs H Q E ⟨ds, G, g, hd, ⟨d, hr, k⟩ | ⟨C, hb, k⟩⟩
    · exact (Paired.length hd).trans (hR _ _ hr)
    · exact hb.elim
  · obtain ⟨ds, G, g, hd, ⟨d, hR', k⟩ | ⟨C, hb, k⟩⟩ := h
    · refine go_in g hd ?_
      rw [Paired.length hd]
      exact body cdv A outer s H Q E ds d G hr hR' k
    · exact hb.elim
/-- .. or raises -/
theorem okE {x qual : Str} {st : Stmt} {f : Addr} {fd : FuncData} {N ps : List Str} {k : Nat} {R : List Dn → Dn → Prop} {B : List Dn → Addr → Prop} (F : Fun K x qual st f fd) (S : FnScope N ps (defScope st)) (hR : ∀ ds d, R ds d → ds.length = ps.length) (hB : ∀ ds C, B ds C → ds.length = ps.length)
    (body : ∀ (cdv : Value) (A : Around) (outer : List Env) (s : Shared) (H : Hp) (Q : VK) (E : XK) (ds : List Dn) (d : Dn) (G : Hp), Room k (A.deeper (envOfC qual (defScope st) s.heap.objs.size f cdv)) → R ds d → (∀ v G' H', Gr G H G' H' → Den K G' v d → Q v H') →
      Go (cxOf (L2.CX P w) P w K mg base N qual (defScope st) f cdv A outer s H E) (defBody st) { nx := fun _ H' => Q .non H', rt := Q } G H (ds.map some ++ List.replicate (N.length - ds.length) none))
    (bad : ∀ (cdv : Value) (A : Around) (outer : List Env) (s : Shared) (H : Hp) (Q : VK) (E : XK) (ds : List Dn) (C : Addr) (G : Hp), Room k (A.deeper (envOfC qual (defScope st) s.heap.objs.size f cdv)) → B ds C → (∀ G' H', Gr G H G' H' → E (.ref C) none H') →
      Go (cxOf (L2.CX P w) P w K mg base N qual (defScope st) f cdv A outer s H E) (defBody st) { nx := fun _ H' => Q .non H', rt := Q } G H (ds.map some ++ List.replicate (N.length - ds.length) none)) : FnOk P w K mg base (L2.CX P w) (k + 1) f fd ps (spR K R B) := by
  refine F.okX S ?_ (fun cdv A outer s H vs Q E hr h => ⟨_, pss_w, ?_⟩)
  · rintro vs H Q E ⟨ds, G, g, hd, ⟨d, hr, k⟩ | ⟨C, hb, k⟩⟩
    · exact (Paired.length hd).trans (hR _ _ hr)
    · exact (Paired.length hd).trans (hB _ _ hb)
  · obtain ⟨ds, G, g, hd, ⟨d, hR', k⟩ | ⟨C, hb, k⟩⟩ := h
    · refine go_in g hd ?_
      rw [Paired.length hd]
      exact body cdv A outer s H Q E ds d G hr hR' k
    · refine go_in g hd ?_
      rw [Paired.length hd]
      exact bad cdv A outer s H Q E ds C G hr hb k
theorem fc_mk {x : Str} {f : Addr} {fd : FuncData} {ps : List Str} {k : Nat} {sp : Sp} (ok : FnOk P w K mg base (L2.CX P w) k f fd ps sp) (hm : mg x = some (.ref f)) (hk : PySem.W.keepIn K (.ref f) = true) (hb : Binds K fd ps []) : Fc P w K mg base k x sp := ⟨f, fd, ps, ok, hm, hk, hb⟩
end
/-- an own error class over ValueError, without a body of its own -/
structure Ec (K : PySem.W.Frag) (mg : Str → Option Value) (x : Str) (C : Addr) : Prop where
  gP : mg x = some (.ref C)
  xP : PySem.W.excIn K C [.type "ValueError", .type "Exception", .type "BaseException", .type "object"] "ValueError.__new__" = true
  kP : PySem.W.keepIn K (.ref C) = true
  bP : PySem.W.subIn K (.ref C) (.type "BaseException") = some true
  tP : PySem.W.typeIn K (.ref C) = some (.type "type")
section
variable {X : Cx} {a b c e o : Expr} {es : List Expr} {sts ss rest : List Stmt} {r : Rho} {d d1 d2 d3 : Dn} {pos p p1 p2 p3 p4 : Pos} {D : Ends} {G0 H0 : Hp} {W : WX}
theorem go_raise {x m : Str} {j : Nat} {C : Addr} (T : Ec X.K X.mg x C) (tk : Takes X W) (h : ∀ σ G H, Gr G0 H0 G H → En X.K G σ r → W (.ref C) none σ H) (hc : X.calm = true := by rfl) (hg : Gl X x := by rfl) (hdb : (x == ("__debug__" : Str)) = false := by decide) :
    Go X (.Raise (some (.Call (.Name x p) [.Constant (.str m) j p2] [] p3)) none p4 :: rest) D G0 H0 r := fun σ G H g n =>
  wSs_of (pss_cons (ps_raise hc tk (pmk_own PySem.F.excBase_ValueError T.xP T.gP T.kP (raises_own T.bP T.tP) hg hdb)) pss_w) (h σ G H g n)
/-- a call, as a statement, that raises -/
theorem go_doX {x : Str} {k j : Nat} {R : List Dn → Dn → Prop} {B : List Dn → Addr → Prop} {ds : List Dn} {C : Addr} (F : Fc X.prog X.w X.K X.mg X.base k x (spR X.K R B)) (hr : Room j X.A) (ha : Pa X (e :: es) r ds) (hB : B ds C) (tk : Takes X W) (h : ∀ σ G H, Gr G0 H0 G H → En X.K G σ r → W (.ref C) none σ H)
    (hk : k ≤ j := by decide) (hg : Gl X x := by rfl) (hs : swapsWith (.Call (.Name x p) (e :: es) [] pos) none p2.line X.env = pure false := by rfl)
    (hdb : (x == ("__debug__" : Str)) = false := by decide) (he : starEach (e :: es) X.env = (false, eval e X.env) :: starEach es X.env := by rfl) (hpl : (backTo pos (starEach es X.env)).any (·.1) = false := by rfl) :
    Go X (.Expr (.Call (.Name x p) (e :: es) [] pos) p2 :: rest) D G0 H0 r := fun σ G H g n => by
  obtain ⟨f, fd, ps, F, hm, hkp, hb⟩ := F.ex
  refine wSs_of (pss_cons (ps_expr (pe_callS F (hr.mono hk) hg hm hkp hb (fun σ => passAt tk σ) pa_w hdb he hpl) hs) pss_w) (wA_imp (ha σ G H g.s n) fun vs H1 ⟨G1, k1, q1⟩ => ?_)
  exact ⟨ds, G1, k1.s, q1, .inr ⟨C, hB, fun G2 H2 k2 => h σ G2 H2 ((g.trans k1).trans k2) ((n.up k1.g).up k2.g)⟩⟩

/-! ### attributes -/
theorem fld_get {K : PySem.W.Frag} {H : Hp} {f : Str} {fd : Fd} : ∀ {ws : List (Str × V)} {fs : List (Str × Fd)}, Paired (fun (p : Str × V) (q : Str × Fd) => p.1 = q.1 ∧ DenF K H p.2 q.2) ws fs → fs.lookup f = some fd → ∃ v, ws.lookup f = some v ∧ DenF K H v fd
  | _, _, .nil, h => by cases h
  | (a, v) :: ws, (b, g) :: fs, .cons ⟨h1, h2⟩ t, h => by
    have h1' : a = b := h1
    subst h1'
    rw [List.lookup_cons] at h ⊢
    cases q : f == a with
    | true =>
      rw [q] at h
      cases h
      exact ⟨v, rfl, h2⟩
    | false =>
      rw [q] at h
      exact fld_get t h
theorem denF_dn {K : PySem.W.Frag} {H : Hp} {v : V} : ∀ {fd : Fd}, DenF K H v fd → Den K H v fd.dn
  | .d _, h => h
  | .t _, h => h
theorem pv_fld {q C : Addr} {fs : List (Str × Fd)} {f : Str} {fd : Fd} (ho : Pv X o r (.ob q C fs)) (hc : Cls X.K C) (hn : NoAttr X.K C f) (hl : fs.lookup f = some fd) (hb : attributeBase o f X.env (eval o X.env) = eval o X.env := by rfl) : Pv X (.Attribute o f pos) r fd.dn := fun σ G H g n =>
  wE_of (pe_fld pe_w hb) (wE_imp (ho σ G H g n) fun x H1 ⟨G1, k1, q1⟩ => by
    obtain ⟨dx, ws, rfl, h1, h2⟩ := q1
    obtain ⟨v, hv, hd⟩ := fld_get h2 hl
    exact ⟨q, C, dx, ws, v, rfl, k1.s _ _ h1, hc, hn, hv, G1, k1, denF_dn hd⟩)
end

/-! ### what is owned: objects that the environment does not lean on -/
mutual
/-- no list within -/
def imm : PyData → Bool
  | .list _ => false
  | .dict _ => false
  | .tuple xs => immAll xs
  | _ => true
def immAll : List PyData → Bool
  | [] => true
  | x :: xs => imm x && immAll xs
end
theorem immAll_iff : ∀ {xs : List PyData}, immAll xs = true ↔ ∀ x ∈ xs, imm x = true
  | [] => by simp [immAll]
  | x :: xs => by
    rw [immAll, Bool.and_eq_true, immAll_iff]
    simp
section
variable {K : PySem.W.Frag} {G G' H H2 : Hp}
mutual
/-- such a datum stands as long as the tuples do -/
theorem dp_imm (k : ∀ a xs, SqT K G a xs → SqT K G' a xs) : ∀ (d : PyData) (v : V), imm d = true → Dp K G v d → Dp K G' v d
  | .none, _, _, h => by cases h; exact .non
  | .bool _, _, _, h => by cases h; exact .bl _
  | .int _, _, _, h => by cases h; exact .int _
  | .str _, _, _, h => by cases h; exact .str _
  | .list _, _, hi, _ => by cases hi
  | .tuple ds, _, hi, h => by
    cases h with
    | tup h1 h2 => exact .tup (k _ _ h1) (dpAll_imm k ds _ (by simpa [imm] using hi) h2)
  | .dict _, _, hi, _ => by cases hi
theorem dpAll_imm (k : ∀ a xs, SqT K G a xs → SqT K G' a xs) : ∀ (ds : List PyData) (vs : List V), immAll ds = true → DpAll K G vs ds → DpAll K G' vs ds
  | [], _, _, h => by cases h; exact .nil
  | d :: ds, _, hi, h => by
    rw [immAll, Bool.and_eq_true] at hi
    cases h with
    | cons h1 h2 => exact .cons (dp_imm k d _ hi.1 h1) (dpAll_imm k ds _ hi.2 h2)
end
/-- G and the objects at os as H has them; G without the objects at os -/
def plus (G H : Hp) (os : List Addr) : Hp := fun a => if a ∈ os then H a else G a
def minus (G : Hp) (os : List Addr) : Hp := fun a => if a ∈ os then none else G a
theorem plus_in {os : List Addr} {a : Addr} (h : a ∈ os) : plus G H os a = H a := by unfold plus; rw [if_pos h]
theorem plus_out {os : List Addr} {a : Addr} (h : a ∉ os) : plus G H os a = G a := by unfold plus; rw [if_neg h]
theorem minus_in {os : List Addr} {a : Addr} (h : a ∈ os) : minus G os a = none := by unfold minus; rw [if_pos h]
theorem minus_out {os : List Addr} {a : Addr} (h : a ∉ os) : minus G os a = G a := by unfold minus; rw [if_neg h]
theorem plus_g {os : List Addr} (hG : ∀ a ∈ os, G a = none) : Ex G (plus G H os) := fun a o h => by
  have hn : a ∉ os := fun z => by rw [hG a z] at h; cases h
  rw [plus_out hn]
  exact h
theorem plus_s {os : List Addr} (e : Ex G H) : Ex (plus G H os) H := fun a o h => by
  by_cases hn : a ∈ os
  · rw [plus_in hn] at h; exact h
  · rw [plus_out hn] at h; exact e a o h
theorem own_back {os : List Addr} {G2 : Hp} (hG : ∀ a ∈ os, G a = none) (k : Gr (plus G H os) H G2 H2) : Gr G H (minus G2 os) H2 := by
  refine ⟨fun a o h => ?_, fun a o h => ?_, k.h, fun a h1 h2 => ?_⟩
  · have hn : a ∉ os := fun z => by rw [hG a z] at h; cases h
    rw [minus_out hn]
    exact k.g a o (by rw [plus_out hn]; exact h)
  · by_cases hn : a ∈ os
    · rw [minus_in hn] at h; cases h
    · rw [minus_out hn] at h; exact k.s a o h
  · by_cases hn : a ∈ os
    · rw [minus_in hn] at h2; exact absurd rfl h2
    · rw [minus_out hn] at h2
      exact k.f a (by rw [plus_out hn]; exact h1) h2
/-- what is no tuple there may go -/
theorem minus_t {os : List Addr} {G2 : Hp} (h : ∀ a ∈ os, ∀ xs, ¬ Rd G2 a (.tup xs)) : ∀ a xs, SqT K G2 a xs → SqT K (minus G2 os) a xs := fun a xs q => by
  rcases q with q | q
  · have hn : a ∉ os := fun z => h a z xs q
    refine .inl ?_
    rcases q with q | ⟨o, q⟩
    · exact .inl (by rw [minus_out hn]; exact q)
    · exact .inr ⟨o, by rw [minus_out hn]; exact q⟩
  · exact .inr q
end
end Fb

/-! FbE: == of ints and of texts; .get of a written dict; "".join; is of truth values. -/
namespace Fb
open PySem PySem.Spec PyProof.Rows L2 Evl
section
variable {X : Cx} {a b c e f o : Expr} {es : List Expr} {r : Rho} {d d1 d2 d3 : Dn} {pos p p1 p2 apos cpos : Pos}
theorem pv_gint {x : Str} {i : Int} {t : Tok} (hm : X.mg x = some (.int i t)) (hg : Gl X x := by rfl) (hdb : (x == ("__debug__" : Str)) = false := by decide) : Pv X (.Name x pos) r (.d (.int i)) := pv_glob (v := .int i) hm ⟨t, rfl⟩ (fun _ => Dp.int i) hg hdb
theorem pv_gstr {x : Str} {i : Str} {t : Tok} (hm : X.mg x = some (.str i t)) (hg : Gl X x := by rfl) (hdb : (x == ("__debug__" : Str)) = false := by decide) : Pv X (.Name x pos) r (.d (.str i)) := pv_glob (v := .str i) hm ⟨t, rfl⟩ (fun _ => Dp.str i) hg hdb
theorem pv_gref {x : Str} {q : Addr} {y : PyData} (hm : X.mg x = some (.ref q)) (hd : ∀ H, Dp X.K H (.ref q) y) (hg : Gl X x := by rfl) (hdb : (x == ("__debug__" : Str)) = false := by decide) : Pv X (.Name x pos) r (.d y) := pv_glob (v := .ref q) hm rfl hd hg hdb
theorem eqI_op {i j : Int} : Op2 X.K rEq (.d (.int i)) (.d (.int j)) (.d (.bool (decide (i = j)))) := fun x y G H Q g h1 h2 k => by
  rw [den_int h1, den_int h2]
  refine ⟨rfl, k _ G H (Gr.refl g) ?_⟩
  rw [show decide (V.int i = V.int j) = decide (i = j) from by rw [Bool.eq_iff_iff]; simp]
  exact Dp.bl _
theorem neI_op {i j : Int} : Op2 X.K rNe (.d (.int i)) (.d (.int j)) (.d (.bool (!decide (i = j)))) := fun x y G H Q g h1 h2 k => by
  rw [den_int h1, den_int h2]
  refine ⟨rfl, k _ G H (Gr.refl g) ?_⟩
  rw [show decide (V.int i = V.int j) = decide (i = j) from by rw [Bool.eq_iff_iff]; simp]
  exact Dp.bl _
theorem eqS_op {i j : Str} : Op2 X.K rEq (.d (.str i)) (.d (.str j)) (.d (.bool (decide (i = j)))) := fun x y G H Q g h1 h2 k => by
  rw [den_str h1, den_str h2]
  refine ⟨rfl, k _ G H (Gr.refl g) ?_⟩
  rw [show decide (V.str i = V.str j) = decide (i = j) from by rw [Bool.eq_iff_iff]; simp]
  exact Dp.bl _
theorem neS_op {i j : Str} : Op2 X.K rNe (.d (.str i)) (.d (.str j)) (.d (.bool (!decide (i = j)))) := fun x y G H Q g h1 h2 k => by
  rw [den_str h1, den_str h2]
  refine ⟨rfl, k _ G H (Gr.refl g) ?_⟩
  rw [show decide (V.str i = V.str j) = decide (i = j) from by rw [Bool.eq_iff_iff]; simp]
  exact Dp.bl _
theorem eqB_op {i j : Bool} : Op2 X.K rEq (.d (.bool i)) (.d (.bool j)) (.d (.bool (decide (i = j)))) := fun x y G H Q g h1 h2 k => by
  rw [den_bool h1, den_bool h2]
  refine ⟨rfl, k _ G H (Gr.refl g) ?_⟩
  rw [show decide (V.bl i = V.bl j) = decide (i = j) from by rw [Bool.eq_iff_iff]; simp]
  exact Dp.bl _
theorem pv_eqI {i j : Int} (ha : Pv X a r (.d (.int i))) (hb : Pv X b r (.d (.int j))) : Pv X (.Compare a [.Eq] [b] pos) r (.d (.bool (decide (i = j)))) := pv_cmp op_eq ha hb eqI_op (nomark _)
theorem pt_eqI {i j : Int} (ha : Pv X a r (.d (.int i))) (hb : Pv X b r (.d (.int j))) : Pt X (.Compare a [.Eq] [b] pos) r (decide (i = j)) := pt_cmp op_eq ha hb eqI_op (nomark _)
theorem pv_neI {i j : Int} (ha : Pv X a r (.d (.int i))) (hb : Pv X b r (.d (.int j))) : Pv X (.Compare a [.NotEq] [b] pos) r (.d (.bool (!decide (i = j)))) := pv_cmp op_ne ha hb neI_op (nomark _)
theorem pt_neI {i j : Int} (ha : Pv X a r (.d (.int i))) (hb : Pv X b r (.d (.int j))) : Pt X (.Compare a [.NotEq] [b] pos) r (!decide (i = j)) := pt_cmp op_ne ha hb neI_op (nomark _)
theorem pv_eqS {i j : Str} (ha : Pv X a r (.d (.str i))) (hb : Pv X b r (.d (.str j))) : Pv X (.Compare a [.Eq] [b] pos) r (.d (.bool (decide (i = j)))) := pv_cmp op_eq ha hb eqS_op (nomark _)
theorem pt_eqS {i j : Str} (ha : Pv X a r (.d (.str i))) (hb : Pv X b r (.d (.str j))) : Pt X (.Compare a [.Eq] [b] pos) r (decide (i = j)) := pt_cmp op_eq ha hb eqS_op (nomark _)
theorem pt_neS {i j : Str} (ha : Pv X a r (.d (.str i))) (hb : Pv X b r (.d (.str j))) : Pt X (.Compare a [.NotEq] [b] pos) r (!decide (i = j)) := pt_cmp op_ne ha hb neS_op (nomark _)
theorem pv_eqB {i j : Bool} (ha : Pv X a r (.d (.bool i))) (hb : Pv X b r (.d (.bool j))) : Pv X (.Compare a [.Eq] [b] pos) r (.d (.bool (decide (i = j)))) := pv_cmp op_eq ha hb eqB_op (nomark _)
theorem pt_eqB {i j : Bool} (ha : Pv X a r (.d (.bool i))) (hb : Pv X b r (.d (.bool j))) : Pt X (.Compare a [.Eq] [b] pos) r (decide (i = j)) := pt_cmp op_eq ha hb eqB_op (nomark _)
theorem pv_isB {i j : Bool} (ha : Pv X a r (.d (.bool i))) (hb : Pv X b r (.d (.bool j))) : Pv X (.Compare a [.Is] [b] pos) r (.d (.bool (decide (i = j)))) :=
  pv_cmp op_isBl ha hb (fun x y G H Q g h1 h2 k => ⟨i, j, den_bool h1, den_bool h2, k _ G H (Gr.refl g) (Dp.bl _)⟩) (nomark _)
theorem pt_isB {i j : Bool} (ha : Pv X a r (.d (.bool i))) (hb : Pv X b r (.d (.bool j))) : Pt X (.Compare a [.Is] [b] pos) r (decide (i = j)) :=
  pt_cmp op_isBl ha hb (fun x y G H Q g h1 h2 k => ⟨i, j, den_bool h1, den_bool h2, k _ G H (Gr.refl g) (Dp.bl _)⟩) (nomark _)
theorem pt_notB {i j : Bool} (ha : Pv X a r (.d (.bool i))) (hb : Pv X b r (.d (.bool j))) : Pt X (.Compare a [.IsNot] [b] pos) r (!decide (i = j)) :=
  pt_cmp op_notBl ha hb (fun x y G H Q g h1 h2 k => ⟨i, j, den_bool h1, den_bool h2, k _ G H (Gr.refl g) (Dp.bl _)⟩) (nomark _)
/-- a written dict with text keys and int values: what .get tells -/
structure Kd (K : PySem.W.Frag) (w : World) (d : Addr) (get : Str → Option Int) : Prop where
  ex : ∃ es n, L2.KDict K w d es n ∧ ∀ x, PySem.W.nsIn K d x = some none ∧ get x = none ∨ ∃ i t, PySem.W.nsIn K d x = some (some (.int i t)) ∧ get x = some i
/-- D.get(e, f), D a name of the module -/
theorem pv_kget {x : Str} {q : Addr} {get : Str → Option Int} {y : Str} {j : Int} (D : Kd X.K X.w q get) (hm : X.mg x = some (.ref q)) (ha : Pv X e r (.d (.str y))) (hb : Pv X f r (.d (.int j))) (m : M2 X (.Name x p) "get" apos e f cpos) (hg : Gl X x := by rfl) (hdb : (x == ("__debug__" : Str)) = false := by decide) :
    Pv X (.Call (.Attribute (.Name x p) "get" apos) [e, f] [] cpos) r (.d (.int ((get y).getD j))) := fun σ G H g n pins s I => by
  obtain ⟨es, nn, KD, hget⟩ := D.ex
  refine wpAny_Call_method m.base m.few m.line PySem.F.plainAttrs_dict PySem.F.slot_dict_get PySem.F.type_dict_get (ld_glob I hg hm ?_ hdb)
  have hM := PySem.W.mapOf_K (prog := X.prog) (w := X.w) I.kIn KD.at_ KD.lit
  have hO := I.kIn _ _ KD.at_
  refine ⟨hM.typeIs, fun a2 e2 => (by cases e2; exact ⟨_, hO, rfl⟩), ?_⟩
  rw [m.trees]
  refine Calls.callWith_builtin rfl (Calls.evalArgs_plain (Calls.spliced_cons (thn (ha σ G H g n pins s I) fun iv s2 ⟨y', H2, I2, ry, G2, k2, q2⟩ =>
    Calls.spliced_cons (thn (hb σ G2 H2 k2.s (n.up k2.g) pins s2 I2) fun fv s3 ⟨z, H3, I3, rz, G3, k3, q3⟩ => Calls.spliced_nil ?_))))
  rw [den_str q2] at ry
  rw [den_int q3] at rz
  obtain ⟨t, rfl⟩ := ry
  obtain ⟨t', rfl⟩ := rz
  have hM3 := PySem.W.mapOf_K (prog := X.prog) (w := X.w) I3.kIn KD.at_ KD.lit
  refine call_meetsIn PySem.F.slot_dict_get hM3.typeIs PySem.F.entry_dict_get (PySem.F.args_dict_get_3 _ _ _) (meets_dict_get_default (PySem.strKind X.prog X.w) q (PySem.strKind_is X.prog X.w y t) KD.low (.int j t')) ⟨_, hM3, ?_⟩
  rcases hget y with ⟨h1, h2⟩ | ⟨i, u, h1, h2⟩
  · rw [PySem.W.find_K KD.at_ h1, h2]
    exact ⟨.int j, H3, I3.tok _, ⟨t', rfl⟩, G3, k2.trans k3, Dp.int j⟩
  · rw [PySem.W.find_K KD.at_ h1, h2]
    exact ⟨.int i, H3, I3.tok _, ⟨u, rfl⟩, G3, k2.trans k3, Dp.int i⟩
/-- sep.join(list of texts) -/
theorem pv_join {z : Str} {ss : List Str} (ho : Pv X o r (.d (.str z))) (ha : Pv X e r (.d (.list (ss.map PyData.str)))) (hl : (ss.map (·.length)).sum + ss.length * z.length ≤ 16777216) (hs : starEach [e] X.env = [(false, eval e X.env)] := by rfl) (hbase : attributeBase o "join" X.env (eval o X.env) = eval o X.env := by rfl) (hline : (apos.endLine == pos.line) = true := by rfl) :
    Pv X (.Call (.Attribute o "join" apos) [e] [] pos) r (.d (.str (Txt.join z ss))) := fun σ G H g n =>
  wE_of (pe_join pe_w pe_w hs hbase hline) (wE_imp (ho σ G H g n) fun x H1 ⟨G1, k1, q1⟩ => ⟨⟨z, den_str q1⟩, wE_imp (ha σ G1 H1 k1.s (n.up k1.g)) fun y H2 ⟨G2, k2, q2⟩ => by
    cases q2 with
    | lst h1 h2 =>
      have hv := strs_flat h2
      subst hv
      exact ⟨z, _, ss, den_str q1, rfl, .inl (.inl (ex_rd k2.s h1)), hl, G2, k1.trans k2, Dp.str _⟩⟩)
end
end Fb

/-! FbM: what worlds.py tells, as plain functions of data. -/
namespace Fb
open PySem
def within (y : PyData) (lo hi : Int) : Bool := match y with
  | .int i => decide (lo ≤ i) && decide (i ≤ hi)
  | _ => false
theorem within_int {y : PyData} {lo hi : Int} (h : within y lo hi = true) : ∃ i, y = .int i ∧ lo ≤ i ∧ i ≤ hi := by
  cases y with
  | int i =>
    unfold within at h
    rw [Bool.and_eq_true, decide_eq_true_iff, decide_eq_true_iff] at h
    exact ⟨i, rfl, h.1, h.2⟩
  | _ => cases h
def keyNames : List Str := ["rank", "first", "short", "early"]
def smallTxt : Str := "abcdefghijklmnopqrstuvwxyz"
/-- the texts of a list of data that are all texts -/
def strsOf : List PyData → Option (List Str)
  | [] => some []
  | .str s :: r => (strsOf r).map (s :: ·)
  | _ => none
theorem strsOf_some : ∀ {xs : List PyData} {ss : List Str}, strsOf xs = some ss → xs = ss.map PyData.str
  | [], ss, h => by cases h; rfl
  | .str s :: r, ss, h => by
    unfold strsOf at h
    cases q : strsOf r with
    | none => rw [q] at h; cases h
    | some t =>
      rw [q] at h
      cases h
      rw [strsOf_some q]
      rfl
  | .none :: r, ss, h => by cases h
  | .bool _ :: r, ss, h => by cases h
  | .int _ :: r, ss, h => by cases h
  | .list _ :: r, ss, h => by cases h
  | .tuple _ :: r, ss, h => by cases h
  | .dict _ :: r, ss, h => by cases h
theorem strsOf_map (ss : List Str) : strsOf (ss.map PyData.str) = some ss := by
  induction ss with
  | nil => rfl
  | cons s ss ih => show (strsOf (ss.map PyData.str)).map (s :: ·) = _; rw [ih]; rfl
/-- not a key -/
def noKey (y : PyData) : Bool := match y with
  | .str s => !keyNames.contains s
  | _ => true
def keysOk (ks : List PyData) : Bool := match strsOf ks with
  | some ss => ss.all (keyNames.contains ·) && decide (dcn ss = ss.length)
  | none => false
def isWorld : PyData → Bool
  | .tuple [a, b, .tuple ks] => within a 1 5 && within b 1 3 && keysOk ks
  | _ => false
def isName : PyData → Bool
  | .str s => decide (1 ≤ (s.length : Int)) && decide ((s.length : Int) ≤ 4) && s.cps.toList.all fun c => decide (c ∈ smallTxt.cps.toList)
  | _ => false
def isPlace (rooms long : Int) (room hour : PyData) : Bool := within room 0 (rooms - 1) && within hour 0 (24 - long)
def isWish (rooms : Int) : PyData → Bool
  | .tuple [nm, room, hour, .int long, rank] => isName nm && (decide (1 ≤ long) && decide (long ≤ 6)) && (isPlace rooms long room hour && within rank 0 9)
  | _ => false
def isBooking (copies : Int) : PyData → Bool
  | .tuple [a, b] => within a 0 (copies - 1) && within b 0 11
  | _ => false
def isMoment (copies : Int) : PyData → Bool
  | .tuple [a, b] => within a 1 9999 && within b 0 (copies - 1)
  | _ => false
def isSpot (rooms : Int) : PyData → Bool
  | .tuple [a, b] => isPlace rooms 1 a b
  | _ => false
/-- the moment's copy is the booking's -/
def sameCopy : PyData → PyData → Bool
  | .tuple [_, .int m], .tuple [.int c, _] => decide (m = c)
  | _, _ => false
def isFact (copies rooms : Int) : PyData → Bool
  | .tuple [.str s, b] => decide (s = "off") && isBooking copies b
  | .tuple [.str s, b, m, p] => isBooking copies b && isMoment copies m && (decide (s = "wish") && (isWish rooms p && sameCopy m b) || decide (s = "pin") && isSpot rooms p)
  | _ => false
mutual
/-- every text, tuple, list within is short -/
def szOk : PyData → Bool
  | .str s => decide (s.length ≤ 1000)
  | .list xs => decide (xs.length ≤ 1000) && szAll xs
  | .tuple xs => decide (xs.length ≤ 1000) && szAll xs
  | .dict _ => false
  | _ => true
def szAll : List PyData → Bool
  | [] => true
  | x :: xs => szOk x && szAll xs
end
theorem szAll_iff : ∀ {xs : List PyData}, szAll xs = true ↔ ∀ x ∈ xs, szOk x = true
  | [] => by simp [szAll]
  | x :: xs => by
    rw [szAll, Bool.and_eq_true, szAll_iff]
    simp
theorem szOk_tup {xs : List PyData} (h : szOk (.tuple xs) = true) : xs.length ≤ 1000 ∧ ∀ x ∈ xs, szOk x = true := by
  rw [szOk, Bool.and_eq_true, decide_eq_true_iff, szAll_iff] at h
  exact h
theorem szOk_str {s : Str} (h : szOk (.str s) = true) : s.length ≤ 1000 := by
  rw [szOk, decide_eq_true_iff] at h
  exact h
theorem strOk_sz {y : PyData} (h : szOk y = true) : strOk y := by
  cases y with
  | str s =>
    have := szOk_str h
    show s.length ≤ sizeLine
    rw [sizeLine_eq]
    omega
  | _ => trivial
/-- a world as a datum -/
def wD (c r : Int) (ks : List Str) : PyData := .tuple [.int c, .int r, .tuple (ks.map PyData.str)]
theorem isWorld_shape {y : PyData} (h : isWorld y = true) : ∃ c r ks, y = wD c r ks ∧ 1 ≤ c ∧ c ≤ 5 ∧ 1 ≤ r ∧ r ≤ 3 ∧ (∀ k ∈ ks, k ∈ keyNames) ∧ ks.Nodup := by
  unfold isWorld at h
  split at h
  · rename_i a b ks
    rw [Bool.and_eq_true, Bool.and_eq_true] at h
    obtain ⟨⟨h1, h2⟩, h3⟩ := h
    obtain ⟨c, rfl, c1, c2⟩ := within_int h1
    obtain ⟨r, rfl, r1, r2⟩ := within_int h2
    unfold keysOk at h3
    split at h3
    · rename_i ss hs
      rw [Bool.and_eq_true, decide_eq_true_iff, List.all_eq_true] at h3
      refine ⟨c, r, ss, by rw [strsOf_some hs]; rfl, c1, c2, r1, r2, fun k hk => ?_, (dcn_nodup ss).mp h3.2⟩
      exact List.contains_iff_mem.mp (h3.1 k hk)
    · cases h3
  · cases h
end Fb

/-! FbF: expressions and statements that change owned objects; try; calls of methods; the book of a copy. -/
namespace Fb
open PySem PySem.Spec PyProof.Rows L2 Evl
/-- as Gr, but what stands at os may change -/
structure Gx (os : List Addr) (G H G2 H2 : Hp) : Prop where
  g : Ex G G2
  s : Ex G2 H2
  h : ∀ a o, a ∉ os → H a = some o → H2 a = some o
  t : ∀ a, H a ≠ none → H2 a ≠ none
  f : ∀ a, G a = none → G2 a ≠ none → H a = none
section
variable {os os' : List Addr} {G H G1 H1 G2 H2 : Hp}
theorem some_ne {H : Hp} {a : Addr} {o : HO} (h : H a = some o) : H a ≠ none := by rw [h]; exact fun z => nomatch z
theorem ne_some {H : Hp} {a : Addr} (h : H a ≠ none) : ∃ o, H a = some o := by
  cases q : H a with
  | none => exact absurd q h
  | some o => exact ⟨o, rfl⟩
theorem Gr.x (k : Gr G H G2 H2) : Gx os G H G2 H2 := ⟨k.g, k.s, fun a o _ h => k.h a o h, fun a h => by
  obtain ⟨o, q⟩ := ne_some h
  exact some_ne (k.h a o q), k.f⟩
theorem Gx.trans (a : Gx os G H G1 H1) (b : Gx os G1 H1 G2 H2) : Gx os G H G2 H2 := ⟨a.g.trans b.g, b.s, fun x o n h => b.h x o n (a.h x o n h), fun x h => b.t x (a.t x h), fun x h1 h2 => by
  cases q : G1 x with
  | none =>
    have z := b.f x q h2
    cases w : H x with
    | none => rfl
    | some o => exact absurd z (a.t x (some_ne w))
  | some o => exact a.f x h1 (some_ne q)⟩
theorem Gx.mono (s : ∀ a, a ∈ os → a ∈ os') (k : Gx os G H G2 H2) : Gx os' G H G2 H2 := ⟨k.g, k.s, fun a o n h => k.h a o (fun z => n (s a z)) h, k.t, k.f⟩
theorem Gx.set {p : Addr} {o : HO} (e : Ex G H) (hp : p ∈ os) (hg : G p = none) : Gx os G H G (upd H p o) := ⟨Ex.refl G, e.mut hg, fun a u n h => by
    rw [upd_ne (show a ≠ p from fun z => n (by rw [z]; exact hp))]; exact h, fun a h => by
    by_cases z : a = p
    · subst z; rw [upd_same]; exact fun z => nomatch z
    · rw [upd_ne z]; exact h, fun a h1 h2 => absurd h1 h2⟩
theorem Gx.lay {p : Addr} {o : HO} (e : Ex G H) (hp : H p = none) : Gx os G H G (upd H p o) := ⟨Ex.refl G, e.trans (Ex.new hp), fun a u _ h => Ex.new hp a u h, fun a h => by
    obtain ⟨o, q⟩ := ne_some h
    exact some_ne (Ex.new hp a o q), fun a h1 h2 => absurd h1 h2⟩
theorem Gx.gr (h : ∀ a, a ∈ os → H a = none) (k : Gx os G H G2 H2) : Gr G H G2 H2 := ⟨k.g, k.s, fun a o q => k.h a o (fun z => by rw [h a z] at q; cases q) q, k.f⟩
theorem Gr.lay {p : Addr} {o : HO} (e : Ex G H) (hp : H p = none) : Gr G H G (upd H p o) := ⟨Ex.refl G, e.trans (Ex.new hp), Ex.new hp, fun a h1 h2 => absurd h1 h2⟩
theorem Gr.out {a : Addr} (k : Gr G H G2 H2) (hg : G a = none) (hh : H a ≠ none) : G2 a = none := by
  cases q : G2 a with
  | none => rfl
  | some o => exact absurd (k.f a hg (some_ne q)) hh
theorem Gx.out {a : Addr} (k : Gx os G H G2 H2) (hg : G a = none) (hh : H a ≠ none) : G2 a = none := by
  cases q : G2 a with
  | none => rfl
  | some o => exact absurd (k.f a hg (some_ne q)) hh
theorem Gr.upd {p : Addr} {o : HO} (k : Gr G H G2 H2) (hg : G p = none) (hp : H p ≠ none) : Gr G (L2.upd H p o) G2 (L2.upd H2 p o) := by
  have h2 := k.out hg hp
  refine ⟨k.g, k.s.mut h2, fun a u h => ?_, fun a h1 h3 => ?_⟩
  · by_cases z : a = p
    · subst z; rw [upd_same] at h ⊢; exact h
    · rw [upd_ne z] at h ⊢; exact k.h a u h
  · have z : a ≠ p := fun z => by subst z; exact h3 h2
    rw [upd_ne z]
    exact k.f a h1 h3
end

/-! ### expressions that may change what is owned -/
def Fx (X : Cx) (e : Expr) (r : Rho) (G H : Hp) (Q : V → Hp → Hp → Prop) : Prop := ∀ σ, En X.K G σ r → wE X e σ H fun v H2 => ∃ G2, Ex G G2 ∧ Ex G2 H2 ∧ Q v G2 H2
def Ft (X : Cx) (e : Expr) (r : Rho) (G H : Hp) (Q : Bool → Hp → Hp → Prop) : Prop := ∀ σ, En X.K G σ r → wT X e σ H fun v H2 => ∃ G2, Ex G G2 ∧ Ex G2 H2 ∧ Q v G2 H2
/-- what is owned may be read: r' tells of it -/
structure Own (K : PySem.W.Frag) (os : List Addr) (r r' : Rho) (G H : Hp) : Prop where
  no : ∀ a, a ∈ os → G a = none
  ob : ∀ a, a ∈ os → ∃ o, H a = some o ∧ (∀ xs, o ≠ .tup xs) ∧ ∀ z u, o ≠ .frz z u
  en : ∀ σ, En K G σ r → En K (plus G H os) σ r'
theorem Own.tup {K : PySem.W.Frag} {os : List Addr} {r r' : Rho} {G H G2 H2 : Hp} (O : Own K os r r' G H) (k : Gr (plus G H os) H G2 H2) {y : PyData} {v : V} (hi : imm y = true) (q : Dp K G2 v y) : Dp K (minus G2 os) v y :=
  dp_imm (minus_t fun a ha xs z => by
    obtain ⟨o, h1, h2, h3⟩ := O.ob a ha
    have h4 : G2 a = some o := k.g a o (by rw [plus_in ha]; exact h1)
    rcases z with z | ⟨u, z⟩
    · rw [h4] at z; cases z; exact h2 _ rfl
    · rw [h4] at z; cases z; exact h3 _ _ rfl) y v hi q
section
variable {X : Cx} {a b c e o : Expr} {es : List Expr} {sts ss rest : List Stmt} {r r' : Rho} {d d1 d2 d3 : Dn} {pos p p1 p2 p3 p4 apos : Pos} {D : Ends} {G0 H0 G H : Hp} {W : WX} {Q : V → Hp → Hp → Prop} {T : Bool → Hp → Hp → Prop} {os : List Addr}
theorem fx_pv (g : Ex G H) (h : Pv X e r d) (k : ∀ v G2 H2, Gr G H G2 H2 → Den X.K G2 v d → Q v G2 H2) : Fx X e r G H Q := fun σ n => wE_imp (h σ G H g n) fun v H2 ⟨G2, k2, q⟩ => ⟨G2, k2.g, k2.s, k v G2 H2 k2 q⟩
theorem ft_pt {q : Bool} (g : Ex G H) (h : Pt X e r q) (k : ∀ G2 H2, Gr G H G2 H2 → T q G2 H2) : Ft X e r G H T := fun σ n => wT_imp (h σ G H g n) fun v H2 ⟨G2, k2, q⟩ => ⟨G2, k2.g, k2.s, by rw [q]; exact k G2 H2 k2⟩
theorem fx_own {y : PyData} (g : Ex G H) (O : Own X.K os r r' G H) (h : Pv X e r' (.d y)) (hi : imm y = true) (k : ∀ v G2 H2, Gr G H G2 H2 → Dp X.K G2 v y → Q v G2 H2) : Fx X e r G H Q := fun σ n =>
  wE_imp (h σ _ H (plus_s g) (O.en σ n)) fun v H2 ⟨G2, k2, q⟩ => by
    have kb := own_back O.no k2
    exact ⟨_, kb.g, kb.s, k v _ H2 kb (O.tup k2 hi q)⟩
theorem ft_own {q : Bool} (g : Ex G H) (O : Own X.K os r r' G H) (h : Pt X e r' q) (k : ∀ G2 H2, Gr G H G2 H2 → T q G2 H2) : Ft X e r G H T := fun σ n =>
  wT_imp (h σ _ H (plus_s g) (O.en σ n)) fun v H2 ⟨G2, k2, q⟩ => by
    have kb := own_back O.no k2
    exact ⟨_, kb.g, kb.s, by rw [q]; exact k _ H2 kb⟩
theorem fx_eq (h : Fx X a r G H fun x G1 H1 => Fx X b r G1 H1 fun y G2 H2 => scal x y = true ∧ Q (.bl (decide (x = y))) G2 H2) : Fx X (.Compare a [.Eq] [b] pos) r G H Q := fun σ n =>
  wE_of (pe_cmpR op_eq pe_w pe_w (nomark _)) (wE_imp (h σ n) fun x H1 ⟨G1, e1, s1, k1⟩ => wE_imp (k1 σ (n.up e1)) fun y H2 ⟨G2, e2, s2, k2, k3⟩ => ⟨k2, G2, e1.trans e2, s2, k3⟩)
theorem ft_eq (h : Fx X a r G H fun x G1 H1 => Fx X b r G1 H1 fun y G2 H2 => scal x y = true ∧ T (decide (x = y)) G2 H2) : Ft X (.Compare a [.Eq] [b] pos) r G H T := fun σ n =>
  wT_of (pt_cmpR op_eq pe_w pe_w (nomark _)) (wE_imp (h σ n) fun x H1 ⟨G1, e1, s1, k1⟩ => wE_imp (k1 σ (n.up e1)) fun y H2 ⟨G2, e2, s2, k2, k3⟩ => ⟨k2, _, rfl, G2, e1.trans e2, s2, k3⟩)
theorem fx_and (h : Fx X a r G H fun x G1 H1 => ∃ q : Bool, x = .bl q ∧ (q = true → Fx X b r G1 H1 Q) ∧ (q = false → Q (.bl false) G1 H1)) : Fx X (.BoolOp .And [a, b] pos) r G H Q := fun σ n =>
  wE_of (pe_and pe_w (pe_one pe_w)) (wE_imp (h σ n) fun x H1 ⟨G1, e1, s1, q, hx, kt, kf⟩ => ⟨q, hx, by
    cases q with
    | true => exact wE_imp (kt rfl σ (n.up e1)) fun y H2 ⟨G2, e2, s2, k2⟩ => ⟨G2, e1.trans e2, s2, k2⟩
    | false => exact ⟨G1, e1, s1, kf rfl⟩⟩)
/-- [], {} that are to be owned -/
theorem fx_newL (g : Ex G H) (k : ∀ l, H l = none → Q (.ref l) G (upd H l (.lst []))) : Fx X (.List [] pos) r G H Q := fun σ n =>
  wE_of (pe_lst L2.pa_nil) ⟨sz_of (by simp), fun l hl => ⟨G, Ex.refl G, g.trans (Ex.new hl), k l hl⟩⟩
theorem fx_newD (g : Ex G H) (k : ∀ l, H l = none → Q (.ref l) G (upd H l (.dT []))) : Fx X (.Dict [] [] pos) r G H Q := fun σ n =>
  wE_of pe_dnewT fun l hl => ⟨G, Ex.refl G, g.trans (Ex.new hl), k l hl⟩

/-! ### attributes -/
/-- o.f, the very value -/
theorem fx_fld {q C : Addr} {f : Str} (g : Ex G H) (hc : Cls X.K C) (hn : NoAttr X.K C f) (ho : Pv X o r (.v (.ref q))) (k : ∀ G2 H2, Gr G H G2 H2 → ∃ dx fs v, H2 q = some (.ins C dx fs) ∧ fs.lookup f = some v ∧ Q v G2 H2) (hb : attributeBase o f X.env (eval o X.env) = eval o X.env := by rfl) : Fx X (.Attribute o f pos) r G H Q := fun σ n =>
  wE_of (pe_fld pe_w hb) (wE_imp (ho σ G H g n) fun x H1 ⟨G1, k1, q1⟩ => by
    obtain rfl : x = .ref q := q1
    obtain ⟨dx, fs, v, h1, h2, h3⟩ := k G1 H1 k1
    exact ⟨q, C, dx, fs, v, rfl, h1, hc, hn, h2, G1, k1.g, k1.s, h3⟩)
/-- o.f = e -/
theorem gx_fld {q C : Addr} {f : Str} {p' : Pos} (hc : Cls X.K C) (hn : NoAttr X.K C f) (ho : Pv X o r (.v (.ref q)))
    (h : ∀ G H, Gr G0 H0 G H → Fx X e r G H fun v G1 H1 => ∃ dx fs, H1 q = some (.ins C dx fs) ∧ fs.length < 1000 ∧ G1 q = none ∧ Go X rest D G1 (upd H1 q (.ins C dx (putF f v fs))) r)
    (hs : swapsWith e (some (.Attribute o f p')) pos.line X.env = pure false := by rfl) : Go X (.Assign [.Attribute o f p'] e pos :: rest) D G0 H0 r := fun σ G H g n =>
  wSs_of (pss_cons (ps_fld pe_w pe_w hs) pss_w) (wE_imp (h G H g σ n) fun v H1 ⟨G1, e1, s1, dx, fs, h1, h2, h3, h4⟩ => wE_imp (ho σ G1 H1 s1 (n.up e1)) fun x H2 ⟨G2, k2, q2⟩ => by
    obtain rfl : x = .ref q := q2
    exact ⟨q, C, dx, fs, rfl, k2.h _ _ h1, hc, hn, h2, h4 σ G2 _ (k2.upd h3 (some_ne h1)) ((n.up e1).up k2.g)⟩)
/-- o.f += e, ints -/
theorem gx_inc {q C : Addr} {f : Str} {p' : Pos} {j : Int} (hc : Cls X.K C) (hn : NoAttr X.K C f) (ho : Pv X o r (.v (.ref q))) (he : Pv X e r (.d (.int j)))
    (h : ∀ G H, Gr G0 H0 G H → ∃ dx fs i, H q = some (.ins C dx fs) ∧ fs.lookup f = some (.int i) ∧ fs.length < 1000 ∧ G q = none ∧ Go X rest D G (upd H q (.ins C dx (putF f (.int (i + j)) fs))) r) : Go X (.AugAssign (.Attribute o f p') .Add e pos :: rest) D G0 H0 r := fun σ G H g n =>
  wSs_of (pss_cons (ps_fldaug pe_w pe_w in_add) pss_w) (wE_imp (ho σ G H g.s n) fun x H1 ⟨G1, k1, q1⟩ => by
    obtain rfl : x = .ref q := q1
    obtain ⟨dx, fs, i, h1, h2, h3, h4, h5⟩ := h G H g
    refine ⟨q, C, dx, fs, .int i, rfl, k1.h _ _ h1, hc, hn, h2, wE_imp (he σ G1 H1 k1.s (n.up k1.g)) fun y H2 ⟨G2, k2, q2⟩ => ?_⟩
    rw [den_int q2]
    have kk := k1.trans k2
    exact ⟨i, j, rfl, rfl, dx, fs, kk.h _ _ h1, h3, h5 σ G2 _ (kk.upd h4 (some_ne h1)) (n.up kk.g)⟩)
/-- o.append(e) -/
theorem fx_append {cpos : Pos} (h : Fx X o r G H fun x G1 H1 => ∃ l ys, x = .ref l ∧ H1 l = some (.lst ys) ∧ Fx X e r G1 H1 fun y G2 H2 => ∃ xs, H2 l = some (.lst xs) ∧ xs.length < sizeLine ∧ G2 l = none ∧ Q .non G2 (upd H2 l (.lst (xs ++ [y]))))
    (hbase : attributeBase o "append" X.env (eval o X.env) = eval o X.env := by rfl)
    (hfew : ((backTo cpos (starEach [e] X.env)).all (fun x => !x.1) && (backToKw cpos (keywordEach [] X.env)).all (fun x => x.1.isSome) && decide ([e].length + ([] : List Keyword).length + (if ([] : List Keyword).isEmpty then 0 else 1) < 30)) = true := by rfl)
    (hline : (apos.endLine == cpos.line) = true := by rfl) (hs : starEach [e] X.env = (false, eval e X.env) :: starEach [] X.env := by rfl) (hplain : (backTo cpos (starEach [] X.env)).any (·.1) = false := by rfl) :
    Fx X (.Call (.Attribute o "append" apos) [e] [] cpos) r G H Q := fun σ n =>
  wE_of (pe_bm PySem.F.plainAttrs_list PySem.F.slot_list_append PySem.F.type_list_append mt_append pe_w (L2.pa_cons pe_w L2.pa_nil hs) hbase hfew hline hs hplain) (wE_imp (h σ n) fun x H1 ⟨G1, e1, s1, l, ys, hx, hl, k1⟩ => by
    subst hx
    refine ⟨.inl ⟨rfl, _, .inl (.inl hl)⟩, wE_imp (k1 σ (n.up e1)) fun y H2 ⟨G2, e2, s2, xs, h1, h2, h3, h4⟩ => ?_⟩
    exact ⟨l, xs, y, rfl, rfl, h1, h2, G2, e1.trans e2, s2.mut h3, h4⟩)

/-! ### statements -/
theorem gx_when (h : ∀ G H, Gr G0 H0 G H → Ft X c r G H fun b G1 H1 => (b = true → Go X ss { D with nx := wSs X rest D } G1 H1 r) ∧ (b = false → Go X rest D G1 H1 r)) : Go X (.If c ss [] pos :: rest) D G0 H0 r := fun σ G H g n =>
  wSs_of (pss_cons (ps_if pt_w pss_w pss_w) pss_w) (wT_imp (h G H g σ n) fun b H1 ⟨G1, e1, s1, k1⟩ => by
    cases b with
    | true => exact k1.1 rfl σ G1 H1 (Gr.refl s1) (n.up e1)
    | false => exact wSs_of pss_nil (k1.2 rfl σ G1 H1 (Gr.refl s1) (n.up e1)))
theorem gx_set (i : Nat) {x : Str} {p' : Pos} (h : ∀ G H, Gr G0 H0 G H → Fx X e r G H fun v G1 H1 => ∃ d, Den X.K G1 v d ∧ Go X rest D G1 H1 (r.set i (some d))) (hN : X.N.Nodup) (hi : X.N[i]? = some x := by rfl) (hx : Loc X.env.scope x := by first | exact Or.inl rfl | exact Or.inr rfl)
    (hs : swapsWith e (some (.Name x p')) pos.line X.env = pure false := by rfl) (hf : X.fn x = true ∨ X.env.scope.names.lookup x = some .local := by first | exact .inl rfl | exact .inr rfl) : Go X (.Assign [.Name x p'] e pos :: rest) D G0 H0 r := fun σ G H g n =>
  wSs_of (pss_cons (ps_set hN hi hx pe_w hs hf) pss_w) (wE_imp (h G H g σ n) fun v H1 ⟨G1, e1, s1, d, q1, k1⟩ => k1 _ G1 H1 (Gr.refl s1) ((n.up e1).set i q1))
theorem gx_ret (h : ∀ G H, Gr G0 H0 G H → Fx X e r G H fun v _ H1 => D.rt v H1) : Go X (.Return (some e) pos :: rest) D G0 H0 r := fun σ G H g n =>
  wSs_of (pss_cons (ps_ret pe_w) pss_w) (wE_imp (h G H g σ n) fun v H1 ⟨G1, e1, s1, k1⟩ => k1)
theorem gx_expr (h : ∀ G H, Gr G0 H0 G H → Fx X e r G H fun _ G1 H1 => Go X rest D G1 H1 r) (hs : swapsWith e none pos.line X.env = pure false := by rfl) : Go X (.Expr e pos :: rest) D G0 H0 r := fun σ G H g n =>
  wSs_of (pss_cons (ps_expr pe_w hs) pss_w) (wE_imp (h G H g σ n) fun v H1 ⟨G1, e1, s1, k1⟩ => k1 σ G1 H1 (Gr.refl s1) (n.up e1))

/-! ### calls: defs, methods, classes; what they raise is wished for by W -/
theorem fx_call {x : Str} {k j : Nat} {sp : Sp} {ds : List Dn} (F : Fc X.prog X.w X.K X.mg X.base k x sp) (hr : Room j X.A) (tk : Takes X W) (g : Ex G H) (O : Own X.K os r r' G H) (ha : Pa X (e :: es) r' ds)
    (h : ∀ σ vs G1 H1, En X.K G σ r → Gr (plus G H os) H G1 H1 → Dens X.K G1 vs ds → sp vs H1 (fun v H2 => ∃ G2, Ex G G2 ∧ Ex G2 H2 ∧ Q v G2 H2) (WE W σ)) (hk : k ≤ j := by decide) (hg : Gl X x := by rfl)
    (hdb : (x == ("__debug__" : Str)) = false := by decide) (he : starEach (e :: es) X.env = (false, eval e X.env) :: starEach es X.env := by rfl) (hpl : (backTo pos (starEach es X.env)).any (·.1) = false := by rfl) :
    Fx X (.Call (.Name x p) (e :: es) [] pos) r G H Q := fun σ n => by
  obtain ⟨f, fd, ps, F, hm, hkp, hb⟩ := F.ex
  refine wE_of (pe_callS F (hr.mono hk) hg hm hkp hb (fun σ => passAt tk σ) pa_w hdb he hpl) (wA_imp (ha σ _ H (plus_s g) (O.en σ n)) fun vs H1 ⟨G1, k1, q1⟩ => ?_)
  exact h σ vs G1 H1 n k1 q1
/-- a call that keeps a pure promise, or raises -/
theorem fx_do {x : Str} {k j : Nat} {R : List Dn → Dn → Prop} {B : List Dn → Addr → Prop} {ds : List Dn} (F : Fc X.prog X.w X.K X.mg X.base k x (spR X.K R B)) (hr : Room j X.A) (tk : Takes X W) (g : Ex G H) (O : Own X.K os r r' G H) (ha : Pa X (e :: es) r' ds)
    (h : (∃ y, R ds (.d y) ∧ imm y = true ∧ ∀ v G2 H2, Gr G H G2 H2 → Dp X.K G2 v y → Q v G2 H2) ∨ (∃ C, B ds C ∧ ∀ σ G2 H2, Gr G H G2 H2 → En X.K G2 σ r → W (.ref C) none σ H2)) (hk : k ≤ j := by decide) (hg : Gl X x := by rfl)
    (hdb : (x == ("__debug__" : Str)) = false := by decide) (he : starEach (e :: es) X.env = (false, eval e X.env) :: starEach es X.env := by rfl) (hpl : (backTo pos (starEach es X.env)).any (·.1) = false := by rfl) :
    Fx X (.Call (.Name x p) (e :: es) [] pos) r G H Q := fx_call F hr tk g O ha (fun σ vs G1 H1 n k1 q1 => by
  refine ⟨ds, G1, k1.s, q1, ?_⟩
  rcases h with ⟨y, hR, hi, k⟩ | ⟨C, hB, k⟩
  · refine .inl ⟨_, hR, fun v G2 H2 k2 q2 => ?_⟩
    have k3 := k1.trans k2
    have kb := own_back O.no k3
    exact ⟨_, kb.g, kb.s, k v _ H2 kb (O.tup k3 hi q2)⟩
  · refine .inr ⟨C, hB, fun G2 H2 k2 => ?_⟩
    have kb := own_back O.no (k1.trans k2)
    exact k σ _ H2 kb (n.up kb.g)) hk hg hdb he hpl
end
end Fb

/-! FbG: methods, classes, try; the book of a copy. -/
namespace Fb
open PySem PySem.Spec PyProof.Rows L2 Evl
/-- arguments that may change what is owned -/
def Fa (X : Cx) (es : List Expr) (r : Rho) (G H : Hp) (Q : List V → Hp → Hp → Prop) : Prop := ∀ σ, En X.K G σ r → wA X es σ H fun v H2 => ∃ G2, Ex G G2 ∧ Ex G2 H2 ∧ Q v G2 H2
/-- the wish W at every slots that the environment tells -/
def Wx (X : Cx) (W : WX) (G : Hp) (r : Rho) : XK := fun cls d H' => ∀ σ, En X.K G σ r → W cls d σ H'
theorem pass_w {X : Cx} {W : WX} {G : Hp} {r : Rho} {σ : L2.St} (tk : Takes X W) (n : En X.K G σ r) : PassesAt (L2.CX X.prog X.w) X σ (Wx X W G r) := fun pins H s e s' I ⟨a, B, H', cls, d, h1, h2, h3, h4, h5, h6, h7, h8⟩ =>
  passAt tk σ pins H s e s' I ⟨a, B, H', cls, d, h1, h2, h3, h4, h5, h6, h7, h8 σ n⟩
/-- a method of the class at C that keeps sp; a class at C, by the name x, whose __init__ keeps sp -/
structure Fm (P : Program) (w : World) (K : PySem.W.Frag) (mg : Str → Option Value) (base : Heap) (k : Nat) (C : Addr) (m : Str) (sp : Sp) : Prop where
  ex : ∃ f fd ps, FnOk P w K mg base (L2.CX P w) k f fd ps sp ∧ Meth K C m f ∧ Binds K fd ps []
structure Fk (P : Program) (w : World) (K : PySem.W.Frag) (mg : Str → Option Value) (base : Heap) (k : Nat) (C : Addr) (x : Str) (sp : Sp) : Prop where
  ex : ∃ f fd ps, FnOk P w K mg base (L2.CX P w) k f fd ps sp ∧ Mk K C f ∧ Binds K fd ps [] ∧ mg x = some (.ref C)
section
variable {X : Cx} {a b c e o : Expr} {es : List Expr} {sts ss rest : List Stmt} {r r' : Rho} {d d1 d2 d3 : Dn} {pos p p1 p2 p3 p4 apos : Pos} {D : Ends} {G0 H0 G H : Hp} {W : WX} {Q : V → Hp → Hp → Prop} {QA : List V → Hp → Hp → Prop} {os : List Addr}
theorem fa_nil (g : Ex G H) (k : QA [] G H) : Fa X [] r G H QA := fun σ n => wA_of L2.pa_nil ⟨G, Ex.refl G, g, k⟩
theorem fa_cons (h : Fx X e r G H fun v G1 H1 => Fa X es r G1 H1 fun vs G2 H2 => QA (v :: vs) G2 H2) (hs : starEach (e :: es) X.env = (false, eval e X.env) :: starEach es X.env := by rfl) : Fa X (e :: es) r G H QA := fun σ n =>
  wA_of (L2.pa_cons pe_w pa_w hs) (wE_imp (h σ n) fun v H1 ⟨G1, e1, s1, k1⟩ => wA_imp (k1 σ (n.up e1)) fun vs H2 ⟨G2, e2, s2, k2⟩ => ⟨G2, e1.trans e2, s2, k2⟩)
theorem fa_pa {ds : List Dn} (g : Ex G H) (h : Pa X es r ds) (k : ∀ vs G2 H2, Gr G H G2 H2 → Dens X.K G2 vs ds → QA vs G2 H2) : Fa X es r G H QA := fun σ n => wA_imp (h σ G H g n) fun v H2 ⟨G2, k2, q⟩ => ⟨G2, k2.g, k2.s, k v G2 H2 k2 q⟩
theorem fx_tup {j0 : Nat} (h : Fa X es r G H fun vs G1 H1 => vs.length ≤ 100000 ∧ ∀ t, H1 t = none → Q (.ref t) (upd G1 t (.tup vs)) (upd H1 t (.tup vs))) : Fx X (.Tuple es j0 pos) r G H Q := fun σ n =>
  wE_of (pe_tup pa_w) (wA_imp (h σ n) fun vs H1 ⟨G1, e1, s1, hl, k1⟩ => ⟨sz_of hl, fun t ht => by
    have kn := Gr.new (o := .tup vs) s1 ht
    exact ⟨_, e1.trans kn.g, kn.s, k1 t ht⟩⟩)
theorem fx_callF {x : Str} {k j : Nat} {sp : Sp} (F : Fc X.prog X.w X.K X.mg X.base k x sp) (hr : Room j X.A) (tk : Takes X W)
    (h : Fa X (e :: es) r G H fun vs G1 H1 => sp vs H1 (fun v H2 => ∃ G2, Ex G1 G2 ∧ Ex G2 H2 ∧ Q v G2 H2) (Wx X W G1 r)) (hk : k ≤ j := by decide) (hg : Gl X x := by rfl)
    (hdb : (x == ("__debug__" : Str)) = false := by decide) (he : starEach (e :: es) X.env = (false, eval e X.env) :: starEach es X.env := by rfl) (hpl : (backTo pos (starEach es X.env)).any (·.1) = false := by rfl) :
    Fx X (.Call (.Name x p) (e :: es) [] pos) r G H Q := fun σ n pins s I => by
  obtain ⟨f, fd, ps, F, hm, hkp, hb⟩ := F.ex
  refine wpAny_Call_Name_kw (ld_glob I hg hm ?_ hdb)
  refine PySem.W.callWith_K (h₀ := X.base) I.ok.mod.kin hkp (thn (h σ n pos pins s I) fun us s1 ⟨vs, H1, I1, rv, G1, e1, s1', k1⟩ => ⟨I1.kIn, ?_⟩) he hpl
  exact thn (run_fnS (E := fun _ => Wx X W G1 r) F (hr.mono hk) hb (pass_w tk (n.up e1)) I1 rv k1) fun u s2 ⟨v, H2, I2, rv2, G2, e2, s2', k2⟩ => ⟨v, H2, I2, rv2, G2, e1.trans e2, s2', k2⟩
/-- o.m(e, ..) -/
theorem fx_meth {C q : Addr} {m : Str} {k j : Nat} {sp : Sp} {pl : Sem Bool} (F : Fm X.prog X.w X.K X.mg X.base k C m sp) (hc : Cls X.K C) (hr : Room j X.A) (tk : Takes X W) (g : Ex G H) (ho : Pv X o r (.v (.ref q)))
    (h : ∀ G1 H1, Gr G H G1 H1 → ∃ dx fs, H1 q = some (.ins C dx fs) ∧ fs.lookup m = none ∧ Fa X (e :: es) r G1 H1 fun vs G2 H2 => sp (.ref q :: vs) H2 (fun v H3 => ∃ G3, Ex G2 G3 ∧ Ex G3 H3 ∧ Q v G3 H3) (Wx X W G2 r)) (hk : k ≤ j := by decide)
    (hst : starEach (e :: es) X.env = (false, eval e X.env) :: starEach es X.env := by rfl) (hpl : (backTo pos (starEach es X.env)).any (·.1) = false := by rfl)
    (ht : eval (.Call (.Attribute o m apos) (e :: es) [] pos) X.env = (do
        let z ← eval o X.env
        standAt apos.atName
        let (u, first) ← holding [z] (getMethod z m pl)
        callWith pos u first (backTo pos (starEach (e :: es) X.env)) (backToKw pos (keywordEach [] X.env))) := by rfl) : Fx X (.Call (.Attribute o m apos) (e :: es) [] pos) r G H Q := fun σ n pins s I => by
  obtain ⟨f, fd, ps, F, hm, hb⟩ := F.ex
  refine PySem.W.methodCall_KW (pl := pl) (thn (ho σ G H g n pins s I) fun u s1 ⟨x, H1, I1, rx, G1, k1, q1⟩ => ?_) ht
  obtain rfl : x = .ref q := q1
  obtain rfl : u = Value.ref q := rx
  obtain ⟨dx, fs, h1, h2, h3⟩ := h G1 H1 k1
  refine getmeth_ok I1 h1 hc hm h2 ?_
  refine PySem.W.callWith_K (first := [.ref q]) (h₀ := X.base) I.ok.mod.kin hm.kp (thn (h3 σ (n.up k1.g) pos pins s1 I1) fun us s2 ⟨vs, H2, I2, rv, G2, e2, s2', k2⟩ => ⟨I2.kIn, ?_⟩) hst hpl
  exact thn (run_fnS (us := .ref q :: us) (vs := .ref q :: vs) (E := fun _ => Wx X W G2 r) F (hr.mono hk) hb (pass_w tk ((n.up k1.g).up e2)) I2 (.cons rfl rv) k2) fun u s3 ⟨v, H3, I3, rv3, G3, e3, s3', k3⟩ => ⟨v, H3, I3, rv3, G3, (k1.g.trans e2).trans e3, s3', k3⟩
theorem fx_meth0 {C q : Addr} {m : Str} {k j : Nat} {sp : Sp} {pl : Sem Bool} (F : Fm X.prog X.w X.K X.mg X.base k C m sp) (hc : Cls X.K C) (hr : Room j X.A) (tk : Takes X W) (g : Ex G H) (ho : Pv X o r (.v (.ref q)))
    (h : ∀ G1 H1, Gr G H G1 H1 → ∃ dx fs, H1 q = some (.ins C dx fs) ∧ fs.lookup m = none ∧ sp [.ref q] H1 (fun v H3 => ∃ G3, Ex G1 G3 ∧ Ex G3 H3 ∧ Q v G3 H3) (Wx X W G1 r)) (hk : k ≤ j := by decide)
    (ht : eval (.Call (.Attribute o m apos) [] [] pos) X.env = (do
        let z ← eval o X.env
        standAt apos.atName
        let (u, first) ← holding [z] (getMethod z m pl)
        callWith pos u first (backTo pos (starEach [] X.env)) (backToKw pos (keywordEach [] X.env))) := by rfl) : Fx X (.Call (.Attribute o m apos) [] [] pos) r G H Q := fun σ n pins s I => by
  obtain ⟨f, fd, ps, F, hm, hb⟩ := F.ex
  refine PySem.W.methodCall_KW (pl := pl) (thn (ho σ G H g n pins s I) fun u s1 ⟨x, H1, I1, rx, G1, k1, q1⟩ => ?_) ht
  obtain rfl : x = .ref q := q1
  obtain rfl : u = Value.ref q := rx
  obtain ⟨dx, fs, h1, h2, h3⟩ := h G1 H1 k1
  refine getmeth_ok I1 h1 hc hm h2 ?_
  exact PySem.W.callWith_K0 (first := [.ref q]) I1.kIn hm.kp (thn (run_fnS (us := [.ref q]) (vs := [.ref q]) (E := fun _ => Wx X W G1 r) F (hr.mono hk) hb (pass_w tk (n.up k1.g)) I1 (.cons rfl .nil) h3) fun u s3 ⟨v, H3, I3, rv3, G3, e3, s3', k3⟩ => ⟨v, H3, I3, rv3, G3, k1.g.trans e3, s3', k3⟩)
/-- C(e, ..) -/
theorem fx_make {C : Addr} {x : Str} {k j : Nat} {sp : Sp} (F : Fk X.prog X.w X.K X.mg X.base k C x sp) (hr : Room j X.A) (tk : Takes X W)
    (h : Fa X (e :: es) r G H fun vs G1 H1 => ∀ q dx, H1 q = none → H1 dx = none → dx ≠ q → sp (.ref q :: vs) (upd (upd H1 dx (.own q)) q (.ins C dx [])) (fun v H2 => v = .non ∧ ∃ G2, Ex G1 G2 ∧ Ex G2 H2 ∧ Q (.ref q) G2 H2) (Wx X W G1 r)) (hk : k + 1 ≤ j := by decide) (hg : Gl X x := by rfl)
    (hdb : (x == ("__debug__" : Str)) = false := by decide) (he : starEach (e :: es) X.env = (false, eval e X.env) :: starEach es X.env := by rfl) (hpl : (backTo pos (starEach es X.env)).any (·.1) = false := by rfl) :
    Fx X (.Call (.Name x p) (e :: es) [] pos) r G H Q := fun σ n pins s I => by
  obtain ⟨f, fd, ps, F, M, hb, hm⟩ := F.ex
  refine wpAny_Call_Name_kw (ld_glob I hg hm ?_ hdb)
  refine PySem.W.callWith_K (h₀ := X.base) I.ok.mod.kin M.kp (thn (h σ n pos pins s I) fun us s1 ⟨vs, H1, I1, rv, G1, e1, s1', k1⟩ => ⟨I1.kIn, ?_⟩) he hpl
  have hq := k1 (s1.heap.objs.size + 1) s1.heap.objs.size (I1.hok.fresh (Nat.le_succ _)) (I1.hok.fresh (Nat.le_refl _)) (Nat.ne_of_lt (Nat.lt_succ_self _))
  have I2 := Inv.made (C := C) I1
  have hl := F.len _ _ _ _ hq
  have r2 : Vals (V.ref (s1.heap.objs.size + 1) :: vs) (Value.ref (s1.heap.objs.size + 1) :: us) := .cons rfl rv
  rw [r2.length] at hl
  have bb := hb _ (Value.ref (s1.heap.objs.size + 1) :: us) I2.kIn (by rw [List.append_nil]; exact hl)
  rw [List.append_nil] at bb
  refine wpAny_call (make_map (f := f) I1.kIn M.makes M.init (beq_iff_eq.mp M.fn) (codeAny_mono (F.run _ X.stack _ _ _ _ _ _ _ ((hr.mono hk).make C us []) (I2.env0.make C us []) bb r2 hq) fun w s' hq' => ?_))
  cases w with
  | error e => exact pass_w tk (n.up e1) pins _ _ e s' I2 hq'
  | ok fl =>
    cases fl with
    | ret u =>
      obtain ⟨v, H', I3, rv3, ev, G2, e2, s2', k2⟩ := I2.after hq'
      subst ev
      exact ⟨rv3, ⟨V.ref (s1.heap.objs.size + 1), H', I3, rfl, G2, e1.trans e2, s2', k2⟩⟩
    | next => exact False.elim hq'
    | brk => exact False.elim hq'
    | cont => exact False.elim hq'
/-- o.m(..) by a pure promise, o a thing that is read -/
theorem pv_meth {C q : Addr} {fs : List (Str × Fd)} {m : Str} {k j : Nat} {R : List Dn → Dn → Prop} {B : List Dn → Addr → Prop} {ds : List Dn} {pl : Sem Bool} (F : Fm X.prog X.w X.K X.mg X.base k C m (spR X.K R B)) (hc : Cls X.K C) (hr : Room j X.A) (ho : Pv X o r (.ob q C fs)) (hn : fs.lookup m = none) (ha : Pa X (e :: es) r ds) (hR : R (.ob q C fs :: ds) d) (hk : k ≤ j := by decide)
    (hst : starEach (e :: es) X.env = (false, eval e X.env) :: starEach es X.env := by rfl) (hpl : (backTo pos (starEach es X.env)).any (·.1) = false := by rfl)
    (ht : eval (.Call (.Attribute o m apos) (e :: es) [] pos) X.env = (do
        let z ← eval o X.env
        standAt apos.atName
        let (u, first) ← holding [z] (getMethod z m pl)
        callWith pos u first (backTo pos (starEach (e :: es) X.env)) (backToKw pos (keywordEach [] X.env))) := by rfl) : Pv X (.Call (.Attribute o m apos) (e :: es) [] pos) r d := fun σ G H g n => by
  obtain ⟨f, fd, ps, F, hm, hb⟩ := F.ex
  refine wE_of (pe_meth (dvs := []) pe_w hc hm F (hr.mono hk) hb .nil passL pa_w hst hpl ht) (wE_imp (ho σ G H g n) fun x H1 ⟨G1, k1, q1⟩ => ?_)
  obtain ⟨dx, ws, rfl, h1, h2⟩ := q1
  refine ⟨q, dx, ws, rfl, k1.s _ _ h1, lookup_none h2 hn, wA_imp (ha σ G1 H1 k1.s (n.up k1.g)) fun vs H2 ⟨G2, k2, q2⟩ => ?_⟩
  rw [List.append_nil]
  exact ⟨_, G2, k2.s, .cons (Den.up (d := .ob q C fs) k2.g ⟨dx, ws, rfl, h1, h2⟩) q2, .inl ⟨d, hR, fun v G3 H3 k3 q3 => ⟨G3, (k1.trans k2).trans k3, q3⟩⟩⟩
where
  lookup_none {K : PySem.W.Frag} {H : Hp} {f : Str} : ∀ {ws : List (Str × V)} {fs : List (Str × Fd)}, Paired (fun (p : Str × V) (q : Str × Fd) => p.1 = q.1 ∧ DenF K H p.2 q.2) ws fs → fs.lookup f = none → ws.lookup f = none
  | _, _, .nil, _ => rfl
  | (a, v) :: ws, (b, g) :: fs, .cons ⟨h1, h2⟩ t, h => by
    have h1' : a = b := h1
    subst h1'
    rw [List.lookup_cons] at h ⊢
    cases q : f == a with
    | true => rw [q] at h; cases h
    | false => rw [q] at h; exact lookup_none t h
theorem pv_meth0 {C q : Addr} {fs : List (Str × Fd)} {m : Str} {k j : Nat} {R : List Dn → Dn → Prop} {B : List Dn → Addr → Prop} {pl : Sem Bool} (F : Fm X.prog X.w X.K X.mg X.base k C m (spR X.K R B)) (hc : Cls X.K C) (hr : Room j X.A) (ho : Pv X o r (.ob q C fs)) (hn : fs.lookup m = none) (hR : R [.ob q C fs] d) (hk : k ≤ j := by decide)
    (ht : eval (.Call (.Attribute o m apos) [] [] pos) X.env = (do
        let z ← eval o X.env
        standAt apos.atName
        let (u, first) ← holding [z] (getMethod z m pl)
        callWith pos u first (backTo pos (starEach [] X.env)) (backToKw pos (keywordEach [] X.env))) := by rfl) : Pv X (.Call (.Attribute o m apos) [] [] pos) r d := fun σ G H g n => by
  obtain ⟨f, fd, ps, F, hm, hb⟩ := F.ex
  refine wE_of (pe_meth0 (dvs := []) pe_w hc hm F (hr.mono hk) hb .nil passL ht) (wE_imp (ho σ G H g n) fun x H1 ⟨G1, k1, q1⟩ => ?_)
  obtain ⟨dx, ws, rfl, h1, h2⟩ := q1
  exact ⟨q, dx, ws, rfl, k1.s _ _ h1, pv_meth.lookup_none h2 hn, [.ob q C fs], G1, k1.s, .cons (show Den X.K G1 (.ref q) (.ob q C fs) from ⟨dx, ws, rfl, h1, h2⟩) .nil, .inl ⟨d, hR, fun v G3 H3 k3 q3 => ⟨G3, k1.trans k3, q3⟩⟩⟩

/-! ### try .. except .. except .. -/
def hTs (X : Cx) (suite : List Stmt) : Addr → Value → Option Addr → TS := fun a cls d D σ H => ∀ oe pn, Zc cls d oe → wSs (X.suite a ((a, oe) :: pn)) suite D σ H
theorem hd_cons {x : Str} {v : Value} {b₀ : Stmt} {suite : List Stmt} {np pos' : Pos} {hds : List ExceptHandler} {l : List (Value × (Addr → Value → Option Addr → TS))} (hc : Names X x v) (k : HdsOk X hds l) : HdsOk X (.ExceptHandler (some (.Name x np)) none (b₀ :: suite) pos' :: hds) ((v, hTs X (b₀ :: suite)) :: l) :=
  .cons hc (fun a oe cls d pn z _ => ⟨fun pins s σ H D I h => h oe pn z pins s I⟩) k
theorem go_try {body : List Stmt} {h₀ : ExceptHandler} {hds : List ExceptHandler} {l : List (Value × (Addr → Value → Option Addr → TS))} {Wout : WX} (tk : Takes X Wout) (hh : HdsOk X (h₀ :: hds) l)
    (hb : ∀ pn xe, Takes (X.tr pn xe) (wMany X.K Wout { D with nx := wSs X rest D } l) → Go (X.tr pn xe) body { D with nx := wSs X rest D } G0 H0 r) (hs : X.stack = X.env :: X.outer := by rfl) (hf : X.env.frame = some X.env.locals := by rfl) :
    Go X (.Try body (h₀ :: hds) [] [] pos :: rest) D G0 H0 r := fun σ G H g n =>
  wSs_of (pss_cons (ps_try_many (tb := fun W D σ H => ∀ pn xe, Takes (X.tr pn xe) W → wSs (X.tr pn xe) body D σ H) hs hf tk (fun W pn xe t _ => ⟨fun pins s σ H D I h => h pn xe t pins s I⟩) hh) pss_w) (fun pn xe t => hb pn xe t σ G H g n)
theorem many_hit {K : PySem.W.Frag} {Wout : WX} {cls c : Value} {dd : Option Addr} {ts : Addr → Value → Option Addr → TS} {l : List (Value × (Addr → Value → Option Addr → TS))} {σ : L2.St} (h : PySem.W.exmOne K cls c = some true) (k : ∀ a, H a = none → ts a cls dd D σ H) : wMany K Wout D ((c, ts) :: l) cls dd σ H := ⟨true, h, fun _ => k, fun q => nomatch q⟩
theorem many_miss {K : PySem.W.Frag} {Wout : WX} {cls c : Value} {dd : Option Addr} {ts : Addr → Value → Option Addr → TS} {l : List (Value × (Addr → Value → Option Addr → TS))} {σ : L2.St} (h : PySem.W.exmOne K cls c = some false) (k : wMany K Wout D l cls dd σ H) : wMany K Wout D ((c, ts) :: l) cls dd σ H := ⟨false, h, (fun q => nomatch q), fun _ => k⟩
end

/-! ### the book of a copy -/
structure Bk where
  c : Int
  r : Int
  ks : List Str
  mine : Int
  facts : List PyData
  clock : Int
  own : Int
  seen : List (List Key × PyData)
def Bk.wd (b : Bk) : PyData := wD b.c b.r b.ks
def Bk.fs (b : Bk) : List (Str × Fd) := [("world", .d b.wd), ("mine", .d (.int b.mine)), ("facts", .d (.list b.facts)), ("clock", .d (.int b.clock)), ("own", .d (.int b.own)), ("seen", .t b.seen)]
def bkF (b : Bk) (wv : V) (l sd : Addr) : List (Str × V) := [("world", wv), ("mine", .int b.mine), ("facts", .ref l), ("clock", .int b.clock), ("own", .int b.own), ("seen", .ref sd)]
structure CopyAt (K : PySem.W.Frag) (C : Addr) (G H : Hp) (p l sd : Addr) (b : Bk) : Prop where
  gp : G p = none
  gl : G l = none
  gs : G sd = none
  ex : ∃ dx wv fvs svs, H p = some (.ins C dx (bkF b wv l sd)) ∧ Dp K G wv b.wd ∧ H l = some (.lst fvs) ∧ DpAll K G fvs b.facts ∧ H sd = some (.dT svs) ∧ Paired (fun (p : List Key × V) (q : List Key × PyData) => p.1 = q.1 ∧ Dp K G p.2 q.2) svs b.seen
section
variable {K : PySem.W.Frag} {C p l sd : Addr} {G H G2 H2 : Hp} {b : Bk} {os : List Addr}
theorem CopyAt.frame (A : CopyAt K C G H p l sd b) (k : Gx os G H G2 H2) (hp : p ∉ os) (hl : l ∉ os) (hs : sd ∉ os) : CopyAt K C G2 H2 p l sd b := by
  obtain ⟨gp, gl, gs, dx, wv, fvs, svs, h1, h2, h3, h4, h5, h6⟩ := A
  exact ⟨k.out gp (some_ne h1), k.out gl (some_ne h3), k.out gs (some_ne h5), dx, wv, fvs, svs, k.h _ _ hp h1, dp_up k.g _ _ h2, k.h _ _ hl h3, dpAll_up k.g _ _ h4, k.h _ _ hs h5, L2.Paired.mapP h6 fun _ _ z => ⟨z.1, dp_up k.g _ _ z.2⟩⟩
theorem CopyAt.up (A : CopyAt K C G H p l sd b) (k : Gr G H G2 H2) : CopyAt K C G2 H2 p l sd b := A.frame (os := []) k.x (by simp) (by simp) (by simp)
theorem En.re {K : PySem.W.Frag} {G : Hp} {σ : L2.St} {r : Rho} {i : Nat} {x : V} {d : Dn} (n : En K G σ r) (h : r[i]? = some (some (.v x))) (q : Den K G x d) : En K G σ (r.set i (some d)) := by
  refine ⟨by rw [List.length_set]; exact n.len, fun j e hj => ?_⟩
  by_cases hij : i = j
  · subst hij
    obtain ⟨v, h1, h2⟩ := n.at_ i _ h
    have hl : i < r.length := (List.getElem?_eq_some_iff.mp h).1
    rw [List.getElem?_set_self hl] at hj
    cases hj
    obtain rfl : v = x := h2
    exact ⟨v, h1, q⟩
  · rw [List.getElem?_set_ne hij] at hj
    exact n.at_ j e hj
theorem CopyAt.ob (A : CopyAt K C G H p l sd b) : Den K (plus G H [p, l, sd]) (.ref p) (.ob p C b.fs) := by
  obtain ⟨gp, gl, gs, dx, wv, fvs, svs, h1, h2, h3, h4, h5, h6⟩ := A
  have e : Ex G (plus G H [p, l, sd]) := plus_g fun a ha => by
    simp only [List.mem_cons, List.not_mem_nil, or_false] at ha
    rcases ha with rfl | rfl | rfl
    · exact gp
    · exact gl
    · exact gs
  refine ⟨dx, bkF b wv l sd, rfl, by rw [plus_in (by simp)]; exact h1, ?_⟩
  refine .cons ⟨rfl, dp_up e _ _ h2⟩ (.cons ⟨rfl, Dp.int _⟩ (.cons ⟨rfl, Dp.lst (.inl (by rw [plus_in (by simp)]; exact h3)) (dpAll_up e _ _ h4)⟩ (.cons ⟨rfl, Dp.int _⟩ (.cons ⟨rfl, Dp.int _⟩ (.cons ⟨rfl, ?_⟩ .nil)))))
  exact ⟨sd, svs, rfl, .inl (by rw [plus_in (by simp)]; exact h5), L2.Paired.mapP h6 fun _ _ z => ⟨z.1, dp_up e _ _ z.2⟩⟩
theorem CopyAt.own {r : Rho} {i : Nat} (A : CopyAt K C G H p l sd b) (hi : r[i]? = some (some (.v (.ref p)))) : Own K [p, l, sd] r (r.set i (some (.ob p C b.fs))) G H := by
  have hO := A.ob
  obtain ⟨gp, gl, gs, dx, wv, fvs, svs, h1, h2, h3, h4, h5, h6⟩ := A
  have no : ∀ a, a ∈ [p, l, sd] → G a = none := fun a ha => by
    simp only [List.mem_cons, List.not_mem_nil, or_false] at ha
    rcases ha with rfl | rfl | rfl
    · exact gp
    · exact gl
    · exact gs
  refine ⟨no, fun a ha => ?_, fun σ n => (n.up (plus_g no)).re hi hO⟩
  simp only [List.mem_cons, List.not_mem_nil, or_false] at ha
  rcases ha with rfl | rfl | rfl
  · exact ⟨_, h1, (fun _ z => nomatch z), (fun _ _ z => nomatch z)⟩
  · exact ⟨_, h3, (fun _ z => nomatch z), (fun _ _ z => nomatch z)⟩
  · exact ⟨_, h5, (fun _ z => nomatch z), (fun _ _ z => nomatch z)⟩
end
theorem Own.refl {K : PySem.W.Frag} {r : Rho} {G H : Hp} : Own K [] r r G H := ⟨fun _ h => absurd h (by simp), fun _ h => absurd h (by simp), fun σ n => by
  have : plus G H [] = G := by funext a; exact plus_out (by simp)
  rw [this]; exact n⟩
/-- the promise of a method that changes the book: R of the book, the arguments, the book then, the answer; or, B, an error, and the book as it was -/
def spM (K : PySem.W.Frag) (C : Addr) (R : Bk → List PyData → Bk → PyData → Prop) (B : Bk → List PyData → Addr → Prop) : Sp := fun vs H Q E => ∃ (p l sd : Addr) (b : Bk) (us : List V) (ds : List PyData) (G : Hp), vs = .ref p :: us ∧ Ex G H ∧ CopyAt K C G H p l sd b ∧ DpAll K G us ds ∧
  ((∃ b' d, R b ds b' d ∧ ∀ v G' H' sd', Gx [p, l, sd] G H G' H' → (sd' = sd ∨ H sd' = none) → CopyAt K C G' H' p l sd' b' → Dp K G' v d → Q v H') ∨ (∃ A, B b ds A ∧ ∀ G' H', Gr G H G' H' → E (.ref A) none H'))
end Fb

/-! FbH: loops that change what is owned; methods' promises; fields of the book; sorted of one; data that may be compared. -/
namespace Fb
open PySem PySem.Spec PyProof.Rows L2 Evl
section
variable {X : Cx} {a b c e o : Expr} {es : List Expr} {sts ss rest : List Stmt} {r r' : Rho} {d d1 d2 d3 : Dn} {pos p p1 p2 p3 p4 apos : Pos} {D : Ends} {G0 H0 G H : Hp} {W : WX} {Q : V → Hp → Hp → Prop}
/-- o.f = e, the object known -/
theorem gx_put {q C dx : Addr} {f : Str} {fs : List (Str × V)} {p' : Pos} (hc : Cls X.K C) (hn : NoAttr X.K C f) (ho : Pv X o r (.v (.ref q))) (he : Pv X e r d) (gq : G0 q = none) (hq : H0 q = some (.ins C dx fs)) (hl : fs.length < 1000)
    (k : ∀ v G1 H1, Gx [q] G0 H0 G1 H1 → G1 q = none → H1 q = some (.ins C dx (putF f v fs)) → Den X.K G1 v d → Go X rest D G1 H1 r) (hs : swapsWith e (some (.Attribute o f p')) pos.line X.env = pure false := by rfl) : Go X (.Assign [.Attribute o f p'] e pos :: rest) D G0 H0 r :=
  gx_fld hc hn ho (fun G H g => fx_pv g.s he fun v G1 H1 g1 q1 => by
    have kk := g.trans g1
    have g1q := kk.out gq (some_ne hq)
    exact ⟨dx, fs, kk.h _ _ hq, hl, g1q, k v G1 _ (kk.x.trans (Gx.set g1.s (by simp) g1q)) g1q upd_same q1⟩) hs
theorem gx_putL {q C dx : Addr} {f : Str} {fs : List (Str × V)} {p' : Pos} (hc : Cls X.K C) (hn : NoAttr X.K C f) (ho : Pv X o r (.v (.ref q))) (gq : G0 q = none) (hq : H0 q = some (.ins C dx fs)) (hl : fs.length < 1000)
    (k : ∀ l G1 H1, H0 l = none → Gx [q] G0 H0 G1 H1 → G1 q = none → G1 l = none → H1 q = some (.ins C dx (putF f (.ref l) fs)) → H1 l = some (.lst []) → Go X rest D G1 H1 r) (hs : swapsWith (.List [] p) (some (.Attribute o f p')) pos.line X.env = pure false := by rfl) : Go X (.Assign [.Attribute o f p'] (.List [] p) pos :: rest) D G0 H0 r :=
  gx_fld hc hn ho (fun G H g => fx_newL g.s fun l hn => by
    have hq' := g.h _ _ hq
    have ne : q ≠ l := fun z => by rw [z, hn] at hq'; cases hq'
    have gq' := g.out gq (some_ne hq)
    refine ⟨dx, fs, by rw [upd_ne ne]; exact hq', hl, gq', k l G _ (fresh_back g.h hn) ((g.x.trans (Gx.lay g.s hn)).trans (Gx.set (g.s.trans (Ex.new hn)) (by simp) gq')) gq' (fresh_back g.s hn) upd_same ?_⟩
    rw [upd_ne ne.symm, upd_same]) hs
theorem gx_putD {q C dx : Addr} {f : Str} {fs : List (Str × V)} {p' : Pos} (hc : Cls X.K C) (hn : NoAttr X.K C f) (ho : Pv X o r (.v (.ref q))) (gq : G0 q = none) (hq : H0 q = some (.ins C dx fs)) (hl : fs.length < 1000)
    (k : ∀ l G1 H1, H0 l = none → Gx [q] G0 H0 G1 H1 → G1 q = none → G1 l = none → H1 q = some (.ins C dx (putF f (.ref l) fs)) → H1 l = some (.dT []) → Go X rest D G1 H1 r) (hs : swapsWith (.Dict [] [] p) (some (.Attribute o f p')) pos.line X.env = pure false := by rfl) : Go X (.Assign [.Attribute o f p'] (.Dict [] [] p) pos :: rest) D G0 H0 r :=
  gx_fld hc hn ho (fun G H g => fx_newD g.s fun l hn => by
    have hq' := g.h _ _ hq
    have ne : q ≠ l := fun z => by rw [z, hn] at hq'; cases hq'
    have gq' := g.out gq (some_ne hq)
    refine ⟨dx, fs, by rw [upd_ne ne]; exact hq', hl, gq', k l G _ (fresh_back g.h hn) ((g.x.trans (Gx.lay g.s hn)).trans (Gx.set (g.s.trans (Ex.new hn)) (by simp) gq')) gq' (fresh_back g.s hn) upd_same ?_⟩
    rw [upd_ne ne.symm, upd_same]) hs
/-- behind a turn -/
def Lp (K : PySem.W.Frag) (I : Nat → Rho → Hp → Hp → Prop) (i : Nat) (G1 : Hp) : L2.St → Hp → Prop := fun σ H => ∃ r3 G5, I i r3 G5 H ∧ Ex G1 G5 ∧ Ex G5 H ∧ En K G5 σ r3
/-- for tg in iter, whose turns change what is owned -/
theorem gx_for {al : Type} {tg iter : Expr} {xs : List al} {enc : al → Dn} (I : Nat → Rho → Hp → Hp → Prop) (hp : PassesOwn (model X.prog X.w) X.A X.env X.xe) (hc : X.calm = true) (hw : Wk X tg iter r (xs.map enc)) (hm : ∀ i r G H G2 H2, I i r G H → Gr G H G2 H2 → I i r G2 H2) (h0 : ∀ G H, Gr G0 H0 G H → I 0 r G H)
    (hs : ∀ i x r1 G1 H1, xs[i]? = some x → Ex G1 H1 → I i r1 G1 H1 → ∃ r2 js, Pg X tg r1 (enc x) r2 js ∧ Go X ss { D with nx := Lp X.K I (i + 1) G1, ct := Lp X.K I (i + 1) G1, bk := wSs X rest D } G1 H1 r2)
    (hd : ∀ r1 G1 H1, I xs.length r1 G1 H1 → Ex G1 H1 → Go X rest D G1 H1 r1) (hfs : ∀ v, foldedSetIterable iter X.env v = pure v := by intro _; rfl) : Go X (.For tg iter ss [] pos :: rest) D G0 H0 r := by
  obtain ⟨wi, hi, hwi⟩ := hw
  intro σ G H g n
  refine wSs_of (pss_cons (ps_for hp hc hi pg_w pss_w hfs) pss_w) ?_
  refine hwi σ G H g.s n _ fun J G1 H1 k1 hgo hyl hst => ?_
  rw [List.length_map] at hgo hst
  refine ⟨fun i m σ' H' => m = xs.length - i ∧ i ≤ xs.length ∧ ∃ r1 G', I i r1 G' H' ∧ Ex G1 G' ∧ Ex G' H' ∧ En X.K G' σ' r1, ⟨xs.length, by simp, Nat.zero_le _, r, G1, h0 _ _ (g.trans k1), Ex.refl _, k1.s, n.up k1.g⟩, ?_⟩
  rintro i m σ' H' ⟨rfl, hi2, r1, G', hP, e', s', n'⟩
  by_cases hlt : i < xs.length
  · obtain ⟨x, hx⟩ : ∃ x, xs[i]? = some x := ⟨xs[i], List.getElem?_eq_getElem hlt⟩
    refine .inr ⟨hgo i H' (e'.trans s') hlt, fun σ3 H3 => ∃ r3 G3, I (i + 1) r3 G3 H3 ∧ Ex G1 G3 ∧ Ex G3 H3 ∧ En X.K G3 σ3 r3, fun σ3 H3 ⟨r3, G3, q1, q2, q3, q4⟩ => ⟨xs.length - (i + 1), by omega, rfl, hlt, r3, G3, q1, q2, q3, q4⟩, fun v H3 yl => ?_⟩
    obtain ⟨G3, k3, q3⟩ := hyl i G' H' v H3 e' s' yl (enc x) (by rw [List.getElem?_map, hx]; rfl)
    obtain ⟨r2, js, hg, hb⟩ := hs i x r1 G3 H3 hx k3.s (hm _ _ _ _ _ _ hP k3)
    refine wG_imp (hg σ' G3 H3 v k3.s (n'.up k3.g) q3) fun σ2 H4 ⟨e4, n4, _⟩ => ?_
    subst e4
    have fin : ∀ σ5 H5, Lp X.K I (i + 1) G3 σ5 H5 → ∃ r3 G5, I (i + 1) r3 G5 H5 ∧ Ex G1 G5 ∧ Ex G5 H5 ∧ En X.K G5 σ5 r3 := fun σ5 H5 ⟨r5, G5, q1, q2, q5, q6⟩ => ⟨r5, G5, q1, (e'.trans k3.g).trans q2, q5, q6⟩
    exact wSs_imp (hb σ2 G3 H4 (Gr.refl k3.s) n4) fin (fun _ _ z => z) (fun _ _ z => z) fin
  · have hi3 : i = xs.length := by omega
    subst hi3
    exact .inl ⟨hst _ H' (e'.trans s') (Nat.le_refl _), hd r1 G' H' hP s' σ' G' H' (Gr.refl s') n'⟩
theorem perm_one {α : Type} {xs ys : List α} (h : xs.length ≤ 1) (hp : ys.Perm xs) : ys = xs := by
  cases xs with
  | nil => exact List.perm_nil.mp hp
  | cons x t =>
    cases t with
    | nil => exact List.perm_singleton.mp hp
    | cons y t => simp at h
/-- sorted(xs) of at most one thing -/
theorem cr_sorted1 : CallR X (.builtin "sorted") (fun vs H Q => ∃ a xs, vs = [V.ref a] ∧ SqL X.K H a xs ∧ xs.length ≤ 1 ∧ ∀ p, H p = none → Q (.ref p) (upd H p (.lst xs))) := by
  intro pins s σ H vs us Q I r h
  obtain ⟨a, xs, rfl, hs, hx, q⟩ := h
  obtain ⟨its, rv, hl, hz⟩ := I.list hs
  obtain ⟨u, rfl, ru⟩ := vals1 r
  obtain rfl : u = Value.ref a := ru
  have hlen : its.length ≤ 1 := by rw [← rv.length]; exact hx
  refine Srt.sorted_any hl.isList (by rw [← rv.length]; exact hz) (fun h2 => absurd h2 (by omega)) fun out hp => ?_
  have ho : out = its := perm_one hlen hp
  subst ho
  obtain ⟨n, hn⟩ := PyProof.Rows.sortedAll_at s.heap out out.toArray
  exact ⟨.ref (s.heap.objs.size + 1), upd H (s.heap.objs.size + 1) (.lst xs), I.laid (t' := s.toks) (fun b o e => PyProof.Rows.sortedAll_old e) (Nat.le_succ _) ⟨hz, out, n, rv, hn⟩, rfl, q _ (I.hok.fresh (Nat.le_succ _))⟩
theorem pv_sorted1 {xs : List PyData} (hm : X.mg "sorted" = none) (ha : Pv X a r (.d (.list xs))) (h1 : xs.length ≤ 1) (hg : Gl X "sorted" := by rfl) (he : starEach [a] X.env = (false, eval a X.env) :: starEach [] X.env := by rfl) (hpl : (backTo pos (starEach [] X.env)).any (·.1) = false := by rfl) :
    Pv X (.Call (.Name "sorted" p) [a] [] pos) r (.d (.list xs)) :=
  pv_callB cr_sorted1 hg hm PyProof.Rows.boot_sorted (pa_cons ha pa_nil he) (fun vs G H Q g hd k => by
    obtain ⟨v, rfl, hv⟩ := dens1 hd
    cases hv with
    | lst q1 q2 => exact ⟨_, _, rfl, .inl (ex_rd g q1), by rw [DpAll.len q2]; exact h1, fun l hl => k _ _ _ (Gr.new g hl) (Dp.lst (.inl upd_same) (dpAll_up (Ex.new (fresh_back g hl)) _ _ q2))⟩) (he := he) (hpl := hpl)
end
/-- a method that changes the book -/
theorem okM {P : Program} {w : World} {K : PySem.W.Frag} {mg : Str → Option Value} {base : Heap} {C : Addr} {x qual : Str} {st : Stmt} {f : Addr} {fd : FuncData} {N ps : List Str} {k : Nat} {R : Bk → List PyData → Bk → PyData → Prop} {B : Bk → List PyData → Addr → Prop} (F : Fun K x qual st f fd) (S : FnScope N ps (defScope st))
    (hR : ∀ b ds b' d, R b ds b' d → ds.length + 1 = ps.length) (hB : ∀ b ds A, B b ds A → ds.length + 1 = ps.length)
    (body : ∀ (cdv : Value) (A : Around) (outer : List Env) (s : Shared) (H : Hp) (Q : VK) (E : XK) (p l sd : Addr) (b : Bk) (ds : List PyData) (b' : Bk) (d : PyData) (G : Hp), Room k (A.deeper (envOfC qual (defScope st) s.heap.objs.size f cdv)) → Ex G H → CopyAt K C G H p l sd b → R b ds b' d →
      (∀ v G' H' sd', Gx [p, l, sd] G H G' H' → (sd' = sd ∨ H sd' = none) → CopyAt K C G' H' p l sd' b' → Dp K G' v d → Q v H') →
      Go (cxOf (L2.CX P w) P w K mg base N qual (defScope st) f cdv A outer s H E) (defBody st) { nx := fun _ H' => Q .non H', rt := Q } G H (some (.v (.ref p)) :: (ds.map fun y => some (.d y)) ++ List.replicate (N.length - (ds.length + 1)) none))
    (bad : ∀ (cdv : Value) (A : Around) (outer : List Env) (s : Shared) (H : Hp) (Q : VK) (E : XK) (p l sd : Addr) (b : Bk) (ds : List PyData) (Z : Addr) (G : Hp), Room k (A.deeper (envOfC qual (defScope st) s.heap.objs.size f cdv)) → Ex G H → CopyAt K C G H p l sd b → B b ds Z →
      (∀ G' H', Gr G H G' H' → E (.ref Z) none H') →
      Go (cxOf (L2.CX P w) P w K mg base N qual (defScope st) f cdv A outer s H E) (defBody st) { nx := fun _ H' => Q .non H', rt := Q } G H (some (.v (.ref p)) :: (ds.map fun y => some (.d y)) ++ List.replicate (N.length - (ds.length + 1)) none)) : FnOk P w K mg base (L2.CX P w) (k + 1) f fd ps (spM K C R B) := by
  refine F.okX S ?_ (fun cdv A outer s H vs Q E hr h => ⟨_, pss_w, ?_⟩)
  · rintro vs H Q E ⟨p, l, sd, b, us, ds, G, rfl, _, _, hd, ⟨b', d, hr, _⟩ | ⟨Z, hb, _⟩⟩
    · rw [List.length_cons, DpAll.len hd]; exact hR _ _ _ _ hr
    · rw [List.length_cons, DpAll.len hd]; exact hB _ _ _ hb
  · obtain ⟨p, l, sd, b, us, ds, G, rfl, g, A1, hd, h⟩ := h
    have hD : Dens K G (.ref p :: us) (.v (.ref p) :: ds.map Dn.d) := .cons (show Den K G (.ref p) (.v (.ref p)) from rfl) (Dens.of hd)
    have e : ((Dn.v (.ref p) :: ds.map Dn.d).map some ++ List.replicate (N.length - (V.ref p :: us).length) none : Rho) = some (.v (.ref p)) :: (ds.map fun y => some (.d y)) ++ List.replicate (N.length - (ds.length + 1)) none := by
      rw [List.length_cons, DpAll.len hd, List.map_cons, List.map_map]
      rfl
    refine go_in g hD ?_
    rw [e]
    rcases h with ⟨b', d, hr', k'⟩ | ⟨Z, hb, k'⟩
    · exact body cdv A outer s H Q E p l sd b ds b' d G hr g A1 hr' k'
    · exact bad cdv A outer s H Q E p l sd b ds Z G hr g A1 hb k'

/-! ### the book's fields -/
theorem lk_hit {α : Type} {k : Str} {v : α} {r : List (Str × α)} : List.lookup k ((k, v) :: r) = some v := by simp [List.lookup]
theorem lk_miss {α : Type} {k g : Str} {v : α} {r : List (Str × α)} (h : (k == g) = false) : List.lookup k ((g, v) :: r) = List.lookup k r := by simp only [List.lookup, h]
theorem lk_none {α : Type} {m : Str} : ∀ {l : List (Str × α)}, ((l.map (·.1)).all fun g => !(m == g)) = true → l.lookup m = none
  | [], _ => rfl
  | (g, v) :: l, h => by
    rw [List.map_cons, List.all_cons, Bool.and_eq_true] at h
    rw [lk_miss (by simpa using h.1)]
    exact lk_none h.2
theorem pf_hit {f : Str} {v x : V} {r : List (Str × V)} : putF f v ((f, x) :: r) = (f, v) :: r := if_pos rfl
theorem pf_past {f g : Str} {v x : V} {r : List (Str × V)} (h : ¬ g = f) : putF f v ((g, x) :: r) = (g, x) :: putF f v r := if_neg h
section
variable (b : Bk) (wv : V) (l sd : Addr)
theorem fs_world : b.fs.lookup ("world" : Str) = some (.d b.wd) := lk_hit
theorem fs_mine : b.fs.lookup ("mine" : Str) = some (.d (.int b.mine)) := (lk_miss (by decide +kernel)).trans lk_hit
theorem fs_facts : b.fs.lookup ("facts" : Str) = some (.d (.list b.facts)) := (lk_miss (by decide +kernel)).trans ((lk_miss (by decide +kernel)).trans lk_hit)
theorem fs_clock : b.fs.lookup ("clock" : Str) = some (.d (.int b.clock)) := (lk_miss (by decide +kernel)).trans ((lk_miss (by decide +kernel)).trans ((lk_miss (by decide +kernel)).trans lk_hit))
theorem fs_own : b.fs.lookup ("own" : Str) = some (.d (.int b.own)) := (lk_miss (by decide +kernel)).trans ((lk_miss (by decide +kernel)).trans ((lk_miss (by decide +kernel)).trans ((lk_miss (by decide +kernel)).trans lk_hit)))
theorem fs_seen : b.fs.lookup ("seen" : Str) = some (.t b.seen) := (lk_miss (by decide +kernel)).trans ((lk_miss (by decide +kernel)).trans ((lk_miss (by decide +kernel)).trans ((lk_miss (by decide +kernel)).trans ((lk_miss (by decide +kernel)).trans lk_hit))))
theorem bf_facts : (bkF b wv l sd).lookup ("facts" : Str) = some (.ref l) := (lk_miss (by decide +kernel)).trans ((lk_miss (by decide +kernel)).trans lk_hit)
theorem bf_clock : (bkF b wv l sd).lookup ("clock" : Str) = some (.int b.clock) := (lk_miss (by decide +kernel)).trans ((lk_miss (by decide +kernel)).trans ((lk_miss (by decide +kernel)).trans lk_hit))
theorem bf_own : (bkF b wv l sd).lookup ("own" : Str) = some (.int b.own) := (lk_miss (by decide +kernel)).trans ((lk_miss (by decide +kernel)).trans ((lk_miss (by decide +kernel)).trans ((lk_miss (by decide +kernel)).trans lk_hit)))
theorem bf_setC (i : Int) : putF "clock" (.int i) (bkF b wv l sd) = bkF { b with clock := i } wv l sd := (pf_past (by decide +kernel)).trans (congrArg _ ((pf_past (by decide +kernel)).trans (congrArg _ ((pf_past (by decide +kernel)).trans (congrArg _ pf_hit)))))
theorem bf_setO (i : Int) : putF "own" (.int i) (bkF b wv l sd) = bkF { b with own := i } wv l sd := (pf_past (by decide +kernel)).trans (congrArg _ ((pf_past (by decide +kernel)).trans (congrArg _ ((pf_past (by decide +kernel)).trans (congrArg _ ((pf_past (by decide +kernel)).trans (congrArg _ pf_hit)))))))
theorem bf_setS (z : Addr) : putF "seen" (.ref z) (bkF b wv l sd) = bkF b wv l z := (pf_past (by decide +kernel)).trans (congrArg _ ((pf_past (by decide +kernel)).trans (congrArg _ ((pf_past (by decide +kernel)).trans (congrArg _ ((pf_past (by decide +kernel)).trans (congrArg _ ((pf_past (by decide +kernel)).trans (congrArg _ pf_hit)))))))))
/-- no field has the name of a method -/
def fieldNames : List Str := ["world", "mine", "facts", "clock", "own", "seen"]
theorem fs_no {m : Str} (h : (fieldNames.all fun g => !(m == g)) = true) : b.fs.lookup m = none := lk_none h
theorem bf_no {m : Str} (h : (fieldNames.all fun g => !(m == g)) = true) : (bkF b wv l sd).lookup m = none := lk_none h
end
/-- made: the six fields, in turn -/
theorem bf_made (b : Bk) (wv : V) (l sd : Addr) : putF "seen" (.ref sd) (putF "own" (.int b.own) (putF "clock" (.int b.clock) (putF "facts" (.ref l) (putF "mine" (.int b.mine) (putF "world" wv []))))) = bkF b wv l sd := by
  rw [show putF "world" wv [] = [(("world" : Str), wv)] from rfl, show putF "mine" (.int b.mine) [(("world" : Str), wv)] = [(("world" : Str), wv), ("mine", .int b.mine)] from pf_past (by decide +kernel)]
  rw [show putF "facts" (.ref l) [(("world" : Str), wv), ("mine", .int b.mine)] = [(("world" : Str), wv), ("mine", .int b.mine), ("facts", .ref l)] from (pf_past (by decide +kernel)).trans (congrArg _ (pf_past (by decide +kernel)))]
  rw [show putF "clock" (.int b.clock) [(("world" : Str), wv), ("mine", .int b.mine), ("facts", .ref l)] = [(("world" : Str), wv), ("mine", .int b.mine), ("facts", .ref l), ("clock", .int b.clock)] from (pf_past (by decide +kernel)).trans (congrArg _ ((pf_past (by decide +kernel)).trans (congrArg _ (pf_past (by decide +kernel)))))]
  rw [show putF "own" (.int b.own) [(("world" : Str), wv), ("mine", .int b.mine), ("facts", .ref l), ("clock", .int b.clock)] = [(("world" : Str), wv), ("mine", .int b.mine), ("facts", .ref l), ("clock", .int b.clock), ("own", .int b.own)] from (pf_past (by decide +kernel)).trans (congrArg _ ((pf_past (by decide +kernel)).trans (congrArg _ ((pf_past (by decide +kernel)).trans (congrArg _ (pf_past (by decide +kernel)))))))]
  exact (pf_past (by decide +kernel)).trans (congrArg _ ((pf_past (by decide +kernel)).trans (congrArg _ ((pf_past (by decide +kernel)).trans (congrArg _ ((pf_past (by decide +kernel)).trans (congrArg _ (pf_past (by decide +kernel)))))))))

/-! ### data that may be compared, and is never changed -/
structure Good (y : PyData) : Prop where
  im : imm y = true
  lay : y.canLay0 = true
  dp : y.depth ≤ 8
theorem Good.shaped {y : PyData} (h : Good y) : SeqAt.shaped y = true := by
  unfold SeqAt.shaped
  rw [h.lay, Bool.true_and]
  exact decide_eq_true (Nat.le_trans h.dp (by decide))
theorem good_all : ∀ {xs : List PyData}, (∀ x, x ∈ xs → Good x) → PyData.canLayAll0 xs = true ∧ PyData.depthAll xs ≤ 8 ∧ immAll xs = true
  | [], _ => ⟨rfl, by simp [PyData.depthAll], rfl⟩
  | x :: xs, h => by
    obtain ⟨h1, h2, h3⟩ := good_all fun y hy => h y (List.mem_cons_of_mem _ hy)
    have hx := h x List.mem_cons_self
    refine ⟨?_, ?_, ?_⟩
    · simp only [PyData.canLayAll0, hx.lay, h1, Bool.and_self]
    · simp only [PyData.depthAll]; exact Nat.max_le.mpr ⟨hx.dp, h2⟩
    · rw [immAll, hx.im, h3]; rfl
theorem good_list {xs : List PyData} (h : ∀ x, x ∈ xs → Good x) : SeqAt.shaped (.list xs) = true := by
  obtain ⟨h1, h2, _⟩ := good_all h
  unfold SeqAt.shaped
  simp only [PyData.canLay0, PyData.depth, h1, Bool.true_and]
  exact decide_eq_true (by omega)
theorem good_tup {xs : List PyData} (h : ∀ x, x ∈ xs → Good x) (hd : PyData.depthAll xs ≤ 7) : Good (.tuple xs) := by
  obtain ⟨h1, h2, h3⟩ := good_all h
  refine ⟨by simpa [imm] using h3, by simpa only [PyData.canLay0] using h1, ?_⟩
  simp only [PyData.depth]
  omega
theorem shaped_tup {xs : List PyData} (h : ∀ x, x ∈ xs → Good x) : SeqAt.shaped (.tuple xs) = true := by
  obtain ⟨h1, h2, _⟩ := good_all h
  unfold SeqAt.shaped
  simp only [PyData.canLay0, PyData.depth, h1, Bool.true_and]
  exact decide_eq_true (by omega)
end Fb

/-! FbI: for i, x in enumerate(t), t a tuple; a sign of a text by its place. -/
namespace Fb
open PySem PySem.Spec PyProof.Rows L2 Evl
theorem enumT_new {v : Value} {o : Obj} {H : Heap → Prop} (B : Begins v o H) :
    Meets (Builtin.«enumerate.__new__» ⟨[.type "enumerate", v], []⟩) (fun _ R s => H s.heap ∧ R (.ok (.ret (.ref (s.heap.push o).objs.size))) { s with heap := (s.heap.push o).push { cls := .type "enumerate", data := .fields #[.none, .bool false, .ref s.heap.objs.size, rawInt 0, .none, .none] } }) :=
  .of_wp fun prog w A R s h => by
    obtain ⟨hp, g, d, tk, os⟩ := s
    obtain ⟨h1, h⟩ := h
    have hsub := sub_enumerate
    have q1 : ∀ {A' : Around} {E : Value → Shared → Prop} {Q : Value → Shared → Prop}, Q (.ref hp.objs.size) ⟨hp.push o, g, d, tk, os⟩ → wpAny (model prog w) A' (pyIter v) Q E ⟨hp, g, d, tk, os⟩ := fun q => B.iter prog w _ _ ⟨hp, g, d, tk, os⟩ _ h1 q
    wp_walk using q1
    refine wpAny_stack_any fun st => wpAny_pure ?_
    split
    · rename_i c _ _ _ _ _
      cases (c == Value.type "enumerate") <;> (wp_walk using q1; exact ⟨_, rfl, h⟩)
    · wp_walk using q1
      exact ⟨_, rfl, h⟩
theorem enumT_call {prog : Program} {w : World} {A : Around} {E : Value → Shared → Prop} {s : Shared} {v : Value} {o : Obj} {H : Heap → Prop} {Q : Value → Shared → Prop} (B : Begins v o H) (h1 : H s.heap)
    (h : ∀ h', IsEnum h' (s.heap.objs.size + 1) s.heap.objs.size 0 .none → h'.get? s.heap.objs.size = some o → (∀ b o, s.heap.get? b = some o → h'.get? b = some o) → Q (.ref (s.heap.objs.size + 1)) { s with heap := h' }) : wpAny (model prog w) A (call (.type "enumerate") [v]) Q E s := by
  refine callType_new F.called_enumerate (by decide) (F.typeCall_enumerate_1 _) (F.newCall_enumerate_1 _) (fun obj => F.args_object_init_2 obj _) F.entry_enumerate_new (enumT_new B) ⟨h1, ?_⟩
  have hz : (s.heap.push o).objs.size = s.heap.objs.size + 1 := Heap.size_push ..
  show _ ∧ _
  rw [hz]
  have he : IsEnum ((s.heap.push o).push { cls := .type "enumerate", data := .fields #[.none, .bool false, .ref s.heap.objs.size, rawInt 0, .none, .none] }) (s.heap.objs.size + 1) s.heap.objs.size 0 .none := by
    have := Heap.get?_push_size (s.heap.push o) (o := { cls := .type "enumerate", data := .fields #[.none, .bool false, .ref s.heap.objs.size, rawInt 0, .none, .none] }) rfl
    rw [hz] at this
    exact this
  exact ⟨⟨_, he, rfl⟩, h _ he (Heap.get?_push_of_some _ (Heap.get?_push_size _ B.free)) fun b o x => Heap.get?_push_of_some _ (Heap.get?_push_of_some _ x)⟩
def ItEt (K : PySem.W.Frag) (a : Addr) : It :=
  ⟨fun i H => ∃ (xs : List V) (x : V), SqT K H a xs ∧ xs[i]? = some x, fun i H v H' => ∃ T x, v = .ref T ∧ H T = none ∧ H' = upd H T (.tup [.int (i : Nat), x]) ∧ ∀ xs, SqT K H a xs → xs[i]? = some x, fun i H => ∃ xs : List V, SqT K H a xs ∧ xs.length ≤ i⟩
theorem turn_enumT {P : Program} {w : World} {K : PySem.W.Frag} {elts : List Expr} {kk : Nat} {tpos : Pos} (a e it : Addr) :
    Turn P w K (.Tuple elts kk tpos) (ItEt K a) [e, it] e (fun i h => (∃ old, IsEnum h e it ((i : Nat) : Int) old) ∧ h.IsTupleIter it a i ∧ e ≠ it) where
  mem := by simp
  obj := fun i h st b hb => by
    obtain ⟨⟨old, he⟩, ⟨o, ho, hc, hd⟩, _⟩ := st
    have e' : b = e ∨ b = it := by simpa using hb
    rcases e' with z | z
    · rw [z]; exact ⟨_, he, fun v q => nomatch q⟩
    · rw [z]; exact ⟨o, ho, fun v q => by rw [hd] at q; cases q⟩
  keep := fun i h h' st k => let ⟨⟨old, he⟩, hi, hne⟩ := st; ⟨⟨old, k e (by simp) _ he⟩, hi.at fun o q => k it (by simp) o q, hne⟩
  item := by
    intro X hP hw hK hc i pins s σ H E I hf st hg
    subst hP hw hK
    obtain ⟨⟨old, he⟩, hit, hne⟩ := st
    obtain ⟨xs, x, hq, hx⟩ := hg
    obtain ⟨its, rv, p, hz⟩ := I.tuple hq
    obtain ⟨u, hu, ru⟩ := rv.get hx
    have hel : e < s.heap.objs.size := Heap.lt_size he
    have hil : it < s.heap.objs.size := by obtain ⟨_, q, _⟩ := hit; exact Heap.lt_size q
    have nea : e ≠ a := fun z => by
      obtain ⟨o, ho, hoc, _⟩ := (show s.heap.IsTuple a its.toArray from p)
      rw [← z] at ho
      rw [show s.heap.get? e = _ from he] at ho
      cases ho
      exact absurd (Value.type.inj hoc) (by decide)
    have nia : a ≠ it := fun z => by
      obtain ⟨o, ho, hoc, _⟩ := (show s.heap.IsTuple a its.toArray from p)
      obtain ⟨o2, ho2, hoc2, _⟩ := hit
      rw [z, ho2] at ho
      cases ho
      rw [hoc2] at hoc
      exact absurd (Value.type.inj hoc) (by decide)
    have hd := I.ok.hd hc
    refine wpAny_pyNext_enum_itemD (Draws.tuple (A := X.A.in1) (by exact hd) it a nia its.toArray) he ⟨hit, p⟩ (by
      obtain ⟨h1, _⟩ := List.getElem?_eq_some_iff.mp hu
      simpa using h1) hne (by simp [hne, nea]) fun x1 h' tk hx1 ho hst hT hsz hk => ?_
    obtain rfl : x1 = u := by
      rw [show its.toArray[i]? = some u from by simpa using hu] at hx1
      exact (Option.some.inj hx1).symm
    obtain ⟨hit', _⟩ := hst
    refine ⟨_, rfl, wpAny_letOwnedTupleGo_enum (s := { s with heap := h', toks := tk + 1 }) ho fun h'' he' sb => ?_⟩
    have hT2 : h''.get? s.heap.objs.size = some { cls := .type "tuple", data := .seq #[.int i tk, x1] } := (sb.2 _ (Nat.ne_of_gt hel)).trans hT
    have new : ObjOk X.prog X.w (upd H s.heap.objs.size (.tup [.int (i : Nat), x])) h'' s.heap.objs.size (.tup [.int (i : Nat), x]) :=
      ⟨by show 2 ≤ sizeLine; decide, [.int i tk, x1], .cons ⟨_, rfl⟩ (.cons ru .nil), ⟨_, hT2, rfl, _, rfl⟩⟩
    have I1 : Inv X pins σ (upd H s.heap.objs.size (.tup [.int (i : Nat), x])) { s with heap := h'', toks := tk + 1 } :=
      I.turnedNew (ch := [e, it]) (fun b ob hb q => (sb.2 b (fun z => hb (by simp [z]))).trans (hk b ob (fun z => hb (by simp [z])) (fun z => hb (by simp [z])) q)) hf (Nat.le_refl _) new
    refine ⟨.ref s.heap.objs.size, _, I1, rfl, ⟨_, x, rfl, I.hok.fresh (Nat.le_refl _), rfl, fun ys hy => by rw [I.tuple_inj hy hq]; exact hx⟩, ⟨⟨x1, ?_⟩, hit'.at fun o q => (sb.2 it (Ne.symm hne)).trans q, hne⟩, fun b hb => ?_⟩
    · have e1 : ((i + 1 : Nat) : Int) = (i : Int) + 1 := by omega
      rw [e1]; exact he'
    · have hb' : b < s.heap.objs.size := by
        have e' : b = e ∨ b = it := by simpa using hb
        rcases e' with z | z
        · rw [z]; exact hel
        · rw [z]; exact hil
      rw [upd_ne (Nat.ne_of_lt hb')]
      exact (hf b hb).1
  done := by
    intro X hP hw hK hc i pins s σ H E I hf st hg
    subst hP hw hK
    obtain ⟨⟨old, he⟩, hit, hne⟩ := st
    obtain ⟨xs, hq, hx⟩ := hg
    obtain ⟨its, rv, p, hz⟩ := I.tuple hq
    obtain ⟨f0, f1, f2, f3, f4, f5⟩ := hf it (by simp)
    have hl := rv.length
    have hd := I.ok.hd hc
    have hT : s.TypeIs (.ref e) "enumerate" := ⟨_, he, rfl⟩
    unfold pyNext
    refine wpAny_bind (wpAny_attempt (wpAny_callSpecial?_slot (name := Str.ofString "__next__") hT F.slot_enumerate_next (wpAny_call_entry F.slot_enumerate_next hT F.entry_enumerate_next ?_ (F.args_enumerate_next_1 _))))
    show wpAny _ _ (field (.ref e) 2 >>= _) _ _ _
    refine wpAny_bind (wpAny_field he rfl (x := .ref it) rfl ?_)
    refine wpAny_bind (wpAny_nextOf_tuple_end (by exact hd) hit p (by simp; omega) fun h' x he' hx' => ?_)
    obtain ⟨o, ho, hc'⟩ := hx'
    refine wpAny_bind (wpAny_isInstance (T := "StopIteration") (b := true) ⟨o, ho, hc'⟩ isSubtype_stop ?_)
    exact wpAny_pure ⟨rfl, I.turned (t' := s.toks) (fun b o hb q => he' b o hb q) f0 f1 f3 f4 f5⟩
  self := fun A i s Q E st h => let ⟨⟨_, he⟩, _⟩ := st; wpAny_pyIter_enum he h
section
variable {X : Cx} {e : Expr} {r : Rho} {p pos tpos : Pos} {elts : List Expr} {kk : Nat}
theorem pi_enumT {ta : TA} (hg : Gl X "enumerate") (hm : X.mg "enumerate" = none) (ha : PA X [e] ta) (hs : starEach [e] X.env = [(false, eval e X.env)] := by rfl) :
    PI X (.Tuple elts kk tpos) (.Call (.Name "enumerate" p) [e] [] pos) (fun σ H R => ta σ H fun vs H1 => ∃ a xs, vs = [.ref a] ∧ SqT X.K H1 a xs ∧ R (ItEt X.K a) H1) := by
  refine ⟨fun pins s σ H R I h => ?_⟩
  refine Call_ (ld_blt I hg hm boot_enumerate (PyProof.Rows.callWith_type1 (thn (ha.run pos pins s σ H _ I h) fun us s1 ⟨vs, H1, I1, r1, q1⟩ => ?_) hs rfl))
  obtain ⟨a, xs, ex, hq, q⟩ := q1
  subst ex
  cases r1 with
  | cons r rr =>
    cases rr
    cases r
    obtain ⟨its, rv, p', hz⟩ := I1.tuple hq
    refine enumT_call (begins_tuple a its.toArray) p' fun h' he hit hk => wpAny_pyIter_enum he ?_
    have I2 : Inv X pins σ H1 { s1 with heap := h' } := I1.kept (t' := s1.toks) hk
    refine ⟨s1.heap.objs.size + 1, [s1.heap.objs.size + 1, s1.heap.objs.size], _, _, H1, rfl, I2, turn_enumT a (s1.heap.objs.size + 1) s1.heap.objs.size, ⟨⟨.none, he⟩, ⟨_, hit, rfl, rfl⟩, Nat.succ_ne_self _⟩, fun b hb => ?_, q⟩
    have e' : b = s1.heap.objs.size + 1 ∨ b = s1.heap.objs.size := by simpa using hb
    have hle : s1.heap.objs.size ≤ b := by
      rcases e' with z | z
      · rw [z]; exact Nat.le_add_right _ _
      · rw [z]; exact Nat.le_refl _
    exact I1.fpOk hle (I1.hok.fresh hle)
def enumD (ds : List PyData) : List PyData := (List.range ds.length).map fun i => .tuple [.int (i : Nat), ds.getD i .none]
theorem enumD_get {ds : List PyData} {i : Nat} {d : PyData} (h : (enumD ds)[i]? = some d) : ∃ x, ds[i]? = some x ∧ d = .tuple [.int (i : Nat), x] := by
  unfold enumD at h
  rw [List.getElem?_map] at h
  by_cases hi : i < ds.length
  · rw [List.getElem?_range hi] at h
    cases h
    refine ⟨ds[i], List.getElem?_eq_getElem hi, ?_⟩
    show PyData.tuple [.int (i : Nat), ds.getD i .none] = _
    rw [List.getD_eq_getElem?_getD, List.getElem?_eq_getElem hi]
    rfl
  · rw [List.getElem?_eq_none (by simpa using hi)] at h
    cases h
theorem enumD_len (ds : List PyData) : (enumD ds).length = ds.length := by unfold enumD; simp
/-- for i, x in enumerate(e), e a tuple -/
theorem wk_enumT {ds : List PyData} (hm : X.mg "enumerate" = none) (h : Pv X e r (.d (.tuple ds))) (hg : Gl X "enumerate" := by rfl) (hs : starEach [e] X.env = [(false, eval e X.env)] := by rfl) : Wk X (.Tuple elts kk tpos) (.Call (.Name "enumerate" p) [e] [] pos) r ((enumD ds).map Dn.d) := by
  refine ⟨_, pi_enumT hg hm pa_w hs, fun σ G H g n R k => wA_imp ((pa_cons h pa_nil hs : Pa X [e] r _) σ G H g n) fun vs H1 ⟨G1, k1, q1⟩ => ?_⟩
  obtain ⟨v, rfl, hv⟩ := dens1 q1
  cases hv with
  | @tup a xs _ h1 h2 =>
    have hl := DpAll.len h2
    have hlen : ((enumD ds).map Dn.d).length = xs.length := by rw [List.length_map, enumD_len, hl]
    refine ⟨a, xs, rfl, ex_t k1.s h1, k _ G1 H1 k1 (fun i H2 e2 hi => ?_) (fun i G2 H2 x H3 e2 s2 y d hd => ?_) (fun i H2 e2 hi => ⟨xs, ex_t e2 h1, by rw [hlen] at hi; exact hi⟩)⟩
    · rw [hlen] at hi
      exact ⟨xs, xs[i], ex_t e2 h1, List.getElem?_eq_getElem hi⟩
    · obtain ⟨T, z, rfl, hT, rfl, y⟩ := y
      have hx := y xs (ex_t (e2.trans s2) h1)
      rw [List.getElem?_map] at hd
      cases hq : (enumD ds)[i]? with
      | none => rw [hq] at hd; cases hd
      | some d0 =>
        rw [hq] at hd
        cases hd
        obtain ⟨x0, q3, rfl⟩ := enumD_get hq
        obtain ⟨v0, q4, q5⟩ := DpAll.get h2 q3
        rw [hx] at q4
        cases q4
        have kn := Gr.new (o := .tup [.int (i : Nat), z]) s2 hT
        exact ⟨_, kn, Dp.tup (st_of upd_same) (.cons (Dp.int _) (.cons (dp_up (e2.trans kn.g) _ _ q5) .nil))⟩
/-- a text's sign by its place -/
theorem pv_ixS {a b : Expr} {z : Str} {i : Int} {c : Nat} (ha : Pv X a r (.d (.str z))) (hb : Pv X b r (.d (.int i))) (hi : atI z.cps.toList i = some c) (hl : z.length ≤ 100000) (hs : PlainIx b := by exact fun _ _ => rfl) : Pv X (.Subscript a b pos) r (.d (.str ⟨#[c]⟩)) := fun σ G H g n =>
  wE_of (pe_ix ix_str pe_w pe_w hs) (wE_imp (ha σ G H g n) fun x H1 ⟨G1, k1, q1⟩ => wE_imp (hb σ G1 H1 k1.s (n.up k1.g)) fun u H2 ⟨G2, k2, q2⟩ =>
    ⟨z, i, c, den_str q1, den_int q2, sz_of hl, hi, G2, k1.trans k2, Dp.str _⟩)
end
end Fb

/-! FbN: what the laws draw of numbers: cells, seeds, worlds, wishes; plain functions. -/
namespace Fb
open PySem PySem.Spec PyProof.Rows L2 Evl
def cellZ (ns : List Int) (k : Nat) : Int := ns.getD k 0
def seedZ (s k : Int) : Int := ((s * 1103515245 + 7919 * k + 12345) % 2147483647) ^ 5 % 2147483647
def pickZ (s m : Int) : Int := s / 97 % m
theorem seedZ_lo (s k : Int) : 0 ≤ seedZ s k := Int.emod_nonneg _ (by decide)
theorem seedZ_hi (s k : Int) : seedZ s k < 2147483647 := Int.emod_lt_of_pos _ (by decide)
def keyAt (i : Int) : Str := keyNames.getD i.toNat "rank"
def addKey (some : List Str) (key : Str) : List Str := some ++ if some.contains key then [] else [key]
def keysOf (z : Int) (n : Nat) : List Str := (upto 0 n).foldl (fun some k => addKey some (keyAt (pickZ (seedZ z k) 4))) []
def worldC (z : Int) : Int := 1 + z / 5 % 5
def worldR (z : Int) : Int := 1 + z / 7 % 3
def worldK (z : Int) : List Str := keysOf z (z / 3 % 5).toNat
def worldOf (cell : Int) : PyData := wD (worldC (seedZ cell 9)) (worldR (seedZ cell 9)) (worldK (seedZ cell 9))
theorem upto_at {lo : Int} {n i : Nat} {x : Int} (h : (upto lo n)[i]? = some x) : x = lo + i ∧ i < n := by
  unfold upto at h
  rw [List.getElem?_map] at h
  by_cases hi : i < n
  · rw [List.getElem?_range hi] at h
    cases h
    exact ⟨rfl, hi⟩
  · rw [List.getElem?_eq_none (by simpa using hi)] at h
    cases h
theorem upto_succ (lo : Int) (n : Nat) : upto lo (n + 1) = upto lo n ++ [lo + n] := by
  unfold upto
  rw [List.range_succ, List.map_append]
  rfl
theorem keysOf_succ (z : Int) (n : Nat) : keysOf z (n + 1) = addKey (keysOf z n) (keyAt (pickZ (seedZ z n) 4)) := by
  unfold keysOf
  rw [upto_succ, List.foldl_append]
  show addKey _ (keyAt (pickZ (seedZ z (0 + n)) 4)) = _
  rw [Int.zero_add]
theorem keyAt_mem (i : Int) : keyAt i ∈ keyNames := by
  unfold keyAt
  rw [List.getD_eq_getElem?_getD]
  cases h : keyNames[i.toNat]? with
  | none => exact List.mem_cons_self
  | some k => exact List.mem_of_getElem? h
theorem keysOf_ok (z : Int) (n : Nat) : (∀ k ∈ keysOf z n, k ∈ keyNames) ∧ (keysOf z n).Nodup := by
  induction n with
  | zero => exact ⟨fun k hk => absurd hk (by simp [keysOf, upto]), by simp [keysOf, upto]⟩
  | succ n ih =>
    rw [keysOf_succ]
    unfold addKey
    split
    · rw [List.append_nil]; exact ih
    · rename_i hc
      refine ⟨fun k hk => ?_, ?_⟩
      · rcases List.mem_append.mp hk with h | h
        · exact ih.1 k h
        · simp at h; subst h; exact keyAt_mem _
      · rw [List.nodup_append]
        refine ⟨ih.2, by simp, fun a ha b hb => ?_⟩
        simp at hb
        subst hb
        intro e
        subst e
        exact hc (by simpa using ha)
/-! wishes -/
def smallAt (i : Int) : Nat := smallTxt.cps.toList.getD i.toNat 97
def nameOf (s : Int) : List Nat := (upto 0 (1 + s / 3 % 4).toNat).map fun k => smallAt (pickZ (seedZ s k) 26)
def sel2 (a b i : Int) : Int := if i = 0 then a else b
def sel3 (a b c i : Int) : Int := if i = 0 then a else if i = 1 then b else c
def minZ (i j : Int) : Int := if j < i then j else i
def longOf (s : Int) : Int := 1 + s / 5 % sel2 6 3 (s / 7 % 2)
def hourOf (s : Int) : Int := minZ (24 - longOf s) (sel3 (8 + s / 11 % 5) (s / 11 % 24) 24 (pickZ s 5 / 2))
def roomOf (r s : Int) : Int := s / 13 % sel2 r 1 (s / 17 % 2)
def rankOf (s : Int) : Int := s / 19 % sel2 10 3 (s / 23 % 2)
def wishOf (r s : Int) : PyData := .tuple [.str (SX.S (nameOf s)), .int (roomOf r s), .int (hourOf s), .int (longOf s), .int (rankOf s)]
theorem sel2_cases (a b i : Int) : sel2 a b i = a ∨ sel2 a b i = b := by unfold sel2; split <;> simp
theorem longOf_in (s : Int) : 1 ≤ longOf s ∧ longOf s ≤ 6 := by
  unfold longOf
  rcases sel2_cases 6 3 (s / 7 % 2) with h | h <;> rw [h] <;> omega
theorem smallAt_mem (i : Int) : smallAt i ∈ smallTxt.cps.toList := by
  unfold smallAt
  rw [List.getD_eq_getElem?_getD]
  cases h : smallTxt.cps.toList[i.toNat]? with
  | none => show (97 : Nat) ∈ smallTxt.cps.toList; decide +kernel
  | some k => exact List.mem_of_getElem? h
theorem wishOf_ok {r s : Int} (hr : 1 ≤ r) : isWish r (wishOf r s) = true := by
  have hl := longOf_in s
  have hn : isName (.str (SX.S (nameOf s))) = true := by
    have hlen : (SX.S (nameOf s)).length = (1 + s / 3 % 4).toNat := by rw [SX.S_len]; unfold nameOf; rw [List.length_map, upto_len]
    show ((decide (1 ≤ ((SX.S (nameOf s)).length : Int)) && decide (((SX.S (nameOf s)).length : Int) ≤ 4)) && ((SX.S (nameOf s)).cps.toList.all fun c => decide (c ∈ smallTxt.cps.toList))) = true
    rw [hlen, decide_eq_true (by omega), decide_eq_true (by omega), Bool.true_and, Bool.true_and, List.all_eq_true]
    intro c hc
    have hc' : c ∈ nameOf s := by simpa [SX.S] using hc
    unfold nameOf at hc'
    obtain ⟨k, _, rfl⟩ := List.mem_map.mp hc'
    exact decide_eq_true (smallAt_mem _)
  have hroom : 0 ≤ roomOf r s ∧ roomOf r s ≤ r - 1 := by
    unfold roomOf
    rcases sel2_cases r 1 (s / 17 % 2) with h | h <;> rw [h]
    · exact ⟨Int.emod_nonneg _ (by omega), by have := Int.emod_lt_of_pos (s / 13) (show 0 < r by omega); omega⟩
    · omega
  have hrank : 0 ≤ rankOf s ∧ rankOf s ≤ 9 := by
    unfold rankOf
    rcases sel2_cases 10 3 (s / 23 % 2) with h | h <;> rw [h] <;> omega
  have hhour : 0 ≤ hourOf s ∧ hourOf s ≤ 24 - longOf s := by
    have h3 : 0 ≤ sel3 (8 + s / 11 % 5) (s / 11 % 24) 24 (pickZ s 5 / 2) := by
      unfold sel3
      split
      · omega
      · split <;> omega
    unfold hourOf minZ
    split <;> omega
  show (isName _ && (decide (1 ≤ longOf s) && decide (longOf s ≤ 6)) && (isPlace r (longOf s) (.int (roomOf r s)) (.int (hourOf s)) && within (.int (rankOf s)) 0 9)) = true
  rw [hn]
  show (true && (decide (1 ≤ longOf s) && decide (longOf s ≤ 6)) && (((decide (0 ≤ roomOf r s) && decide (roomOf r s ≤ r - 1)) && (decide (0 ≤ hourOf s) && decide (hourOf s ≤ 24 - longOf s))) && (decide (0 ≤ rankOf s) && decide (rankOf s ≤ 9)))) = true
  simp only [decide_eq_true hl.1, decide_eq_true hl.2, decide_eq_true hroom.1, decide_eq_true hroom.2, decide_eq_true hhour.1, decide_eq_true hhour.2, decide_eq_true hrank.1, decide_eq_true hrank.2, Bool.and_self]
theorem wD_ok {c r : Int} {ks : List Str} (hc : 1 ≤ c ∧ c ≤ 5) (hr : 1 ≤ r ∧ r ≤ 3) (hk : ∀ k ∈ ks, k ∈ keyNames) (hn : ks.Nodup) : isWorld (wD c r ks) = true := by
  show ((decide (1 ≤ c) && decide (c ≤ 5)) && (decide (1 ≤ r) && decide (r ≤ 3)) && keysOk (ks.map PyData.str)) = true
  unfold keysOk
  rw [strsOf_map]
  simp only [decide_eq_true hc.1, decide_eq_true hc.2, decide_eq_true hr.1, decide_eq_true hr.2, Bool.and_self, Bool.true_and, Bool.and_eq_true, List.all_eq_true]
  exact ⟨fun k h => by simpa using hk k h, decide_eq_true ((dcn_nodup ks).mpr hn)⟩
theorem worldOf_ok (cell : Int) : isWorld (worldOf cell) = true :=
  wD_ok (by unfold worldC; omega) (by unfold worldR; omega) (keysOf_ok _ _).1 (keysOf_ok _ _).2
/-! indices -/
theorem ix_of {xs : List PyData} {i : Int} {z : PyData} (h0 : 0 ≤ i) (h : xs[i.toNat]? = some z) : ixD (.list xs) i = some z := by
  show atI xs i = some z
  have := atI_nat h
  rwa [Int.toNat_of_nonneg h0] at this
theorem ixT_of {xs : List PyData} {i : Int} {z : PyData} (h0 : 0 ≤ i) (h : xs[i.toNat]? = some z) : ixD (.tuple xs) i = some z := by
  show atI xs i = some z
  have := atI_nat h
  rwa [Int.toNat_of_nonneg h0] at this
theorem ix2 {a b i : Int} (h0 : 0 ≤ i) (h1 : i < 2) : ixD (.list [.int a, .int b]) i = some (.int (sel2 a b i)) := by
  have : i = 0 ∨ i = 1 := by omega
  rcases this with rfl | rfl <;> rfl
theorem ix3 {a b c i : Int} (h0 : 0 ≤ i) (h1 : i < 3) : ixD (.list [.int a, .int b, .int c]) i = some (.int (sel3 a b c i)) := by
  have : i = 0 ∨ i = 1 ∨ i = 2 := by omega
  rcases this with rfl | rfl | rfl <;> rfl
theorem ix_key {i : Int} (h0 : 0 ≤ i) (h1 : i < 4) : ixD (.list (keyNames.map PyData.str)) i = some (.str (keyAt i)) := by
  have : i = 0 ∨ i = 1 ∨ i = 2 ∨ i = 3 := by omega
  rcases this with rfl | rfl | rfl | rfl <;> rfl
theorem any_str (x : Str) : ∀ xs : List Str, ((xs.map PyData.str).any fun z => PyData.eqv z (.str x)) = xs.contains x
  | [] => rfl
  | y :: ys => by
    rw [List.map_cons, List.any_cons, any_str x ys, List.contains_cons]
    congr 1
    show (y == x) = (x == y)
    rw [Bool.eq_iff_iff, beq_iff_eq, beq_iff_eq]
    exact eq_comm
theorem join_nil : ∀ cs : List Nat, TL.joinL [] (cs.map fun c => [c]) = cs
  | [] => rfl
  | [c] => rfl
  | a :: b :: cs => by
    have ih := join_nil (b :: cs)
    show [a] ++ ([] ++ TL.joinL [] ((b :: cs).map fun c => [c])) = a :: b :: cs
    rw [ih]
    rfl
theorem join_small (cs : List Nat) : Txt.join ("" : Str) (cs.map fun c => (⟨#[c]⟩ : Str)) = SX.S cs := by
  have h := SX.join_S [] (cs.map fun c => [c])
  rw [List.map_map, join_nil] at h
  exact h
end Fb

/-! FbZ: from the head's facts to what the walk leans on. -/
namespace Fb
open PySem PySem.Spec PyProof.Rows L2 Evl
section
variable {K : PySem.W.Frag} {w : World} {h : Heap} {mg : Str → Option Value}
theorem fun_of {x qual : Str} {st : Stmt} {kws : List (Str × V)} {f : Addr} {fd : FuncData} (F : FunD K x qual (defArgs st) (defBody st) (defScope st) [] kws f fd) : Fun K x qual st f fd := by
  obtain ⟨⟨oc, od, dV, kV, doc, pm, an, cdv, ct, osl, h1, h2, h3, h4, _⟩, kp⟩ := F
  rcases h4 with ⟨_, rfl⟩ | ⟨h4, _⟩
  · exact ⟨⟨oc, od, kV, doc, pm, an, cdv, ct, osl, h1, h2, h3⟩, kp⟩
  · exact absurd rfl h4
theorem keys_lit {P : Params} {x : Str} : ∀ {l : List DictEntry} {ks : List Str}, l.map He.keyOf = He.keysIn P ks → x ∉ ks → l.find? (·.key.isStr x) = none
  | [], _, _, _ => rfl
  | e :: r, [], h, _ => by cases h
  | e :: r, k :: ks, h, hx => by
    have h1 : He.keyOf e :: r.map He.keyOf = some (k, PyData.keyHash P k) :: He.keysIn P ks := h
    injection h1 with h2 h3
    rw [List.mem_cons, not_or] at hx
    unfold He.keyOf at h2
    split at h2
    · rename_i y t q
      have h4 := Option.some.inj h2
      obtain ⟨h5, h6⟩ := Prod.mk.inj h4
      rw [List.find?_cons_of_neg (by rw [q]; show ¬ (y == x) = true; rw [beq_iff_eq, h5]; exact fun z => hx.1 z.symm)]
      exact keys_lit h3 hx.2
    · cases h2
theorem keys_noref {P : Params} : ∀ {l : List DictEntry} {ks : List Str}, l.map He.keyOf = He.keysIn P ks → l.any (·.refKey) = false
  | [], _, _ => rfl
  | e :: r, [], h => by cases h
  | e :: r, k :: ks, h => by
    have h1 : He.keyOf e :: r.map He.keyOf = some (k, PyData.keyHash P k) :: He.keysIn P ks := h
    injection h1 with h2 h3
    rw [List.any_cons, keys_noref h3, Bool.or_false]
    unfold He.keyOf at h2
    split at h2
    · rename_i y t q
      unfold DictEntry.refKey
      rw [q]
    · cases h2
/-- a dict of the top with text keys and int values -/
theorem kd_of {a : Addr} {kvs : List (Str × Int)} (h : He.dicW K a = some (He.keysIn w.params (kvs.map (·.1)))) (hv : He.valsB K a (kvs.map fun q => (q.1, .int q.2)) = true) (get : Str → Option Int) (hg : ∀ q, q ∈ kvs → get q.1 = some q.2) (hn : ∀ x, x ∉ kvs.map (·.1) → get x = none) : Kd K w a get := by
  obtain ⟨es, n, D⟩ := He.dicW_ok h
  refine ⟨es, n, D, fun x => ?_⟩
  by_cases hx : x ∈ kvs.map (·.1)
  · obtain ⟨q, hq, rfl⟩ := List.mem_map.mp hx
    obtain ⟨u, h1, h2⟩ := He.valsB_ok hv (q := (q.1, .int q.2)) (List.mem_map.mpr ⟨q, hq, rfl⟩)
    obtain ⟨t, rfl⟩ : ∃ t, u = .int q.2 t := h2
    exact .inr ⟨q.2, t, h1, hg q hq⟩
  · refine .inl ⟨?_, hn x hx⟩
    have h2 := h
    unfold He.dicW at h2
    rw [D.at_] at h2
    have h3 : es.toList.map He.keyOf = He.keysIn w.params (kvs.map (·.1)) := by
      dsimp only at h2
      split at h2
      · exact Option.some.inj h2
      · cases h2
    unfold PySem.W.nsIn
    rw [D.at_]
    dsimp only
    rw [keys_lit h3 hx]
    show (if es.toList.any (·.refKey) = true then none else some none) = some none
    rw [keys_noref h3]
    rfl
theorem tab_of {fa : List He.Fa} {fn : List He.DefD} {ts : List He.Tab} (c : He.SaysT fa fn ts w K) (i : Nat) {t : He.Tab} (h : ts[i]? = some t := by rfl) : He.dicW K (t.1 K) = some (He.keysIn w.params t.2) := by
  have e : ts.map (fun t => He.dicW K (t.1 K)) = ts.map fun t => some (He.keysIn w.params t.2) := congrArg (fun z : He.AlT => z.2) c
  have e2 : (ts.map fun t => He.dicW K (t.1 K))[i]? = (ts.map fun t => some (He.keysIn w.params t.2))[i]? := by rw [e]
  rw [List.getElem?_map, List.getElem?_map, h] at e2
  exact Option.some.inj e2
/-- a tuple of texts of the top -/
theorem strs_of {x : Str} {ss : List Str} (h : He.tupB K x (ss.map He.Dv.str) = true) (H : Hp) : Dp K H (.ref (He.ga K x)) (.tuple (ss.map PyData.str)) := by
  have q := He.tupB_ok h H
  rw [List.map_map] at q
  refine Dp.tup q ?_
  clear q h
  induction ss with
  | nil => exact .nil
  | cons s ss ih => exact .cons (.str s) ih
theorem ec_of (X : K.In h) (G : h.Ns mainGlobals mg) {x : Str} (g : (He.Fa.glo x).ok K = true) (c : (He.Fa.exc x).ok K = true) : Ec K mg x (He.ga K x) := by
  obtain ⟨h1, h2, h3, h4⟩ := He.exc_ok c
  exact ⟨He.glo_ok X G g, h1, h2, h3, h4⟩
end
/-- a law's end: F gives the written part, the function object, the promise over every base -/
theorem walkF {l : PySem.W.OpenLaw} {n k : Nat} {q : Program} {loose : List Str} {XP : (Str → Option Value) → Heap → Prop} {YP : World → Heap → Prop} {d : DefRec} {x : Str}
    (hn : l.most = some n) (hn2 : n ≤ sizeLine) (hdf : d.params.defaults = []) (hr : Room k callerA)
    (F : ∀ (w : World) (mg : Str → Option Value) (fa : Addr) (h : Heap), YP w h → h.Ns mainGlobals mg → mg d.name = some (.ref fa) →
      ∃ (K : PySem.W.Frag) (fd : FuncData) (sp : Sp), K.In h ∧ (∀ (s : Shared) (u : Value), BindsTo s fd ⟨[u], []⟩ [(x, u)]) ∧
        (∀ (H : Hp) (a : Addr) (ns : List Int), ns.length ≤ n → Only H → SqL K H a (ns.map V.int) → sp [.ref a] H (fun v _ => v = .bl true) fun _ _ _ => False) ∧
        ∀ base : Heap, K.In base → base.Ns mainGlobals mg → FnOk l.prog w K mg base (L2.CX l.prog w) k fa fd [x] sp) :
    PySem.W.WalkO q loose XP YP l.row.toRowW d [] (fun f vs => PySem.call f vs) := by
  refine Att.attach_call hn hdf fun w s₀ s₁ mg mb fa o pm cd doc a vs ns G Y ho hd hcd hmg hobj hints hlen hg => ?_
  obtain ⟨K, fd, sp, KX, hb, hsp, hF⟩ := F w mg fa _ Y G.T.g hmg
  exact law_call KX G.T.g G.T.b G.T.builtins G.T.nolimit hg hobj hints (Nat.le_trans hlen hn2) hr hF hb (fun H hO hS => hsp H a ns hlen hO hS) fun H e s' ⟨_, _, _, _, _, _, _, _, _, _, _, _, z⟩ => z
end Fb

namespace Fb
open PySem PySem.Spec PyProof.Rows L2 Evl
def top (i : Nat) : Stmt := PySem.Challenge.pw_farbook_k02_worlds.main.body.getD i (.Pass ⟨0, 0, 0, 0⟩)
abbrev s_is_within : Stmt := top 19
abbrev n_is_within : List Str := ["thing", "low", "high"]
abbrev p_is_within : List Str := ["thing", "low", "high"]
theorem sc_is_within : FnScope n_is_within p_is_within (defScope s_is_within) := ⟨rfl, rfl, rfl, by decide +kernel, rfl, by decide +kernel, by decide +kernel⟩
abbrev s_is_world : Stmt := top 20
abbrev n_is_world : List Str := ["thing", "one"]
abbrev p_is_world : List Str := ["thing"]
theorem sc_is_world : FnScope n_is_world p_is_world (defScope s_is_world) := ⟨rfl, rfl, rfl, by decide +kernel, rfl, by decide +kernel, by decide +kernel⟩
abbrev s_look_world : Stmt := top 21
abbrev n_look_world : List Str := ["thing"]
abbrev p_look_world : List Str := ["thing"]
theorem sc_look_world : FnScope n_look_world p_look_world (defScope s_look_world) := ⟨rfl, rfl, rfl, by decide +kernel, rfl, by decide +kernel, by decide +kernel⟩
abbrev s_is_name : Stmt := top 22
abbrev n_is_name : List Str := ["thing", "sign"]
abbrev p_is_name : List Str := ["thing"]
theorem sc_is_name : FnScope n_is_name p_is_name (defScope s_is_name) := ⟨rfl, rfl, rfl, by decide +kernel, rfl, by decide +kernel, by decide +kernel⟩
abbrev s_is_place : Stmt := top 23
abbrev n_is_place : List Str := ["world", "long", "room", "hour"]
abbrev p_is_place : List Str := ["world", "long", "room", "hour"]
theorem sc_is_place : FnScope n_is_place p_is_place (defScope s_is_place) := ⟨rfl, rfl, rfl, by decide +kernel, rfl, by decide +kernel, by decide +kernel⟩
abbrev s_is_wish : Stmt := top 24
abbrev n_is_wish : List Str := ["world", "thing"]
abbrev p_is_wish : List Str := ["world", "thing"]
theorem sc_is_wish : FnScope n_is_wish p_is_wish (defScope s_is_wish) := ⟨rfl, rfl, rfl, by decide +kernel, rfl, by decide +kernel, by decide +kernel⟩
abbrev s_look_wish : Stmt := top 25
abbrev n_look_wish : List Str := ["world", "thing"]
abbrev p_look_wish : List Str := ["world", "thing"]
theorem sc_look_wish : FnScope n_look_wish p_look_wish (defScope s_look_wish) := ⟨rfl, rfl, rfl, by decide +kernel, rfl, by decide +kernel, by decide +kernel⟩
abbrev s_is_booking : Stmt := top 26
abbrev n_is_booking : List Str := ["world", "thing"]
abbrev p_is_booking : List Str := ["world", "thing"]
theorem sc_is_booking : FnScope n_is_booking p_is_booking (defScope s_is_booking) := ⟨rfl, rfl, rfl, by decide +kernel, rfl, by decide +kernel, by decide +kernel⟩
abbrev s_is_fact : Stmt := top 27
abbrev n_is_fact : List Str := ["world", "thing"]
abbrev p_is_fact : List Str := ["world", "thing"]
theorem sc_is_fact : FnScope n_is_fact p_is_fact (defScope s_is_fact) := ⟨rfl, rfl, rfl, by decide +kernel, rfl, by decide +kernel, by decide +kernel⟩
abbrev s_look_facts : Stmt := top 28
abbrev n_look_facts : List Str := ["world", "thing", "one"]
abbrev p_look_facts : List Str := ["world", "thing"]
theorem sc_look_facts : FnScope n_look_facts p_look_facts (defScope s_look_facts) := ⟨rfl, rfl, rfl, by decide +kernel, rfl, by decide +kernel, by decide +kernel⟩
abbrev s_Copy_init : Stmt := inClass (top 39) 0
abbrev n_Copy_init : List Str := ["self", "world", "mine"]
abbrev p_Copy_init : List Str := ["self", "world", "mine"]
theorem sc_Copy_init : FnScope n_Copy_init p_Copy_init (defScope s_Copy_init) := ⟨rfl, rfl, rfl, by decide +kernel, rfl, by decide +kernel, by decide +kernel⟩
abbrev s_Copy_put : Stmt := inClass (top 39) 1
abbrev n_Copy_put : List Str := ["self", "fact"]
abbrev p_Copy_put : List Str := ["self", "fact"]
theorem sc_Copy_put : FnScope n_Copy_put p_Copy_put (defScope s_Copy_put) := ⟨rfl, rfl, rfl, by decide +kernel, rfl, by decide +kernel, by decide +kernel⟩
abbrev s_Copy_tick : Stmt := inClass (top 39) 2
abbrev n_Copy_tick : List Str := ["self"]
abbrev p_Copy_tick : List Str := ["self"]
theorem sc_Copy_tick : FnScope n_Copy_tick p_Copy_tick (defScope s_Copy_tick) := ⟨rfl, rfl, rfl, by decide +kernel, rfl, by decide +kernel, by decide +kernel⟩
abbrev s_Copy_wish : Stmt := inClass (top 39) 4
abbrev n_Copy_wish : List Str := ["self", "thing", "booking"]
abbrev p_Copy_wish : List Str := ["self", "thing"]
theorem sc_Copy_wish : FnScope n_Copy_wish p_Copy_wish (defScope s_Copy_wish) := ⟨rfl, rfl, rfl, by decide +kernel, rfl, by decide +kernel, by decide +kernel⟩
abbrev s_Copy_told : Stmt := inClass (top 39) 7
abbrev n_Copy_told : List Str := ["self"]
abbrev p_Copy_told : List Str := ["self"]
theorem sc_Copy_told : FnScope n_Copy_told p_Copy_told (defScope s_Copy_told) := ⟨rfl, rfl, rfl, by decide +kernel, rfl, by decide +kernel, by decide +kernel⟩
abbrev s_Copy_heard : Stmt := inClass (top 39) 8
abbrev n_Copy_heard : List Str := ["self", "facts", "many", "fact"]
abbrev p_Copy_heard : List Str := ["self", "facts"]
theorem sc_Copy_heard : FnScope n_Copy_heard p_Copy_heard (defScope s_Copy_heard) := ⟨rfl, rfl, rfl, by decide +kernel, rfl, by decide +kernel, by decide +kernel⟩
abbrev s_law_cell : Stmt := top 41
abbrev n_law_cell : List Str := ["script", "k"]
abbrev p_law_cell : List Str := ["script", "k"]
theorem sc_law_cell : FnScope n_law_cell p_law_cell (defScope s_law_cell) := ⟨rfl, rfl, rfl, by decide +kernel, rfl, by decide +kernel, by decide +kernel⟩
abbrev s_law_seed : Stmt := top 42
abbrev n_law_seed : List Str := ["seed", "k"]
abbrev p_law_seed : List Str := ["seed", "k"]
theorem sc_law_seed : FnScope n_law_seed p_law_seed (defScope s_law_seed) := ⟨rfl, rfl, rfl, by decide +kernel, rfl, by decide +kernel, by decide +kernel⟩
abbrev s_law_pick : Stmt := top 43
abbrev n_law_pick : List Str := ["seed", "many"]
abbrev p_law_pick : List Str := ["seed", "many"]
theorem sc_law_pick : FnScope n_law_pick p_law_pick (defScope s_law_pick) := ⟨rfl, rfl, rfl, by decide +kernel, rfl, by decide +kernel, by decide +kernel⟩
abbrev s_law_world : Stmt := top 44
abbrev n_law_world : List Str := ["cell", "keys", "some", "k", "key"]
abbrev p_law_world : List Str := ["cell"]
theorem sc_law_world : FnScope n_law_world p_law_world (defScope s_law_world) := ⟨rfl, rfl, rfl, by decide +kernel, rfl, by decide +kernel, by decide +kernel⟩
abbrev s_law_wish : Stmt := top 45
abbrev n_law_wish : List Str := ["world", "seed", "letters", "name", "k", "long", "hour"]
abbrev p_law_wish : List Str := ["world", "seed"]
theorem sc_law_wish : FnScope n_law_wish p_law_wish (defScope s_law_wish) := ⟨rfl, rfl, rfl, by decide +kernel, rfl, by decide +kernel, by decide +kernel⟩
abbrev s_law_as : Stmt := top 46
abbrev n_law_as : List Str := ["told", "due"]
abbrev p_law_as : List Str := ["told", "due"]
theorem sc_law_as : FnScope n_law_as p_law_as (defScope s_law_as) := ⟨rfl, rfl, rfl, by decide +kernel, rfl, by decide +kernel, by decide +kernel⟩
abbrev s_law_in : Stmt := top 47
abbrev n_law_in : List Str := ["thing", "low", "high"]
abbrev p_law_in : List Str := ["thing", "low", "high"]
theorem sc_law_in : FnScope n_law_in p_law_in (defScope s_law_in) := ⟨rfl, rfl, rfl, by decide +kernel, rfl, by decide +kernel, by decide +kernel⟩
abbrev s_law_is_world : Stmt := top 48
abbrev n_law_is_world : List Str := ["thing", "at", "key"]
abbrev p_law_is_world : List Str := ["thing"]
theorem sc_law_is_world : FnScope n_law_is_world p_law_is_world (defScope s_law_is_world) := ⟨rfl, rfl, rfl, by decide +kernel, rfl, by decide +kernel, by decide +kernel⟩
abbrev s_law_is_wish : Stmt := top 49
abbrev n_law_is_wish : List Str := ["world", "thing", "sign"]
abbrev p_law_is_wish : List Str := ["world", "thing"]
theorem sc_law_is_wish : FnScope n_law_is_wish p_law_is_wish (defScope s_law_is_wish) := ⟨rfl, rfl, rfl, by decide +kernel, rfl, by decide +kernel, by decide +kernel⟩
abbrev s_law_is_pair : Stmt := top 50
abbrev n_law_is_pair : List Str := ["thing", "first", "second"]
abbrev p_law_is_pair : List Str := ["thing", "first", "second"]
theorem sc_law_is_pair : FnScope n_law_is_pair p_law_is_pair (defScope s_law_is_pair) := ⟨rfl, rfl, rfl, by decide +kernel, rfl, by decide +kernel, by decide +kernel⟩
abbrev s_law_is_fact : Stmt := top 51
abbrev n_law_is_fact : List Str := ["world", "thing"]
abbrev p_law_is_fact : List Str := ["world", "thing"]
theorem sc_law_is_fact : FnScope n_law_is_fact p_law_is_fact (defScope s_law_is_fact) := ⟨rfl, rfl, rfl, by decide +kernel, rfl, by decide +kernel, by decide +kernel⟩
abbrev s_law_refusal : Stmt := top 52
abbrev n_law_refusal : List Str := ["kind", "world", "here", "thing", "caught"]
abbrev p_law_refusal : List Str := ["kind", "world", "here", "thing"]
theorem sc_law_refusal : FnScope n_law_refusal p_law_refusal (defScope s_law_refusal) := ⟨rfl, rfl, rfl, by decide +kernel, rfl, by decide +kernel, by decide +kernel⟩
abbrev s_law : Stmt := top 53
abbrev n_law : List Str := ["script", "world", "odds", "odd", "at", "bad", "here", "good", "wish", "mine", "facts", "fact", "new", "spot", "part", "before", "told"]
abbrev p_law : List Str := ["script"]
theorem sc_law : FnScope n_law p_law (defScope s_law) := ⟨rfl, rfl, rfl, by decide +kernel, rfl, by decide +kernel, by decide +kernel⟩
end Fb

namespace Fb
open PySem PySem.Spec PyProof.Rows L2 Evl
/-! ### worlds.py -/
structure Bl (mg : Str → Option Value) : Prop where
  len : mg "len" = none
  isinstance : mg "isinstance" = none
  int : mg "int" = none
  bool : mg "bool" = none
  str : mg "str" = none
  tuple : mg "tuple" = none
  list : mg "list" = none
  dict : mg "dict" = none
  set : mg "set" = none
  range : mg "range" = none
  sorted : mg "sorted" = none
  max : mg "max" = none
  min : mg "min" = none
  abs : mg "abs" = none
  enumerate : mg "enumerate" = none
  zip : mg "zip" = none
  sum : mg "sum" = none
def sizesGet (s : Str) : Option Int := if s = "wish" then some 4 else if s = "off" then some 2 else if s = "pin" then some 4 else none
structure Cs (K : PySem.W.Frag) (w : World) (mg : Str → Option Value) : Prop where
  hours : ∃ t, mg "HOURS" = some (.int 24 t)
  copies : ∃ t, mg "MOST_COPIES" = some (.int 5 t)
  rooms : ∃ t, mg "MOST_ROOMS" = some (.int 3 t)
  long : ∃ t, mg "MOST_LONG" = some (.int 6 t)
  wishes : ∃ t, mg "MOST_WISHES" = some (.int 12 t)
  clock : ∃ t, mg "MOST_CLOCK" = some (.int 9999 t)
  small : ∃ t, mg "SMALL" = some (.str smallTxt t)
  keys : ∃ a, mg "KEYS" = some (.ref a) ∧ ∀ H, Dp K H (.ref a) (.tuple (keyNames.map PyData.str))
  sizes : ∃ a, mg "SIZES" = some (.ref a) ∧ Kd K w a sizesGet
def R_is_within : List Dn → Dn → Prop := fun ds d => ∃ y lo hi, ds = [.d y, .d (.int lo), .d (.int hi)] ∧ d = .d (.bool (within y lo hi))
def R_is_world : List Dn → Dn → Prop := fun ds d => ∃ y, ds = [.d y] ∧ szOk y = true ∧ d = .d (.bool (isWorld y))
def R_is_name : List Dn → Dn → Prop := fun ds d => ∃ y, ds = [.d y] ∧ szOk y = true ∧ d = .d (.bool (isName y))
def R_is_place : List Dn → Dn → Prop := fun ds d => ∃ c r ks long room hour, ds = [.d (wD c r ks), .d (.int long), .d room, .d hour] ∧ d = .d (.bool (isPlace r long room hour))
section
variable {P : Program} {w : World} {K : PySem.W.Frag} {mg : Str → Option Value} {base : Heap} {f : Addr} {fd : FuncData}
theorem int_of {y : PyData} (h1 : isInt y = true) (h2 : (!isBool y) = true) : ∃ i, y = .int i := by
  cases y with
  | int i => exact ⟨i, rfl⟩
  | bool b => cases h2
  | _ => cases h1
theorem tup_of {y : PyData} (h : isTup y = true) : ∃ xs, y = .tuple xs := by
  cases y with
  | tuple xs => exact ⟨xs, rfl⟩
  | _ => cases h
theorem str_of {y : PyData} (h : isStr y = true) : ∃ s, y = .str s := by
  cases y with
  | str s => exact ⟨s, rfl⟩
  | _ => cases h
theorem ok_is_within (F : Fun K "is_within" "is_within" s_is_within f fd) (B : Bl mg) : FnOk P w K mg base (L2.CX P w) 1 f fd p_is_within (spR K R_is_within noB) := by
  refine okP F sc_is_within (by rintro ds d ⟨y, lo, hi, rfl, rfl⟩; rfl) ?_
  rintro cdv A outer s H Q E ds d G hr ⟨y, lo, hi, rfl, rfl⟩ k
  refine go_ret (Pv.is (pv_and (pv_isi B.isinstance (pv_var 0) (pv_ty B.int PyProof.Rows.boot_int) (kit_int y)) fun h1 => pv_and (pv_not (pv_isi B.isinstance (pv_var 0) (pv_ty B.bool PyProof.Rows.boot_bool) (kit_bool y))) fun h2 => (show Pv _ _ _ (.d (.bool (within y lo hi))) from pv_one ?_)) ?_) k
  · obtain ⟨i, rfl⟩ := int_of h1 h2
    exact pv_le_le (pv_var 1) (pv_var 0) (pv_var 2)
  · cases y <;> rfl
abbrev FcW (P : Program) (w : World) (K : PySem.W.Frag) (mg : Str → Option Value) (base : Heap) : Prop := Fc P w K mg base 1 "is_within" (spR K R_is_within noB)
theorem filter_nil_iff {al : Type} {p : al → Bool} : ∀ {xs : List al}, (xs.filter p).isEmpty = xs.all fun x => !p x
  | [] => rfl
  | x :: xs => by
    rw [List.filter_cons, List.all_cons]
    cases q : p x with
    | true => rfl
    | false => exact filter_nil_iff
theorem map_isEmpty {al be : Type} {g : al → be} {xs : List al} : (xs.map g).isEmpty = xs.isEmpty := by cases xs <;> rfl
theorem keysOk_no {ks : List PyData} (h : (ks.all fun y => !noKey y) = false) : keysOk ks = false := by
  unfold keysOk
  split
  · rename_i ss hs
    have := strsOf_some hs
    subst this
    rw [List.all_map] at h
    have h2 : (ss.all (keyNames.contains ·)) = false := by
      rw [← h]
      congr 1
      funext s
      show keyNames.contains s = !(!keyNames.contains s)
      rw [Bool.not_not]
    rw [h2, Bool.false_and]
  · rfl
theorem keys_strs : ∀ {ks : List PyData}, (ks.all fun y => !noKey y) = true → ∃ ss : List Str, ks = ss.map PyData.str ∧ ss.all (keyNames.contains ·) = true
  | [], _ => ⟨[], rfl, rfl⟩
  | y :: ks, h => by
    rw [List.all_cons, Bool.and_eq_true] at h
    obtain ⟨ss, rfl, h2⟩ := keys_strs h.2
    cases y with
    | str s =>
      have h1 := h.1
      unfold noKey at h1
      rw [Bool.not_not] at h1
      exact ⟨s :: ss, rfl, by rw [List.all_cons, h1, h2]; rfl⟩
    | _ => cases h.1
theorem list3 {al : Type} {xs : List al} (h : xs.length = 3) : ∃ a b c, xs = [a, b, c] := by
  match xs, h with
  | [a, b, c], _ => exact ⟨a, b, c, rfl⟩
theorem isWorld_len {xs : List PyData} (h : ¬ xs.length = 3) : isWorld (.tuple xs) = false := by
  unfold isWorld
  split
  · rename_i e
    cases e
    exact absurd rfl h
  · rfl
theorem ok_is_world (F : Fun K "is_world" "is_world" s_is_world f fd) (B : Bl mg) (C : Cs K w mg) (Fw : FcW P w K mg base) : FnOk P w K mg base (L2.CX P w) 2 f fd p_is_world (spR K R_is_world noB) := by
  refine okP F sc_is_world (by rintro ds d ⟨y, rfl, _, rfl⟩; rfl) ?_
  rintro cdv A outer s H Q E ds d G hr ⟨y, rfl, hsz, rfl⟩ k
  obtain ⟨t5, h5⟩ := C.copies
  obtain ⟨t3, h3⟩ := C.rooms
  obtain ⟨ak, hk, dk⟩ := C.keys
  cases hT : isTup y with
  | false =>
    have hw : isWorld y = false := by cases y <;> first | rfl | cases hT
    exact go_when (Pw.pt (pw_orT ((pt_not (pt_val (pv_isi B.isinstance (pv_var 0) (pv_ty B.tuple PyProof.Rows.boot_tuple) (kit_tup y)))).is (by rw [hT]; rfl)))) (fun _ => go_ret (pv_bool.is (by rw [hw])) k) (fun h => nomatch h)
  | true =>
    obtain ⟨xs, rfl⟩ := tup_of hT
    by_cases hl : xs.length = 3
    · obtain ⟨a, b, c, rfl⟩ := list3 hl
      cases ha : within a 1 5 with
      | false =>
        have hw : isWorld (.tuple [a, b, c]) = false := by cases c <;> first | rfl | (show (within a 1 5 && _ && _) = false; rw [ha]; rfl)
        refine go_when (q := true) (Pw.pt (pw_orF ((pt_not (pt_val (pv_isi B.isinstance (pv_var 0) (pv_ty B.tuple PyProof.Rows.boot_tuple) (kit_tup _)))).is (by rfl)) (pw_orF ((pt_neI (pv_len B.len (pv_var 0) rfl) pv_int).is (by rfl)) (pw_or1 ((pt_not (pt_val (pv_call Fw hr (pa_cons (pv_ix (pv_var 0) pv_int rfl) (pa_cons pv_int (pa_cons (pv_gint h5) pa_nil))) ⟨a, 1, 5, rfl, rfl⟩))).is (by rw [ha]; rfl)))))) (fun _ => go_ret (pv_bool.is (by rw [hw])) k) (fun h => nomatch h)
      | true =>
        refine go_when (q := false) (Pw.pt (pw_orF ((pt_not (pt_val (pv_isi B.isinstance (pv_var 0) (pv_ty B.tuple PyProof.Rows.boot_tuple) (kit_tup _)))).is (by rfl)) (pw_orF ((pt_neI (pv_len B.len (pv_var 0) rfl) pv_int).is (by rfl)) (pw_or1 ((pt_not (pt_val (pv_call Fw hr (pa_cons (pv_ix (pv_var 0) pv_int rfl) (pa_cons pv_int (pa_cons (pv_gint h5) pa_nil))) ⟨a, 1, 5, rfl, rfl⟩))).is (by rw [ha]; rfl)))))) (fun h => nomatch h) (fun _ => ?_)
        cases hb : within b 1 3 with
        | false =>
          have hw : isWorld (.tuple [a, b, c]) = false := by cases c <;> first | rfl | (show (within a 1 5 && within b 1 3 && _) = false; rw [ha, hb]; rfl)
          exact go_when (q := true) (Pw.pt (pw_orT ((pt_not (pt_val (pv_call Fw hr (pa_cons (pv_ix (pv_var 0) pv_int rfl) (pa_cons pv_int (pa_cons (pv_gint h3) pa_nil))) ⟨b, 1, 3, rfl, rfl⟩))).is (by rw [hb]; rfl)))) (fun _ => go_ret (pv_bool.is (by rw [hw])) k) (fun h => nomatch h)
        | true =>
          cases hc : isTup c with
          | false =>
            have hw : isWorld (.tuple [a, b, c]) = false := by cases c <;> first | rfl | cases hc
            exact go_when (q := true) (Pw.pt (pw_orF ((pt_not (pt_val (pv_call Fw hr (pa_cons (pv_ix (pv_var 0) pv_int rfl) (pa_cons pv_int (pa_cons (pv_gint h3) pa_nil))) ⟨b, 1, 3, rfl, rfl⟩))).is (by rw [hb]; rfl)) (pw_or1 ((pt_not (pt_val (pv_isi B.isinstance (pv_ix (pv_var 0) pv_int rfl) (pv_ty B.tuple PyProof.Rows.boot_tuple) (kit_tup c)))).is (by rw [hc]; rfl))))) (fun _ => go_ret (pv_bool.is (by rw [hw])) k) (fun h => nomatch h)
          | true =>
            obtain ⟨ks, rfl⟩ := tup_of hc
            refine go_when (q := false) (Pw.pt (pw_orF ((pt_not (pt_val (pv_call Fw hr (pa_cons (pv_ix (pv_var 0) pv_int rfl) (pa_cons pv_int (pa_cons (pv_gint h3) pa_nil))) ⟨b, 1, 3, rfl, rfl⟩))).is (by rw [hb]; rfl)) (pw_or1 ((pt_not (pt_val (pv_isi B.isinstance (pv_ix (pv_var 0) pv_int rfl) (pv_ty B.tuple PyProof.Rows.boot_tuple) (kit_tup _)))).is (by rfl))))) (fun h => nomatch h) (fun _ => ?_)
            have hkl : ks.length ≤ 100000 := by
              have := (szOk_tup ((szOk_tup hsz).2 (.tuple ks) (by simp))).1
              omega
            refine go_when (pt_truth (pv_lc [("one", 1)] noKey id (fun y => [some (.d (.tuple [a, b, .tuple ks])), some (.d y)]) rfl sc_is_world.nd (wk_tup (pv_ix (pv_var 0) pv_int rfl)) (blkOk_by (N := n_is_world) (sc := defScope s_is_world) (by decide +kernel)) (fun y _ s H C cl fp => pg_name 1 sc_is_world.nd) (fun y hy s H C cl fp => pts_one (Pw.pt ?_)) (fun y hy _ s H C cl fp => pv_var 1) hkl (by simp) (fun _ _ => rfl))) ?_ ?_
            · cases hs : isStr y with
              | false =>
                refine Pw.is (b := true) ?_ (by cases y <;> first | rfl | cases hs)
                exact pw_orT ((pt_not (pt_val (pv_isi B.isinstance (pv_var 1) (pv_ty B.str PyProof.Rows.boot_str) (kit_str y)))).is (by rw [hs]; rfl))
              | true =>
                obtain ⟨z, rfl⟩ := str_of hs
                exact pw_orF ((pt_not (pt_val (pv_isi B.isinstance (pv_var 1) (pv_ty B.str PyProof.Rows.boot_str) (kit_str _)))).is (by rfl)) (pw_or1 (pt_ninS (pv_var 1) (pv_gref hk dk)))
            · intro hq
              have hn : (ks.all fun y => !noKey y) = false := by
                rw [← filter_nil_iff]
                rw [show truD (.list ((ks.filter noKey).map id)) = !((ks.filter noKey).map id).isEmpty from rfl, map_isEmpty] at hq
                simpa using hq
              have hw : isWorld (.tuple [a, b, .tuple ks]) = false := by
                show (within a 1 5 && within b 1 3 && keysOk ks) = false
                rw [keysOk_no hn, Bool.and_false]
              exact go_ret (pv_bool.is (by rw [hw])) k
            · intro hq
              have hn : (ks.all fun y => !noKey y) = true := by
                rw [← filter_nil_iff]
                rw [show truD (.list ((ks.filter noKey).map id)) = !((ks.filter noKey).map id).isEmpty from rfl, map_isEmpty] at hq
                simpa using hq
              obtain ⟨ss, rfl, hss⟩ := keys_strs hn
              rw [List.length_map] at hkl
              have hl1 : ss.length ≤ 1000 := by
                have := (szOk_tup ((szOk_tup hsz).2 (.tuple (ss.map PyData.str)) (by simp))).1
                rw [List.length_map] at this
                exact this
              have hw : isWorld (.tuple [a, b, .tuple (ss.map PyData.str)]) = decide ((dcn ss : Int) = ((ss.map PyData.str).length : Int)) := by
                show (within a 1 5 && within b 1 3 && keysOk (ss.map PyData.str)) = _
                unfold keysOk
                rw [ha, hb, strsOf_map]
                show (ss.all _ && decide (dcn ss = ss.length)) = _
                rw [hss, Bool.true_and, List.length_map, Bool.eq_iff_iff, decide_eq_true_iff, decide_eq_true_iff]
                omega
              exact go_ret ((pv_eqI (pv_lenSet B.len B.set (pv_ix (pv_var 0) pv_int rfl) hl1) (pv_len B.len (pv_ix (pv_var 0) pv_int rfl) rfl)).is (by rw [hw])) k
    · have hw := isWorld_len hl
      have hl' : ((xs.length : Int) = 3) = False := by
        rw [eq_iff_iff, iff_false]
        intro z
        exact hl (by omega)
      exact go_when (Pw.pt (pw_orF ((pt_not (pt_val (pv_isi B.isinstance (pv_var 0) (pv_ty B.tuple PyProof.Rows.boot_tuple) (kit_tup _)))).is (by rfl)) (pw_orT ((pt_neI (pv_len B.len (pv_var 0) rfl) pv_int).is (by rw [decide_eq_false (by rw [hl']; exact id)]; rfl))))) (fun _ => go_ret (pv_bool.is (by rw [hw])) k) (fun h => nomatch h)
/-- isinstance of the built-in classes, as tests -/
theorem pt_isT {X : Cx} {a : Expr} {r : Rho} {y : PyData} {pos p p2 : Pos} (B : Bl X.mg) (ha : Pv X a r (.d y)) (hg : Gl X "isinstance" := by rfl) (hg2 : Gl X "tuple" := by rfl) (he : starEach [a, .Name "tuple" p2] X.env = (false, eval a X.env) :: starEach [.Name "tuple" p2] X.env := by rfl) :
    Pt X (.Call (.Name "isinstance" p) [a, .Name "tuple" p2] [] pos) r (isTup y) := pt_val (pv_isi B.isinstance ha (pv_ty B.tuple PyProof.Rows.boot_tuple hg2) (kit_tup y) hg he)
theorem pt_isS {X : Cx} {a : Expr} {r : Rho} {y : PyData} {pos p p2 : Pos} (B : Bl X.mg) (ha : Pv X a r (.d y)) (hg : Gl X "isinstance" := by rfl) (hg2 : Gl X "str" := by rfl) (he : starEach [a, .Name "str" p2] X.env = (false, eval a X.env) :: starEach [.Name "str" p2] X.env := by rfl) :
    Pt X (.Call (.Name "isinstance" p) [a, .Name "str" p2] [] pos) r (isStr y) := pt_val (pv_isi B.isinstance ha (pv_ty B.str PyProof.Rows.boot_str hg2) (kit_str y) hg he)
abbrev tkR {P : Program} {w : World} {K : PySem.W.Frag} {mg : Str → Option Value} {base : Heap} {N : List Str} {qual : Str} {scope : Scope} {f : Addr} {cd : Value} {A : Around} {outer : List Env} {s : Shared} {H : Hp} {E : XK} :
    Takes (cxOf (L2.CX P w) P w K mg base N qual scope f cd A outer s H E) (fun cls d _ H => E cls d H) := takes_of rfl rfl rfl rfl
/-- a look: nothing, or an error of the class at C -/
def R_look (ok : List Dn → Bool → Prop) : List Dn → Dn → Prop := fun ds d => ok ds true ∧ d = .d .none
def B_look (ok : List Dn → Bool → Prop) (C : Addr) : List Dn → Addr → Prop := fun ds D => ok ds false ∧ D = C
def L_world : List Dn → Bool → Prop := fun ds b => ∃ y, ds = [.d y] ∧ szOk y = true ∧ isWorld y = b
abbrev FcIW (P : Program) (w : World) (K : PySem.W.Frag) (mg : Str → Option Value) (base : Heap) : Prop := Fc P w K mg base 2 "is_world" (spR K R_is_world noB)
theorem ok_look_world {C : Addr} (F : Fun K "look_world" "look_world" s_look_world f fd) (Fi : FcIW P w K mg base) (T : Ec K mg "BadWorld" C) : FnOk P w K mg base (L2.CX P w) 3 f fd p_look_world (spR K (R_look L_world) (B_look L_world C)) := by
  refine okE F sc_look_world (by rintro ds d ⟨⟨y, rfl, _⟩, _⟩; rfl) (by rintro ds d ⟨⟨y, rfl, _⟩, _⟩; rfl) ?_ ?_
  · rintro cdv A outer s H Q E ds d G hr ⟨⟨y, rfl, hsz, hw⟩, rfl⟩ k
    refine go_when (q := false) ((pt_not (pt_val (pv_call Fi hr (pa_cons (pv_var 0) pa_nil) ⟨y, rfl, hsz, rfl⟩))).is (by rw [hw]; rfl)) (fun h => nomatch h) (fun _ => go_nil fun σ H' ⟨G', g', _⟩ => k _ G' H' g' Dp.non)
  · rintro cdv A outer s H Q E ds D G hr ⟨⟨y, rfl, hsz, hw⟩, rfl⟩ k
    refine go_when (q := true) ((pt_not (pt_val (pv_call Fi hr (pa_cons (pv_var 0) pa_nil) ⟨y, rfl, hsz, rfl⟩))).is (by rw [hw]; rfl)) (fun _ => go_raise T tkR fun σ G' H' g' _ => k G' H' g') (fun h => nomatch h)
theorem ok_is_name (F : Fun K "is_name" "is_name" s_is_name f fd) (B : Bl mg) (C : Cs K w mg) : FnOk P w K mg base (L2.CX P w) 1 f fd p_is_name (spR K R_is_name noB) := by
  refine okP F sc_is_name (by rintro ds d ⟨y, rfl, _, rfl⟩; rfl) ?_
  rintro cdv A outer s H Q E ds d G hr ⟨y, rfl, hsz, rfl⟩ k
  obtain ⟨ts, hsm⟩ := C.small
  cases hs : isStr y with
  | false =>
    have hw : isName y = false := by cases y <;> first | rfl | cases hs
    exact go_ret ((pv_andF ((pv_isi B.isinstance (pv_var 0) (pv_ty B.str PyProof.Rows.boot_str) (kit_str y)).is (by rw [hs]))).is (by rw [hw])) k
  | true =>
    obtain ⟨z, rfl⟩ := str_of hs
    have hl := szOk_str hsz
    refine go_ret ((pv_andT ((pv_isi B.isinstance (pv_var 0) (pv_ty B.str PyProof.Rows.boot_str) (kit_str _)).is (by rfl)) (pv_and (pv_le_le pv_int (pv_len B.len (pv_var 0) rfl (strOk_sz hsz)) pv_int) fun _ => pv_one (pv_notT (pv_lc [("sign", 1)] (fun c : Nat => !decide (c ∈ smallTxt.cps.toList)) (fun c => .str ⟨#[c]⟩) (fun c => [some (.d (.str z)), some (.d (.str ⟨#[c]⟩))]) rfl sc_is_name.nd (wk_str (pv_var 0)) (blkOk_by (N := n_is_name) (sc := defScope s_is_name) (by decide +kernel)) (fun y _ s H C cl fp => pg_name 1 sc_is_name.nd) (fun y hy s H C cl fp => pts_one (pt_nin1 (pv_var 1) (pv_gstr hsm))) (fun y hy _ s H C cl fp => pv_var 1) (by have : z.cps.toList.length = z.length := rfl; omega) (by simp) (fun _ _ => rfl))))).is ?_) k
    congr 1
    show PyData.bool ((decide (1 ≤ (z.length : Int)) && decide ((z.length : Int) ≤ 4)) && !(!((z.cps.toList.filter fun c => !decide (c ∈ smallTxt.cps.toList)).map fun c => PyData.str ⟨#[c]⟩).isEmpty)) = PyData.bool (isName (.str z))
    rw [map_isEmpty, filter_nil_iff, Bool.not_not]
    simp only [Bool.not_not]
    rfl
theorem ok_is_place (F : Fun K "is_place" "is_place" s_is_place f fd) (C : Cs K w mg) (Fw : FcW P w K mg base) : FnOk P w K mg base (L2.CX P w) 2 f fd p_is_place (spR K R_is_place noB) := by
  refine okP F sc_is_place (by rintro ds d ⟨c, r, ks, long, room, hour, rfl, rfl⟩; rfl) ?_
  rintro cdv A outer s H Q E ds d G hr ⟨c, r, ks, long, room, hour, rfl, rfl⟩ k
  obtain ⟨t24, h24⟩ := C.hours
  exact go_ret (pv_and (pv_call Fw hr (pa_cons (pv_var 2) (pa_cons pv_int (pa_cons (pv_sub (pv_ix (pv_var 0) pv_int rfl) pv_int) pa_nil))) ⟨room, 0, r - 1, rfl, rfl⟩) fun _ => pv_one (pv_call Fw hr (pa_cons (pv_var 3) (pa_cons pv_int (pa_cons (pv_sub (pv_gint h24) (pv_var 1)) pa_nil))) ⟨hour, 0, 24 - long, rfl, rfl⟩)) k
end
end Fb

namespace Fb
open PySem PySem.Spec PyProof.Rows L2 Evl
/-! ### worlds.py: wishes, bookings, facts -/
def R_is_wish : List Dn → Dn → Prop := fun ds d => ∃ c r ks y, ds = [.d (wD c r ks), .d y] ∧ szOk y = true ∧ d = .d (.bool (isWish r y))
def R_is_booking : List Dn → Dn → Prop := fun ds d => ∃ c r ks y, ds = [.d (wD c r ks), .d y] ∧ d = .d (.bool (isBooking c y))
def R_is_fact : List Dn → Dn → Prop := fun ds d => ∃ c r ks y, ds = [.d (wD c r ks), .d y] ∧ szOk y = true ∧ d = .d (.bool (isFact c r y))
def L_wish : List Dn → Bool → Prop := fun ds b => ∃ c r ks y, ds = [.d (wD c r ks), .d y] ∧ szOk y = true ∧ isWish r y = b
/-- a tuple of facts -/
def areFacts (c r : Int) : PyData → Bool
  | .tuple fs => fs.all (isFact c r)
  | _ => false
def L_facts : List Dn → Bool → Prop := fun ds b => ∃ c r ks y, ds = [.d (wD c r ks), .d y] ∧ szOk y = true ∧ areFacts c r y = b
theorem list5 {al : Type} {xs : List al} (h : xs.length = 5) : ∃ a b c d e, xs = [a, b, c, d, e] := by
  match xs, h with
  | [a, b, c, d, e], _ => exact ⟨a, b, c, d, e, rfl⟩
theorem list2 {al : Type} {xs : List al} (h : xs.length = 2) : ∃ a b, xs = [a, b] := by
  match xs, h with
  | [a, b], _ => exact ⟨a, b, rfl⟩
theorem isWish_len {r : Int} {xs : List PyData} (h : ¬ xs.length = 5) : isWish r (.tuple xs) = false := by
  unfold isWish
  split
  · rename_i e
    cases e
    exact absurd rfl h
  · rfl
theorem isBooking_len {r : Int} {xs : List PyData} (h : ¬ xs.length = 2) : isBooking r (.tuple xs) = false := by
  unfold isBooking
  split
  · rename_i e
    cases e
    exact absurd rfl h
  · rfl
theorem lenNe {al : Type} {xs : List al} {n : Nat} (h : ¬ xs.length = n) : (!decide ((xs.length : Int) = (n : Int))) = true := by
  rw [decide_eq_false (fun z => h (by omega))]
  rfl
section
variable {P : Program} {w : World} {K : PySem.W.Frag} {mg : Str → Option Value} {base : Heap} {f : Addr} {fd : FuncData}
abbrev FcN (P : Program) (w : World) (K : PySem.W.Frag) (mg : Str → Option Value) (base : Heap) : Prop := Fc P w K mg base 1 "is_name" (spR K R_is_name noB)
abbrev FcPl (P : Program) (w : World) (K : PySem.W.Frag) (mg : Str → Option Value) (base : Heap) : Prop := Fc P w K mg base 2 "is_place" (spR K R_is_place noB)
theorem ok_is_wish (F : Fun K "is_wish" "is_wish" s_is_wish f fd) (B : Bl mg) (C : Cs K w mg) (Fw : FcW P w K mg base) (Fn : FcN P w K mg base) (Fp : FcPl P w K mg base) : FnOk P w K mg base (L2.CX P w) 3 f fd p_is_wish (spR K R_is_wish noB) := by
  refine okP F sc_is_wish (by rintro ds d ⟨c, r, ks, y, rfl, _, rfl⟩; rfl) ?_
  rintro cdv A outer s H Q E ds d G hr ⟨c, r, ks, y, rfl, hsz, rfl⟩ k
  obtain ⟨t6, h6⟩ := C.long
  cases hT : isTup y with
  | false =>
    have hw : isWish r y = false := by cases y <;> first | rfl | cases hT
    exact go_when (Pw.pt (pw_orT ((pt_not (pt_isT B (pv_var 1))).is (by rw [hT]; rfl)))) (fun _ => go_ret (pv_bool.is (by rw [hw])) k) (fun h => nomatch h)
  | true =>
    obtain ⟨xs, rfl⟩ := tup_of hT
    by_cases hl : xs.length = 5
    · obtain ⟨a, b, e, l, g, rfl⟩ := list5 hl
      have sa : szOk a = true := (szOk_tup hsz).2 a (by simp)
      cases ha : isName a with
      | false =>
        have hw : isWish r (.tuple [a, b, e, l, g]) = false := by cases l <;> first | rfl | (show (isName a && _ && _) = false; rw [ha]; rfl)
        exact go_when (q := true) (Pw.pt (pw_orF ((pt_not (pt_isT B (pv_var 1))).is (by rfl)) (pw_orF ((pt_neI (pv_len B.len (pv_var 1) rfl) pv_int).is (by rfl)) (pw_or1 ((pt_not (pt_val (pv_call Fn hr (pa_cons (pv_ix (pv_var 1) pv_int rfl) pa_nil) ⟨a, rfl, sa, rfl⟩))).is (by rw [ha]; rfl)))))) (fun _ => go_ret (pv_bool.is (by rw [hw])) k) (fun h => nomatch h)
      | true =>
        refine go_when (q := false) (Pw.pt (pw_orF ((pt_not (pt_isT B (pv_var 1))).is (by rfl)) (pw_orF ((pt_neI (pv_len B.len (pv_var 1) rfl) pv_int).is (by rfl)) (pw_or1 ((pt_not (pt_val (pv_call Fn hr (pa_cons (pv_ix (pv_var 1) pv_int rfl) pa_nil) ⟨a, rfl, sa, rfl⟩))).is (by rw [ha]; rfl)))))) (fun h => nomatch h) (fun _ => ?_)
        cases hL : within l 1 6 with
        | false =>
          have hw : isWish r (.tuple [a, b, e, l, g]) = false := by cases l <;> first | rfl | (rename_i i; show (isName a && (decide (1 ≤ i) && decide (i ≤ 6)) && _) = false; rw [show (decide (1 ≤ i) && decide (i ≤ 6)) = false from hL, Bool.and_false]; rfl)
          exact go_when (q := true) ((pt_not (pt_val (pv_call Fw hr (pa_cons (pv_ix (pv_var 1) pv_int rfl) (pa_cons pv_int (pa_cons (pv_gint h6) pa_nil))) ⟨l, 1, 6, rfl, rfl⟩))).is (by rw [hL]; rfl)) (fun _ => go_ret (pv_bool.is (by rw [hw])) k) (fun h => nomatch h)
        | true =>
          obtain ⟨i, rfl, i1, i2⟩ := within_int hL
          refine go_when (q := false) ((pt_not (pt_val (pv_call Fw hr (pa_cons (pv_ix (pv_var 1) pv_int rfl) (pa_cons pv_int (pa_cons (pv_gint h6) pa_nil))) ⟨.int i, 1, 6, rfl, rfl⟩))).is (by rw [hL]; rfl)) (fun h => nomatch h) (fun _ => ?_)
          refine go_ret ((pv_and (pv_call Fp hr (pa_cons (pv_var 0) (pa_cons (pv_ix (pv_var 1) pv_int rfl) (pa_cons (pv_ix (pv_var 1) pv_int rfl) (pa_cons (pv_ix (pv_var 1) pv_int rfl) pa_nil)))) ⟨c, r, ks, i, b, e, rfl, rfl⟩) fun _ => pv_one (pv_call Fw hr (pa_cons (pv_ix (pv_var 1) pv_int rfl) (pa_cons pv_int (pa_cons pv_int pa_nil))) ⟨g, 0, 9, rfl, rfl⟩)).is ?_) k
          show Dn.d (.bool (isPlace r i b e && within g 0 9)) = Dn.d (.bool (isName a && (decide (1 ≤ i) && decide (i ≤ 6)) && (isPlace r i b e && within g 0 9)))
          rw [ha, decide_eq_true i1, decide_eq_true i2]
          rfl
    · have hw := isWish_len (r := r) hl
      exact go_when (Pw.pt (pw_orF ((pt_not (pt_isT B (pv_var 1))).is (by rfl)) (pw_orT ((pt_neI (pv_len B.len (pv_var 1) rfl) pv_int).is (lenNe hl))))) (fun _ => go_ret (pv_bool.is (by rw [hw])) k) (fun h => nomatch h)
abbrev FcWi (P : Program) (w : World) (K : PySem.W.Frag) (mg : Str → Option Value) (base : Heap) : Prop := Fc P w K mg base 3 "is_wish" (spR K R_is_wish noB)
theorem ok_look_wish {C : Addr} (F : Fun K "look_wish" "look_wish" s_look_wish f fd) (Fi : FcWi P w K mg base) (T : Ec K mg "BadWish" C) : FnOk P w K mg base (L2.CX P w) 4 f fd p_look_wish (spR K (R_look L_wish) (B_look L_wish C)) := by
  refine okE F sc_look_wish (by rintro ds d ⟨⟨c, r, ks, y, rfl, _⟩, _⟩; rfl) (by rintro ds d ⟨⟨c, r, ks, y, rfl, _⟩, _⟩; rfl) ?_ ?_
  · rintro cdv A outer s H Q E ds d G hr ⟨⟨c, r, ks, y, rfl, hsz, hw⟩, rfl⟩ k
    refine go_when (q := false) ((pt_not (pt_val (pv_call Fi hr (pa_cons (pv_var 0) (pa_cons (pv_var 1) pa_nil)) ⟨c, r, ks, y, rfl, hsz, rfl⟩))).is (by rw [hw]; rfl)) (fun h => nomatch h) (fun _ => go_nil fun σ H' ⟨G', g', _⟩ => k _ G' H' g' Dp.non)
  · rintro cdv A outer s H Q E ds D G hr ⟨⟨c, r, ks, y, rfl, hsz, hw⟩, rfl⟩ k
    refine go_when (q := true) ((pt_not (pt_val (pv_call Fi hr (pa_cons (pv_var 0) (pa_cons (pv_var 1) pa_nil)) ⟨c, r, ks, y, rfl, hsz, rfl⟩))).is (by rw [hw]; rfl)) (fun _ => go_raise T tkR fun σ G' H' g' _ => k G' H' g') (fun h => nomatch h)
theorem ok_is_booking (F : Fun K "is_booking" "is_booking" s_is_booking f fd) (B : Bl mg) (C : Cs K w mg) (Fw : FcW P w K mg base) : FnOk P w K mg base (L2.CX P w) 2 f fd p_is_booking (spR K R_is_booking noB) := by
  refine okP F sc_is_booking (by rintro ds d ⟨c, r, ks, y, rfl, rfl⟩; rfl) ?_
  rintro cdv A outer s H Q E ds d G hr ⟨c, r, ks, y, rfl, rfl⟩ k
  obtain ⟨t12, h12⟩ := C.wishes
  cases hT : isTup y with
  | false =>
    have hw : isBooking c y = false := by cases y <;> first | rfl | cases hT
    exact go_when (Pw.pt (pw_orT ((pt_not (pt_isT B (pv_var 1))).is (by rw [hT]; rfl)))) (fun _ => go_ret (pv_bool.is (by rw [hw])) k) (fun h => nomatch h)
  | true =>
    obtain ⟨xs, rfl⟩ := tup_of hT
    by_cases hl : xs.length = 2
    · obtain ⟨a, b, rfl⟩ := list2 hl
      cases ha : within a 0 (c - 1) with
      | false =>
        have hw : isBooking c (.tuple [a, b]) = false := by show (within a 0 (c - 1) && _) = false; rw [ha]; rfl
        exact go_when (q := true) (Pw.pt (pw_orF ((pt_not (pt_isT B (pv_var 1))).is (by rfl)) (pw_orF ((pt_neI (pv_len B.len (pv_var 1) rfl) pv_int).is (by rfl)) (pw_or1 ((pt_not (pt_val (pv_call Fw hr (pa_cons (pv_ix (pv_var 1) pv_int rfl) (pa_cons pv_int (pa_cons (pv_sub (pv_ix (pv_var 0) pv_int rfl) pv_int) pa_nil))) ⟨a, 0, c - 1, rfl, rfl⟩))).is (by rw [ha]; rfl)))))) (fun _ => go_ret (pv_bool.is (by rw [hw])) k) (fun h => nomatch h)
      | true =>
        refine go_when (q := false) (Pw.pt (pw_orF ((pt_not (pt_isT B (pv_var 1))).is (by rfl)) (pw_orF ((pt_neI (pv_len B.len (pv_var 1) rfl) pv_int).is (by rfl)) (pw_or1 ((pt_not (pt_val (pv_call Fw hr (pa_cons (pv_ix (pv_var 1) pv_int rfl) (pa_cons pv_int (pa_cons (pv_sub (pv_ix (pv_var 0) pv_int rfl) pv_int) pa_nil))) ⟨a, 0, c - 1, rfl, rfl⟩))).is (by rw [ha]; rfl)))))) (fun h => nomatch h) (fun _ => ?_)
        refine go_ret ((pv_call Fw hr (pa_cons (pv_ix (pv_var 1) pv_int rfl) (pa_cons pv_int (pa_cons (pv_sub (pv_gint h12) pv_int) pa_nil))) ⟨b, 0, 12 - 1, rfl, rfl⟩).is ?_) k
        show Dn.d (.bool (within b 0 11)) = Dn.d (.bool (within a 0 (c - 1) && within b 0 11))
        rw [ha]
        rfl
    · have hw := isBooking_len (r := c) hl
      exact go_when (Pw.pt (pw_orF ((pt_not (pt_isT B (pv_var 1))).is (by rfl)) (pw_orT ((pt_neI (pv_len B.len (pv_var 1) rfl) pv_int).is (lenNe hl))))) (fun _ => go_ret (pv_bool.is (by rw [hw])) k) (fun h => nomatch h)
abbrev FcBo (P : Program) (w : World) (K : PySem.W.Frag) (mg : Str → Option Value) (base : Heap) : Prop := Fc P w K mg base 2 "is_booking" (spR K R_is_booking noB)
theorem ix_zero (x : PyData) (rest : List PyData) : ixD (.tuple (x :: rest)) 0 = some x := atI_nat (j := 0) rfl
theorem ix_one (x y : PyData) (rest : List PyData) : ixD (.tuple (x :: y :: rest)) 1 = some y := atI_nat (j := 1) rfl
theorem isFact_len {c r : Int} {s : Str} {rest : List PyData} (h : isFact c r (.tuple (.str s :: rest)) = true) : sizesGet s = some ((rest.length : Int) + 1) := by
  unfold isFact at h
  split at h
  · rename_i e
    cases e
    rw [Bool.and_eq_true, decide_eq_true_iff] at h
    rw [h.1]
    exact (by decide +kernel : sizesGet "off" = some 2)
  · rename_i e
    cases e
    rw [Bool.and_eq_true, Bool.or_eq_true] at h
    rcases h.2 with h2 | h2
    · rw [Bool.and_eq_true, decide_eq_true_iff] at h2
      rw [h2.1]
      exact (by decide +kernel : sizesGet "wish" = some 4)
    · rw [Bool.and_eq_true, decide_eq_true_iff] at h2
      rw [h2.1]
      exact (by decide +kernel : sizesGet "pin" = some 4)
  · cases h
/-- the three sizes -/
theorem sizes_cases {s : Str} {n : Nat} (h : (sizesGet s).getD 0 = (n : Int) + 1) : (s = "wish" ∧ n = 3) ∨ (s = "off" ∧ n = 1) ∨ (s = "pin" ∧ n = 3) := by
  unfold sizesGet at h
  split at h
  · rename_i e
    exact .inl ⟨e, by simp at h; omega⟩
  · split at h
    · rename_i e
      exact .inr (.inl ⟨e, by simp at h; omega⟩)
    · split at h
      · rename_i e
        exact .inr (.inr ⟨e, by simp at h; omega⟩)
      · simp at h
        omega
theorem isFact_nostr {c r : Int} {x : PyData} {rest : List PyData} (h : isStr x = false) : isFact c r (.tuple (x :: rest)) = false := by
  unfold isFact
  split
  · rename_i e
    cases e
    cases h
  · rename_i e
    cases e
    cases h
  · rfl
theorem isMoment_len {r : Int} {xs : List PyData} (h : ¬ xs.length = 2) : isMoment r (.tuple xs) = false := by
  unfold isMoment
  split
  · rename_i e
    cases e
    exact absurd rfl h
  · rfl
theorem isSpot_len {r : Int} {xs : List PyData} (h : ¬ xs.length = 2) : isSpot r (.tuple xs) = false := by
  unfold isSpot
  split
  · rename_i e
    cases e
    exact absurd rfl h
  · rfl
theorem isMoment_no {r : Int} {y : PyData} (h : isTup y = false) : isMoment r y = false := by cases y <;> first | rfl | cases h
theorem isSpot_no {r : Int} {y : PyData} (h : isTup y = false) : isSpot r y = false := by cases y <;> first | rfl | cases h
theorem fact4 (c r : Int) (s : Str) (b m p : PyData) : isFact c r (.tuple [.str s, b, m, p]) = (isBooking c b && isMoment c m && (decide (s = "wish") && (isWish r p && sameCopy m b) || decide (s = "pin") && isSpot r p)) := rfl
theorem fact2 (c r : Int) (s : Str) (b : PyData) : isFact c r (.tuple [.str s, b]) = (decide (s = "off") && isBooking c b) := rfl
theorem list3b {al : Type} {xs : List al} (h : xs.length = 3) : ∃ a b c, xs = [a, b, c] := list3 h
theorem list1 {al : Type} {xs : List al} (h : xs.length = 1) : ∃ a, xs = [a] := by
  match xs, h with
  | [a], _ => exact ⟨a, rfl⟩
theorem booking_int {c : Int} {y : PyData} (h : isBooking c y = true) : ∃ i j, y = .tuple [.int i, .int j] ∧ 0 ≤ i ∧ i ≤ c - 1 ∧ 0 ≤ j ∧ j ≤ 11 := by
  unfold isBooking at h
  split at h
  · rw [Bool.and_eq_true] at h
    obtain ⟨i, rfl, i1, i2⟩ := within_int h.1
    obtain ⟨j, rfl, j1, j2⟩ := within_int h.2
    exact ⟨i, j, rfl, i1, i2, j1, j2⟩
  · cases h
theorem ok_is_fact (F : Fun K "is_fact" "is_fact" s_is_fact f fd) (B : Bl mg) (C : Cs K w mg) (Fw : FcW P w K mg base) (Fb : FcBo P w K mg base) (Fi : FcWi P w K mg base) (Fp : FcPl P w K mg base) : FnOk P w K mg base (L2.CX P w) 4 f fd p_is_fact (spR K R_is_fact noB) := by
  refine okP F sc_is_fact (by rintro ds d ⟨c, r, ks, y, rfl, _, rfl⟩; rfl) ?_
  rintro cdv A outer s H Q E ds d G hr ⟨c, r, ks, y, rfl, hsz, rfl⟩ k
  obtain ⟨tcl, hcl⟩ := C.clock
  obtain ⟨az, hz, Kz⟩ := C.sizes
  cases hT : isTup y with
  | false =>
    have hw : isFact c r y = false := by cases y <;> first | rfl | cases hT
    exact go_when (q := true) (Pw.pt (pw_orT ((pt_not (pt_isT B (pv_var 1))).is (by rw [hT]; rfl)))) (fun _ => go_ret (pv_bool.is (by rw [hw])) k) (fun h => nomatch h)
  | true =>
    obtain ⟨xs, rfl⟩ := tup_of hT
    cases xs with
    | nil => exact go_when (q := true) (Pw.pt (pw_orF ((pt_not (pt_isT B (pv_var 1))).is (by rfl)) (pw_orT ((pt_not (pt_truth (pv_var 1))).is (by rfl))))) (fun _ => go_ret (pv_bool.is (by rfl)) k) (fun h => nomatch h)
    | cons x rest =>
      cases hs : isStr x with
      | false =>
        have hw : isFact c r (.tuple (x :: rest)) = false := isFact_nostr hs
        exact go_when (q := true) (Pw.pt (pw_orF ((pt_not (pt_isT B (pv_var 1))).is (by rfl)) (pw_orF ((pt_not (pt_truth (pv_var 1))).is (by rfl)) (pw_or1 ((pt_not (pt_isS B (pv_ix (pv_var 1) pv_int (ix_zero _ _)))).is (by rw [hs]; rfl)))))) (fun _ => go_ret (pv_bool.is (by rw [hw])) k) (fun h => nomatch h)
      | true =>
        obtain ⟨z, rfl⟩ := str_of hs
        refine go_when (q := false) (Pw.pt (pw_orF ((pt_not (pt_isT B (pv_var 1))).is (by rfl)) (pw_orF ((pt_not (pt_truth (pv_var 1))).is (by rfl)) (pw_or1 ((pt_not (pt_isS B (pv_ix (pv_var 1) pv_int (ix_zero _ _)))).is (by rfl)))))) (fun h => nomatch h) (fun _ => ?_)
        by_cases hn : (sizesGet z).getD 0 = (rest.length : Int) + 1
        · have hq : (!decide (((PyData.str z :: rest).length : Int) = (sizesGet z).getD 0)) = false := by
            rw [decide_eq_true (by rw [hn, List.length_cons]; omega)]
            rfl
          obtain ⟨b, rest, rfl⟩ : ∃ b rest', rest = b :: rest' := by
            cases rest with
            | nil => rcases sizes_cases hn with ⟨_, h⟩ | ⟨_, h⟩ | ⟨_, h⟩ <;> cases h
            | cons b r' => exact ⟨b, r', rfl⟩
          cases hb : isBooking c b with
          | false =>
            have hw : isFact c r (.tuple (.str z :: b :: rest)) = false := by
              unfold isFact
              split
              · rename_i e
                cases e
                rw [hb, Bool.and_false]
              · rename_i e
                cases e
                rw [hb]
                rfl
              · rfl
            exact go_when (q := true) (Pw.pt (pw_orF ((pt_neI (pv_len B.len (pv_var 1) rfl) (pv_kget Kz hz (pv_ix (pv_var 1) pv_int (ix_zero _ _)) pv_int ⟨rfl, rfl, rfl, rfl⟩)).is hq) (pw_or1 ((pt_not (pt_val (pv_call Fb hr (pa_cons (pv_var 0) (pa_cons (pv_ix (pv_var 1) pv_int (ix_one _ _ _)) pa_nil)) ⟨c, r, ks, b, rfl, rfl⟩))).is (by rw [hb]; rfl))))) (fun _ => go_ret (pv_bool.is (by rw [hw])) k) (fun h => nomatch h)
          | true =>
            refine go_when (q := false) (Pw.pt (pw_orF ((pt_neI (pv_len B.len (pv_var 1) rfl) (pv_kget Kz hz (pv_ix (pv_var 1) pv_int (ix_zero _ _)) pv_int ⟨rfl, rfl, rfl, rfl⟩)).is hq) (pw_or1 ((pt_not (pt_val (pv_call Fb hr (pa_cons (pv_var 0) (pa_cons (pv_ix (pv_var 1) pv_int (ix_one _ _ _)) pa_nil)) ⟨c, r, ks, b, rfl, rfl⟩))).is (by rw [hb]; rfl))))) (fun h => nomatch h) (fun _ => ?_)
            have h4 : (z = "off" ∧ rest.length = 0) ∨ ((z = "wish" ∨ z = "pin") ∧ rest.length = 2) := by
              rw [List.length_cons] at hn
              rcases sizes_cases (n := rest.length + 1) (by rw [hn]) with ⟨e, h⟩ | ⟨e, h⟩ | ⟨e, h⟩
              · exact .inr ⟨.inl e, by omega⟩
              · exact .inl ⟨e, by omega⟩
              · exact .inr ⟨.inr e, by omega⟩
            rcases h4 with ⟨rfl, h3⟩ | ⟨hzz, h3⟩
            · obtain rfl : rest = [] := List.eq_nil_of_length_eq_zero h3
              have hw : isFact c r (.tuple [.str "off", b]) = true := by rw [fact2, hb]; decide +kernel
              exact go_when (q := true) ((pt_eqS (pv_ix (pv_var 1) pv_int rfl) pv_str).is (by decide +kernel)) (fun _ => go_ret (pv_bool.is (by rw [hw])) k) (fun h => nomatch h)
            · obtain ⟨m, q, rfl⟩ := list2 h3
              have hoff : decide (z = "off") = false := by rcases hzz with rfl | rfl <;> decide +kernel
              refine go_when (q := false) ((pt_eqS (pv_ix (pv_var 1) pv_int rfl) pv_str).is hoff) (fun h => nomatch h) (fun _ => ?_)
              have sm : szOk q = true := (szOk_tup hsz).2 q (by simp)
              cases hmT : isTup m with
              | false =>
                have hw : isFact c r (.tuple [.str z, b, m, q]) = false := by rw [fact4, isMoment_no hmT, Bool.and_false]; rfl
                exact go_when (q := true) (Pw.pt (pw_orT ((pt_not (pt_isT B (pv_ix (pv_var 1) pv_int rfl))).is (by rw [hmT]; rfl)))) (fun _ => go_ret (pv_bool.is (by rw [hw])) k) (fun h => nomatch h)
              | true =>
                obtain ⟨ms, rfl⟩ := tup_of hmT
                by_cases hml : ms.length = 2
                · obtain ⟨m0, m1, rfl⟩ := list2 hml
                  cases hm0 : within m0 1 9999 with
                  | false =>
                    have hw : isFact c r (.tuple [.str z, b, .tuple [m0, m1], q]) = false := by rw [fact4, show isMoment c (.tuple [m0, m1]) = (within m0 1 9999 && within m1 0 (c - 1)) from rfl, hm0, Bool.false_and, Bool.and_false]; rfl
                    exact go_when (q := true) (Pw.pt (pw_orF ((pt_not (pt_isT B (pv_ix (pv_var 1) pv_int rfl))).is (by rfl)) (pw_orF ((pt_neI (pv_len B.len (pv_ix (pv_var 1) pv_int rfl) rfl) pv_int).is (by rfl)) (pw_or1 ((pt_not (pt_val (pv_call Fw hr (pa_cons (pv_ix (pv_ix (pv_var 1) pv_int rfl) pv_int rfl) (pa_cons pv_int (pa_cons (pv_gint hcl) pa_nil))) ⟨m0, 1, 9999, rfl, rfl⟩))).is (by rw [hm0]; rfl)))))) (fun _ => go_ret (pv_bool.is (by rw [hw])) k) (fun h => nomatch h)
                  | true =>
                    refine go_when (q := false) (Pw.pt (pw_orF ((pt_not (pt_isT B (pv_ix (pv_var 1) pv_int rfl))).is (by rfl)) (pw_orF ((pt_neI (pv_len B.len (pv_ix (pv_var 1) pv_int rfl) rfl) pv_int).is (by rfl)) (pw_or1 ((pt_not (pt_val (pv_call Fw hr (pa_cons (pv_ix (pv_ix (pv_var 1) pv_int rfl) pv_int rfl) (pa_cons pv_int (pa_cons (pv_gint hcl) pa_nil))) ⟨m0, 1, 9999, rfl, rfl⟩))).is (by rw [hm0]; rfl)))))) (fun h => nomatch h) (fun _ => ?_)
                    cases hm1 : within m1 0 (c - 1) with
                    | false =>
                      have hw : isFact c r (.tuple [.str z, b, .tuple [m0, m1], q]) = false := by rw [fact4, show isMoment c (.tuple [m0, m1]) = (within m0 1 9999 && within m1 0 (c - 1)) from rfl, hm1, Bool.and_false, Bool.and_false]; rfl
                      exact go_when (q := true) ((pt_not (pt_val (pv_call Fw hr (pa_cons (pv_ix (pv_ix (pv_var 1) pv_int rfl) pv_int rfl) (pa_cons pv_int (pa_cons (pv_sub (pv_ix (pv_var 0) pv_int rfl) pv_int) pa_nil))) ⟨m1, 0, c - 1, rfl, rfl⟩))).is (by rw [hm1]; rfl)) (fun _ => go_ret (pv_bool.is (by rw [hw])) k) (fun h => nomatch h)
                    | true =>
                      refine go_when (q := false) ((pt_not (pt_val (pv_call Fw hr (pa_cons (pv_ix (pv_ix (pv_var 1) pv_int rfl) pv_int rfl) (pa_cons pv_int (pa_cons (pv_sub (pv_ix (pv_var 0) pv_int rfl) pv_int) pa_nil))) ⟨m1, 0, c - 1, rfl, rfl⟩))).is (by rw [hm1]; rfl)) (fun h => nomatch h) (fun _ => ?_)
                      have hM : isMoment c (.tuple [m0, m1]) = true := by rw [show isMoment c (.tuple [m0, m1]) = (within m0 1 9999 && within m1 0 (c - 1)) from rfl, hm0, hm1]; rfl
                      obtain ⟨i, j, rfl, _⟩ := booking_int hb
                      obtain ⟨mi, rfl, _⟩ := within_int hm1
                      rcases hzz with rfl | rfl
                      · refine go_when (q := true) ((pt_eqS (pv_ix (pv_var 1) pv_int rfl) pv_str).is (by decide +kernel)) (fun _ => ?_) (fun h => nomatch h)
                        refine go_ret ((pv_and (pv_call Fi hr (pa_cons (pv_var 0) (pa_cons (pv_ix (pv_var 1) pv_int rfl) pa_nil)) ⟨c, r, ks, q, rfl, sm, rfl⟩) fun _ => pv_one (pv_eqI (pv_ix (pv_ix (pv_var 1) pv_int rfl) pv_int rfl) (pv_ix (pv_ix (pv_var 1) pv_int rfl) pv_int rfl))).is ?_) k
                        rw [fact4, hb, hM, show decide (("wish" : Str) = "wish") = true from by decide +kernel, show decide (("wish" : Str) = "pin") = false from by decide +kernel, Bool.false_and, Bool.or_false, Bool.true_and, Bool.true_and]
                        rfl
                      · refine go_when (q := false) ((pt_eqS (pv_ix (pv_var 1) pv_int rfl) pv_str).is (by decide +kernel)) (fun h => nomatch h) (fun _ => ?_)
                        have hw : isFact c r (.tuple [.str "pin", .tuple [.int i, .int j], .tuple [m0, .int mi], q]) = isSpot r q := by
                          rw [fact4, hb, hM, show decide (("pin" : Str) = "pin") = true from by decide +kernel, show decide (("pin" : Str) = "wish") = false from by decide +kernel, Bool.false_and, Bool.false_or, Bool.true_and, Bool.true_and]
                          rfl
                        cases hqT : isTup q with
                        | false => exact go_when (q := true) (Pw.pt (pw_orT ((pt_not (pt_isT B (pv_ix (pv_var 1) pv_int rfl))).is (by rw [hqT]; rfl)))) (fun _ => go_ret (pv_bool.is (by rw [hw, isSpot_no hqT])) k) (fun h => nomatch h)
                        | true =>
                          obtain ⟨qs, rfl⟩ := tup_of hqT
                          by_cases hql : qs.length = 2
                          · obtain ⟨q0, q1, rfl⟩ := list2 hql
                            refine go_when (q := false) (Pw.pt (pw_orF ((pt_not (pt_isT B (pv_ix (pv_var 1) pv_int rfl))).is (by rfl)) (pw_or1 ((pt_neI (pv_len B.len (pv_ix (pv_var 1) pv_int rfl) rfl) pv_int).is (by rfl))))) (fun h => nomatch h) (fun _ => ?_)
                            exact go_ret ((pv_call Fp hr (pa_cons (pv_var 0) (pa_cons pv_int (pa_cons (pv_ix (pv_ix (pv_var 1) pv_int rfl) pv_int rfl) (pa_cons (pv_ix (pv_ix (pv_var 1) pv_int rfl) pv_int rfl) pa_nil)))) ⟨c, r, ks, 1, q0, q1, rfl, rfl⟩).is (by rw [hw]; rfl)) k
                          · exact go_when (q := true) (Pw.pt (pw_orF ((pt_not (pt_isT B (pv_ix (pv_var 1) pv_int rfl))).is (by rfl)) (pw_or1 ((pt_neI (pv_len B.len (pv_ix (pv_var 1) pv_int rfl) rfl) pv_int).is (lenNe hql))))) (fun _ => go_ret (pv_bool.is (by rw [hw, isSpot_len hql])) k) (fun h => nomatch h)
                · have hw : isFact c r (.tuple [.str z, b, .tuple ms, q]) = false := by rw [fact4, isMoment_len hml, Bool.and_false]; rfl
                  exact go_when (q := true) (Pw.pt (pw_orF ((pt_not (pt_isT B (pv_ix (pv_var 1) pv_int rfl))).is (by rfl)) (pw_orT ((pt_neI (pv_len B.len (pv_ix (pv_var 1) pv_int rfl) rfl) pv_int).is (lenNe hml))))) (fun _ => go_ret (pv_bool.is (by rw [hw])) k) (fun h => nomatch h)
        · have hw : isFact c r (.tuple (.str z :: rest)) = false := by
            cases q : isFact c r (.tuple (.str z :: rest)) with
            | false => rfl
            | true =>
              rw [isFact_len q] at hn
              exact absurd rfl hn
          exact go_when (q := true) (Pw.pt (pw_orT ((pt_neI (pv_len B.len (pv_var 1) rfl) (pv_kget Kz hz (pv_ix (pv_var 1) pv_int (ix_zero _ _)) pv_int ⟨rfl, rfl, rfl, rfl⟩)).is (by rw [decide_eq_false (fun z => hn (by rw [List.length_cons] at z; omega))]; rfl)))) (fun _ => go_ret (pv_bool.is (by rw [hw])) k) (fun h => nomatch h)
abbrev FcFa (P : Program) (w : World) (K : PySem.W.Frag) (mg : Str → Option Value) (base : Heap) : Prop := Fc P w K mg base 4 "is_fact" (spR K R_is_fact noB)
theorem ok_look_facts {C : Addr} (F : Fun K "look_facts" "look_facts" s_look_facts f fd) (B : Bl mg) (Fi : FcFa P w K mg base) (T : Ec K mg "BadFacts" C) : FnOk P w K mg base (L2.CX P w) 5 f fd p_look_facts (spR K (R_look L_facts) (B_look L_facts C)) := by
  have test : ∀ (cdv : Value) (A : Around) (outer : List Env) (s : Shared) (H : Hp) (E : XK) (c r : Int) (ks : List Str) (y : PyData), Room 4 (A.deeper (envOfC "look_facts" (defScope s_look_facts) s.heap.objs.size f cdv)) → szOk y = true →
      ∀ (D : Ends) (G : Hp), (areFacts c r y = false → ∀ G' H', Gr G H G' H' → E (.ref C) none H') → (areFacts c r y = true → ∀ σ G' H', Gr G H G' H' → D.nx σ H') →
      Go (cxOf (L2.CX P w) P w K mg base n_look_facts "look_facts" (defScope s_look_facts) f cdv A outer s H E) (defBody s_look_facts) D G H [some (.d (wD c r ks)), some (.d y), none] := by
    intro cdv A outer s H E c r ks y hr hsz D G kE kN
    cases hT : isTup y with
    | false =>
      have hw : areFacts c r y = false := by cases y <;> first | rfl | cases hT
      exact go_when (q := true) (Pw.pt (pw_orT ((pt_not (pt_isT B (pv_var 1))).is (by rw [hT]; rfl)))) (fun _ => go_raise T tkR fun σ G' H' g' _ => kE hw G' H' g') (fun h => nomatch h)
    | true =>
      obtain ⟨fs, rfl⟩ := tup_of hT
      have hf := szOk_tup hsz
      refine go_when (Pw.pt (pw_orF ((pt_not (pt_isT B (pv_var 1))).is (by rfl)) (pw_or1 (pt_truth (pv_lc [("one", 2)] (fun y => !isFact c r y) id (fun y => [some (.d (wD c r ks)), some (.d (.tuple fs)), some (.d y)]) rfl sc_look_facts.nd (wk_tup (pv_var 1)) (blkOk_by (N := n_look_facts) (sc := defScope s_look_facts) (by decide +kernel)) (fun y _ s H C cl fp => pg_name 2 sc_look_facts.nd) (fun y hy s H C cl fp => pts_one (pt_not (pt_val (pv_call Fi hr (pa_cons (pv_var 0) (pa_cons (pv_var 2) pa_nil)) ⟨c, r, ks, y, rfl, hf.2 y hy, rfl⟩)))) (fun y hy _ s H C cl fp => pv_var 2) (by omega) (by simp) (fun _ _ => rfl)))))) ?_ ?_
      all_goals
        intro hq
        rw [show truD (.list ((fs.filter fun y => !isFact c r y).map id)) = !((fs.filter fun y => !isFact c r y).map id).isEmpty from rfl, map_isEmpty, filter_nil_iff] at hq
        simp only [Bool.not_not] at hq
      · exact go_raise T tkR fun σ G' H' g' _ => kE (by simpa [areFacts] using hq) G' H' g'
      · exact go_nil fun σ H' ⟨G', g', _⟩ => kN (by simpa [areFacts] using hq) σ G' H' g'
  refine okE F sc_look_facts (by rintro ds d ⟨⟨c, r, ks, y, rfl, _⟩, _⟩; rfl) (by rintro ds d ⟨⟨c, r, ks, y, rfl, _⟩, _⟩; rfl) ?_ ?_
  · rintro cdv A outer s H Q E ds d G hr ⟨⟨c, r, ks, y, rfl, hsz, hw⟩, rfl⟩ k
    exact test cdv A outer s H E c r ks y hr hsz _ G (fun h => by rw [hw] at h; cases h) (fun _ σ G' H' g' => k _ G' H' g' Dp.non)
  · rintro cdv A outer s H Q E ds D G hr ⟨⟨c, r, ks, y, rfl, hsz, hw⟩, rfl⟩ k
    exact test cdv A outer s H E c r ks y hr hsz _ G (fun _ G' H' g' => k G' H' g') (fun h => by rw [hw] at h; cases h)
end
end Fb

namespace Fb
open PySem PySem.Spec PyProof.Rows L2 Evl
/-! ### copies.py: the book is made, written and read -/
structure Tc (K : PySem.W.Frag) (C : Addr) : Prop where
  cl : Cls K C
  nW : NoAttr K C "world"
  nM : NoAttr K C "mine"
  nF : NoAttr K C "facts"
  nC : NoAttr K C "clock"
  nO : NoAttr K C "own"
  nS : NoAttr K C "seen"
theorem pv_fldD {X : Cx} {o : Expr} {r : Rho} {q C : Addr} {fs : List (Str × Fd)} {f : Str} {x : PyData} {pos : Pos} (ho : Pv X o r (.ob q C fs)) (hc : Cls X.K C) (hn : NoAttr X.K C f) (hl : fs.lookup f = some (.d x)) (hb : attributeBase o f X.env (eval o X.env) = eval o X.env := by rfl) : Pv X (.Attribute o f pos) r (.d x) := pv_fld (fd := .d x) ho hc hn hl hb
theorem pv_fldT {X : Cx} {o : Expr} {r : Rho} {q C : Addr} {fs : List (Str × Fd)} {f : Str} {x : List (List Key × PyData)} {pos : Pos} (ho : Pv X o r (.ob q C fs)) (hc : Cls X.K C) (hn : NoAttr X.K C f) (hl : fs.lookup f = some (.t x)) (hb : attributeBase o f X.env (eval o X.env) = eval o X.env := by rfl) : Pv X (.Attribute o f pos) r (.t x) := pv_fld (fd := .t x) ho hc hn hl hb
section
variable {K : PySem.W.Frag} {C p l sd : Addr} {G H : Hp} {b : Bk}
theorem CopyAt.setC (A : CopyAt K C G H p l sd b) (i : Int) : ∃ dx wv, H p = some (.ins C dx (bkF b wv l sd)) ∧ CopyAt K C G (upd H p (.ins C dx (putF "clock" (.int i) (bkF b wv l sd)))) p l sd { b with clock := i } := by
  obtain ⟨gp, gl, gs, dx, wv, fvs, svs, h1, h2, h3, h4, h5, h6⟩ := A
  have nl : l ≠ p := fun z => by subst z; rw [h1] at h3; cases h3
  have ns : sd ≠ p := fun z => by subst z; rw [h1] at h5; cases h5
  exact ⟨dx, wv, h1, gp, gl, gs, dx, wv, fvs, svs, by rw [upd_same, bf_setC], h2, by rw [upd_ne nl]; exact h3, h4, by rw [upd_ne ns]; exact h5, h6⟩
theorem CopyAt.setO (A : CopyAt K C G H p l sd b) (i : Int) : ∃ dx wv, H p = some (.ins C dx (bkF b wv l sd)) ∧ CopyAt K C G (upd H p (.ins C dx (putF "own" (.int i) (bkF b wv l sd)))) p l sd { b with own := i } := by
  obtain ⟨gp, gl, gs, dx, wv, fvs, svs, h1, h2, h3, h4, h5, h6⟩ := A
  have nl : l ≠ p := fun z => by subst z; rw [h1] at h3; cases h3
  have ns : sd ≠ p := fun z => by subst z; rw [h1] at h5; cases h5
  exact ⟨dx, wv, h1, gp, gl, gs, dx, wv, fvs, svs, by rw [upd_same, bf_setO], h2, by rw [upd_ne nl]; exact h3, h4, by rw [upd_ne ns]; exact h5, h6⟩
theorem CopyAt.setL (A : CopyAt K C G H p l sd b) : ∃ dx wv fvs, H p = some (.ins C dx (bkF b wv l sd)) ∧ H l = some (.lst fvs) ∧ fvs.length = b.facts.length ∧ ∀ G2 H2 v y, Gr G H G2 H2 → Dp K G2 v y → CopyAt K C G2 (upd H2 l (.lst (fvs ++ [v]))) p l sd { b with facts := b.facts ++ [y] } := by
  obtain ⟨gp, gl, gs, dx, wv, fvs, svs, h1, h2, h3, h4, h5, h6⟩ := A
  have nl : p ≠ l := fun z => by subst z; rw [h1] at h3; cases h3
  have ns : sd ≠ l := fun z => by subst z; rw [h3] at h5; cases h5
  refine ⟨dx, wv, fvs, h1, h3, DpAll.len h4, fun G2 H2 v y k q => ?_⟩
  exact ⟨k.out gp (some_ne h1), k.out gl (some_ne h3), k.out gs (some_ne h5), dx, wv, _, svs, by rw [upd_ne nl]; exact k.h _ _ h1, dp_up k.g _ _ h2, upd_same, DpAll.app (dpAll_up k.g _ _ h4) (.cons q .nil), by rw [upd_ne ns]; exact k.h _ _ h5, L2.Paired.mapP h6 fun _ _ z => ⟨z.1, dp_up k.g _ _ z.2⟩⟩
theorem CopyAt.is (A : CopyAt K C G H p l sd b) {b' : Bk} (h : b = b') : CopyAt K C G H p l sd b' := h ▸ A
end
def Bk.put (b : Bk) (y : PyData) : Bk := if b.facts.any (fun z => PyData.eqv z y) = true then b else { b with facts := b.facts ++ [y] }
theorem put_old {b : Bk} {y : PyData} (h : (!b.facts.any fun z => PyData.eqv z y) = false) : b.put y = b := by
  unfold Bk.put
  rw [if_pos (by simpa using h)]
theorem put_new {b : Bk} {y : PyData} (h : (!b.facts.any fun z => PyData.eqv z y) = true) : b.put y = { b with facts := b.facts ++ [y] } := by
  unfold Bk.put
  rw [if_neg (by simpa using h)]
structure BkOk (b : Bk) (n : Nat) : Prop where
  good : ∀ z, z ∈ b.facts → Good z
  len : b.facts.length ≤ n
theorem BkOk.put {b : Bk} {n : Nat} {y : PyData} (h : BkOk b n) (hy : Good y) : BkOk (b.put y) (n + 1) := by
  unfold Bk.put
  split
  · exact ⟨h.good, by have := h.len; omega⟩
  · refine ⟨fun z hz => ?_, by simp; exact h.len⟩
    rcases List.mem_append.mp hz with q | q
    · exact h.good z q
    · simp at q; subst q; exact hy
theorem BkOk.mono {b : Bk} {m n : Nat} (h : BkOk b m) (k : m ≤ n) : BkOk b n := ⟨h.good, Nat.le_trans h.len k⟩
def R_put : Bk → List PyData → Bk → PyData → Prop := fun b ds b' d => ∃ y, ds = [y] ∧ Good y ∧ BkOk b 9000 ∧ b' = b.put y ∧ d = .none
def R_tick : Bk → List PyData → Bk → PyData → Prop := fun b ds b' d => ds = [] ∧ b' = { b with clock := b.clock + 1 } ∧ d = .tuple [.int (b.clock + 1), .int b.mine]
abbrev noBm : Bk → List PyData → Addr → Prop := fun _ _ _ => False
section
variable {P : Program} {w : World} {K : PySem.W.Frag} {mg : Str → Option Value} {base : Heap} {f : Addr} {fd : FuncData} {C : Addr}
theorem ok_put (F : Fun K "put" "Copy.put" s_Copy_put f fd) (T : Tc K C) : FnOk P w K mg base (L2.CX P w) 1 f fd p_Copy_put (spM K C R_put noBm) := by
  refine okM F sc_Copy_put (by rintro b ds b' d ⟨y, rfl, _⟩; rfl) (by rintro b ds A ⟨⟩) ?_ (by rintro _ _ _ _ _ _ _ _ _ _ _ _ _ _ _ _ _ ⟨⟩)
  rintro cdv A outer s H Q E p l sd b ds b' d G hr g A1 ⟨y, rfl, gy, hb, rfl, rfl⟩ k
  refine gx_when fun G1 H1 g1 => ?_
  have A2 := A1.up g1
  refine ft_own g1.s (A2.own (i := 0) rfl) (pt_ninD (by have := hr.un; show A.units + 3 + 65 < _; have e : (A.deeper (envOfC "Copy.put" (defScope s_Copy_put) s.heap.objs.size f cdv)).units = A.units + 3 := rfl; omega) (pv_var 1) (pv_fldD (pv_var 0) T.cl T.nF (fs_facts b)) gy.shaped (good_list hb.good)) fun G2 H2 g2 => ⟨fun hq => ?_, fun hq => ?_⟩
  · refine gx_expr fun G3 H3 g3 => ?_
    have A3 := (A2.up g2).up g3
    refine fx_append (fx_fld g3.s T.cl T.nF (pv_var 0) fun G4 H4 g4 => ?_)
    have A4 := A3.up g4
    obtain ⟨dx, wv, fvs, h1, h2, h3, h4⟩ := A4.setL
    refine ⟨dx, _, .ref l, h1, bf_facts b wv l sd, l, fvs, rfl, h2, fx_pv g4.s (pv_var 1) fun yv G5 H5 g5 dy => ⟨fvs, g5.h _ _ h2, ?_, g5.out A4.gl (some_ne h2), go_nil fun σ H6 ⟨G6, g6, _⟩ => wSs_of pss_nil ?_⟩⟩
    · have := hb.len
      rw [h3, sizeLine_eq]
      omega
    · have gg := (((g1.trans g2).trans g3).trans g4).trans g5
      exact k .non G6 H6 sd ((gg.x.trans (Gx.set g5.s (by simp) (g5.out A4.gl (some_ne h2)))).trans g6.x) (.inl rfl) (((h4 G5 H5 yv y g5 dy).up g6).is (put_new hq).symm) Dp.non
  · exact go_nil fun σ H6 ⟨G6, g6, _⟩ => k .non G6 H6 sd ((g1.trans g2).trans g6).x (.inl rfl) (((A2.up g2).up g6).is (put_old hq).symm) Dp.non
theorem ok_tick (F : Fun K "tick" "Copy.tick" s_Copy_tick f fd) (T : Tc K C) : FnOk P w K mg base (L2.CX P w) 1 f fd p_Copy_tick (spM K C R_tick noBm) := by
  refine okM F sc_Copy_tick (by rintro b ds b' d ⟨rfl, _⟩; rfl) (by rintro b ds A ⟨⟩) ?_ (by rintro _ _ _ _ _ _ _ _ _ _ _ _ _ _ _ _ _ ⟨⟩)
  rintro cdv A outer s H Q E p l sd b ds b' d G hr g A1 ⟨rfl, rfl, rfl⟩ k
  refine gx_inc T.cl T.nC (pv_var 0) pv_int fun G1 H1 g1 => ?_
  have A2 := A1.up g1
  obtain ⟨dx, wv, h1, A3⟩ := A2.setC (b.clock + 1)
  refine ⟨dx, _, b.clock, h1, bf_clock b wv l sd, by show 6 < 1000; decide, A2.gp, gx_ret fun G4 H4 g4 => ?_⟩
  have A4 := A3.up g4
  refine fx_own g4.s (A4.own (i := 0) rfl) (pv_tup (pd_cons (pv_fldD (pv_var 0) T.cl T.nC (fs_clock _)) (pd_cons (pv_fldD (pv_var 0) T.cl T.nM (fs_mine _)) pd_nil))) rfl fun v G5 H5 g5 q5 => ?_
  exact k v G5 H5 sd ((g1.x.trans (Gx.set g1.s (by simp) A2.gp)).trans (g4.trans g5).x) (.inl rfl) (A4.up g5) q5
end
end Fb

namespace Fb
open PySem PySem.Spec PyProof.Rows L2 Evl
/-! ### copies.py: __init__, wish, told, heard -/
/-- __init__: a book; or BadWorld (CW), BadCopy (CC) -/
def spI (K : PySem.W.Frag) (C CW CC : Addr) : Sp := fun vs H Q E => ∃ (p dx : Addr) (wv mv : V) (wd md : PyData) (G : Hp), vs = [.ref p, wv, mv] ∧ Ex G H ∧ G p = none ∧ H p = some (.ins C dx []) ∧ Dp K G wv wd ∧ Dp K G mv md ∧ szOk wd = true ∧
  (isWorld wd = false → ∀ G' H', Gr G H G' H' → E (.ref CW) none H') ∧
  (∀ c r ks, wd = wD c r ks → isWorld wd = true → within md 0 (c - 1) = false → ∀ G' H', Gr G H G' H' → E (.ref CC) none H') ∧
  (∀ c r ks i, wd = wD c r ks → isWorld wd = true → md = .int i → within md 0 (c - 1) = true → ∀ G' H' l sd, Gx [p] G H G' H' → H l = none → H sd = none → CopyAt K C G' H' p l sd ⟨c, r, ks, i, [], 0, 0, []⟩ → Q .non H')
theorem Gx.fresh {os : List Addr} {G H G2 H2 : Hp} (k : Gx os G H G2 H2) {a : Addr} (h : H2 a = none) : H a = none := by
  cases q : H a with
  | none => rfl
  | some o => exact absurd h (k.t a (some_ne q))
theorem Gx.comp {p l sd sd' : Addr} {G H G1 H1 G2 H2 : Hp} (a : Gx [p, l, sd] G H G1 H1) (b : Gx [p, l, sd'] G1 H1 G2 H2) (hs : sd' = sd ∨ H sd' = none) : Gx [p, l, sd] G H G2 H2 := by
  have b2 : Gx [p, l, sd, sd'] G1 H1 G2 H2 := b.mono fun z hz => by
    simp only [List.mem_cons, List.not_mem_nil, or_false] at hz ⊢
    rcases hz with h | h | h
    · exact .inl h
    · exact .inr (.inl h)
    · exact .inr (.inr (.inr h))
  have a2 : Gx [p, l, sd, sd'] G H G1 H1 := a.mono fun z hz => by
    simp only [List.mem_cons, List.not_mem_nil, or_false] at hz ⊢
    rcases hz with h | h | h
    · exact .inl h
    · exact .inr (.inl h)
    · exact .inr (.inr (.inl h))
  have c := a2.trans b2
  refine ⟨c.g, c.s, fun z o hz ho => c.h z o (fun q => ?_) ho, c.t, c.f⟩
  simp only [List.mem_cons, List.not_mem_nil, or_false, not_or] at hz q
  rcases q with q | q | q | q
  · exact hz.1 q
  · exact hz.2.1 q
  · exact hz.2.2 q
  · rcases hs with e | e
    · exact hz.2.2 (q.trans e)
    · rw [q, e] at ho; cases ho
section
variable {P : Program} {w : World} {K : PySem.W.Frag} {mg : Str → Option Value} {base : Heap} {f : Addr} {fd : FuncData} {C CW CC CF CB : Addr}
abbrev FcLW (P : Program) (w : World) (K : PySem.W.Frag) (mg : Str → Option Value) (base : Heap) (CW : Addr) : Prop := Fc P w K mg base 3 "look_world" (spR K (R_look L_world) (B_look L_world CW))
theorem ok_init (F : Fun K "__init__" "Copy.__init__" s_Copy_init f fd) (T : Tc K C) (Fl : FcLW P w K mg base CW) (Fw : FcW P w K mg base) (TC : Ec K mg "BadCopy" CC) : FnOk P w K mg base (L2.CX P w) 4 f fd p_Copy_init (spI K C CW CC) := by
  refine F.okX sc_Copy_init ?_ (fun cdv A outer s H vs Q E hr h => ⟨_, pss_w, ?_⟩)
  · rintro vs H Q E ⟨p, dx, wv, mv, wd, md, G, rfl, _⟩
    rfl
  obtain ⟨p, dx, wv, mv, wd, md, G, rfl, g, gp, hp, hw, hm, hsz, kW, kC, kN⟩ := h
  have hD : Dens K G [.ref p, wv, mv] [.v (.ref p), .d wd, .d md] := .cons (show Den K G (.ref p) (.v (.ref p)) from rfl) (.cons hw (.cons hm .nil))
  refine go_in g hD ?_
  cases hW : isWorld wd with
  | false => exact go_doX Fl hr (pa_cons (pv_var 1) pa_nil) ⟨⟨wd, rfl, hsz, hW⟩, rfl⟩ tkR fun σ G' H' g' _ => kW hW G' H' g'
  | true =>
    obtain ⟨c, r, ks, rfl, _⟩ := isWorld_shape hW
    refine go_expr (pv_call Fl hr (pa_cons (pv_var 1) pa_nil) ⟨⟨_, rfl, hsz, hW⟩, rfl⟩) ?_
    cases hM : within md 0 (c - 1) with
    | false => exact go_when (q := true) ((pt_not (pt_val (pv_call Fw hr (pa_cons (pv_var 2) (pa_cons pv_int (pa_cons (pv_sub (pv_ix (pv_var 1) pv_int rfl) pv_int) pa_nil))) ⟨md, 0, c - 1, rfl, rfl⟩))).is (by rw [hM]; rfl)) (fun _ => go_raise TC tkR fun σ G' H' g' _ => kC c r ks rfl hW hM G' H' g') (fun h => nomatch h)
    | true =>
      refine go_when (q := false) ((pt_not (pt_val (pv_call Fw hr (pa_cons (pv_var 2) (pa_cons pv_int (pa_cons (pv_sub (pv_ix (pv_var 1) pv_int rfl) pv_int) pa_nil))) ⟨md, 0, c - 1, rfl, rfl⟩))).is (by rw [hM]; rfl)) (fun h => nomatch h) (fun _ => ?_)
      obtain ⟨i, rfl, _⟩ := within_int hM
      refine gx_put T.cl T.nW (pv_var 0) (pv_var 1) gp hp (by decide) fun v1 G1 H1 x1 gp1 hp1 d1 => ?_
      refine gx_put T.cl T.nM (pv_var 0) (pv_var 2) gp1 hp1 (by show 1 < 1000; decide) fun v2 G2 H2 x2 gp2 hp2 d2 => ?_
      refine gx_putL T.cl T.nF (pv_var 0) gp2 hp2 (by show 2 < 1000; decide) fun l G3 H3 fl x3 gp3 gl3 hp3 hl3 => ?_
      refine gx_put T.cl T.nC (pv_var 0) pv_int gp3 hp3 (by show 3 < 1000; decide) fun v4 G4 H4 x4 gp4 hp4 d4 => ?_
      refine gx_put T.cl T.nO (pv_var 0) pv_int gp4 hp4 (by show 4 < 1000; decide) fun v5 G5 H5 x5 gp5 hp5 d5 => ?_
      refine gx_putD T.cl T.nS (pv_var 0) gp5 hp5 (by show 5 < 1000; decide) fun sd G6 H6 fs x6 gp6 gs6 hp6 hs6 => ?_
      refine go_nil fun σ H7 ⟨G7, g7, _⟩ => ?_
      have e2 := den_int d2
      have e4 := den_int d4
      have e5 := den_int d5
      subst e2 e4 e5
      have nl : l ∉ [p] := fun z => by simp at z; subst z; rw [hp3] at hl3; cases hl3
      have xx := ((x1.trans x2).trans x3).trans (x4.trans (x5.trans x6))
      have l4 := (x4.trans (x5.trans x6)).h l _ nl hl3
      have gl6 := (x4.trans (x5.trans x6)).out gl3 (some_ne hl3)
      rw [bf_made ⟨c, r, ks, i, [], 0, 0, []⟩ v1 l sd] at hp6
      have dw := dp_up (x2.trans (x3.trans (x4.trans (x5.trans x6)))).g _ _ d1
      have CA : CopyAt K C G6 H6 p l sd ⟨c, r, ks, i, [], 0, 0, []⟩ := ⟨gp6, gl6, gs6, dx, v1, [], [], hp6, dw, l4, .nil, hs6, .nil⟩
      exact kN c r ks i rfl hW rfl hM G7 H7 l sd (xx.trans g7.x) ((x1.trans x2).fresh fl) ((x1.trans (x2.trans (x3.trans (x4.trans x5)))).fresh fs) (CA.up g7)

def Bk.wish (b : Bk) (y : PyData) : Bk := ({ b with own := b.own + 1, clock := b.clock + 1 } : Bk).put (.tuple [.str "wish", .tuple [.int b.mine, .int b.own], .tuple [.int (b.clock + 1), .int b.mine], y])
def R_wish : Bk → List PyData → Bk → PyData → Prop := fun b ds b' d => ∃ y, ds = [y] ∧ szOk y = true ∧ isWish b.r y = true ∧ b.own ≠ 12 ∧ Good (.tuple [.str "wish", .tuple [.int b.mine, .int b.own], .tuple [.int (b.clock + 1), .int b.mine], y]) ∧ BkOk b 9000 ∧ b' = b.wish y ∧ d = .tuple [.int b.mine, .int b.own]
def B_wish (CB CF : Addr) : Bk → List PyData → Addr → Prop := fun b ds Z => ∃ y, ds = [y] ∧ szOk y = true ∧ (isWish b.r y = false ∧ Z = CB ∨ isWish b.r y = true ∧ b.own = 12 ∧ Z = CF)
abbrev FcLWi (P : Program) (w : World) (K : PySem.W.Frag) (mg : Str → Option Value) (base : Heap) (CB : Addr) : Prop := Fc P w K mg base 4 "look_wish" (spR K (R_look L_wish) (B_look L_wish CB))
abbrev FmPut (P : Program) (w : World) (K : PySem.W.Frag) (mg : Str → Option Value) (base : Heap) (C : Addr) : Prop := Fm P w K mg base 1 C "put" (spM K C R_put noBm)
abbrev FmTick (P : Program) (w : World) (K : PySem.W.Frag) (mg : Str → Option Value) (base : Heap) (C : Addr) : Prop := Fm P w K mg base 1 C "tick" (spM K C R_tick noBm)
theorem ok_wish (F : Fun K "wish" "Copy.wish" s_Copy_wish f fd) (T : Tc K C) (Cc : Cs K w mg) (Fl : FcLWi P w K mg base CB) (Fp : FmPut P w K mg base C) (Ft : FmTick P w K mg base C) (TF : Ec K mg "Full" CF) : FnOk P w K mg base (L2.CX P w) 5 f fd p_Copy_wish (spM K C R_wish (B_wish CB CF)) := by
  obtain ⟨tw, hmw⟩ := Cc.wishes
  refine okM F sc_Copy_wish (by rintro b ds b' d ⟨y, rfl, _⟩; rfl) (by rintro b ds A ⟨y, rfl, _⟩; rfl) ?_ ?_
  · rintro cdv A outer s H Q E p l sd b ds b' d G hr g A1 ⟨y, rfl, hsz, hw, hown, gy, hb, rfl, rfl⟩ k
    refine gx_expr fun G1 H1 g1 => fx_do Fl hr tkR g1.s ((A1.up g1).own (i := 0) rfl) (pa_cons (pv_fldD (pv_var 0) T.cl T.nW (fs_world b)) (pa_cons (pv_var 1) pa_nil)) (.inl ⟨.none, ⟨⟨b.c, b.r, b.ks, y, rfl, hsz, hw⟩, rfl⟩, rfl, fun _ G2 H2 g2 _ => ?_⟩)
    refine gx_when fun G3 H3 g3 => ?_
    have A3 := ((A1.up g1).up g2).up g3
    refine ft_own g3.s (A3.own (i := 0) rfl) ((pt_eqI (pv_fldD (pv_var 0) T.cl T.nO (fs_own b)) (pv_gint hmw)).is (decide_eq_false hown)) fun G4 H4 g4 => ⟨(fun h => nomatch h), fun _ => ?_⟩
    refine gx_set 2 (fun G5 H5 g5 => ?_) sc_Copy_wish.nd
    have A5 := (A3.up g4).up g5
    refine fx_own g5.s (A5.own (i := 0) rfl) (pv_tup (pd_cons (pv_fldD (pv_var 0) T.cl T.nM (fs_mine b)) (pd_cons (pv_fldD (pv_var 0) T.cl T.nO (fs_own b)) pd_nil))) rfl fun v6 G6 H6 g6 q6 => ⟨.d (.tuple [.int b.mine, .int b.own]), q6, ?_⟩
    have A6 := A5.up g6
    refine gx_inc T.cl T.nO (pv_var 0) pv_int fun G7 H7 g7 => ?_
    have A7 := A6.up g7
    obtain ⟨dx, wv, h1, A8⟩ := A7.setO (b.own + 1)
    refine ⟨dx, _, b.own, h1, bf_own b wv l sd, by show 6 < 1000; decide, A7.gp, ?_⟩
    have x8 := ((((((g1.trans g2).trans g3).trans g4).trans g5).trans g6).trans g7).x.trans (Gx.set (os := [p, l, sd]) (o := .ins C dx (putF "own" (.int (b.own + 1)) (bkF b wv l sd))) g7.s (by simp) A7.gp)
    refine gx_expr fun G9 H9 g9 => fx_meth Fp T.cl hr tkR g9.s (pv_var 0) fun G10 H10 g10 => ?_
    have A10 := (A8.up g9).up g10
    obtain ⟨dx2, wv2, fvs2, h2, _⟩ := A10.setL
    refine ⟨dx2, _, h2, bf_no _ _ _ _ (by decide +kernel), fa_cons (fx_tup (fa_cons (fx_pv g10.s pv_str fun v11 G11 H11 g11 q11 => fa_cons (fx_pv g11.s (pv_var 2) fun v12 G12 H12 g12 q12 => fa_cons (fx_meth0 Ft T.cl hr tkR g12.s (pv_var 0) fun G13 H13 g13 => ?_)))))⟩
    have A13 := ((A10.up g11).up g12).up g13
    obtain ⟨dx3, wv3, fvs3, h3, _⟩ := A13.setL
    refine ⟨dx3, _, h3, bf_no _ _ _ _ (by decide +kernel), p, l, sd, _, [], [], G13, rfl, g13.s, A13, .nil, .inl ⟨_, _, ⟨rfl, rfl, rfl⟩, fun v14 G14 H14 sd' x14 hsd A14 q14 => ?_⟩⟩
    refine ⟨G14, x14.g, x14.s, fa_cons (fx_pv x14.s (pv_var 1) fun v15 G15 H15 g15 q15 => fa_nil g15.s ⟨by simp, fun t ht => fa_nil (Gr.new g15.s ht).s ?_⟩)⟩
    have kn := Gr.new (o := .tup [v11, v12, v14, v15]) g15.s ht
    have hDp : Dp K (upd G15 t (.tup [v11, v12, v14, v15])) (.ref t) (.tuple [.str "wish", .tuple [.int b.mine, .int b.own], .tuple [.int (b.clock + 1), .int b.mine], y]) := Dp.tup (st_of upd_same) (.cons (dp_up (((((g12.trans g13).g.trans x14.g).trans g15.g)).trans kn.g) _ _ q11) (.cons (dp_up (((g13.g.trans x14.g).trans g15.g).trans kn.g) _ _ q12) (.cons (dp_up (g15.g.trans kn.g) _ _ q14) (.cons (dp_up kn.g _ _ q15) .nil))))
    refine ⟨p, l, sd', _, [.ref t], [_], _, rfl, kn.s, (A14.up g15).up kn, .cons hDp .nil, .inl ⟨_, _, ⟨_, rfl, gy, ⟨hb.good, hb.len⟩, rfl, rfl⟩, fun v16 G16 H16 sd2 x16 hsd2 A16 q16 => ⟨G16, x16.g, x16.s, ?_⟩⟩⟩
    refine go_ret (pv_var 2) fun v17 G17 H17 g17 q17 => ?_
    have y1 : Gx [p, l, sd] G H G13 H13 := x8.trans (((((g9.trans g10).trans g11).trans g12).trans g13)).x
    have hs' : sd' ≠ sd → H13 sd' = none := fun z => hsd.elim (fun q => absurd q z) id
    have y2 : Gx [p, l, sd] G H (upd G15 t (.tup [v11, v12, v14, v15])) (upd H15 t (.tup [v11, v12, v14, v15])) := (y1.trans x14).trans (g15.trans kn).x
    have hsdH : sd' = sd ∨ H sd' = none := hsd.imp id fun z => y1.fresh z
    have hsdH2 : sd2 = sd' ∨ H sd2 = none := hsd2.imp id fun z => y2.fresh z
    refine k v17 G17 H17 sd2 ?_ ?_ (A16.up g17) q17
    · exact (y2.comp x16 hsdH).trans g17.x
    · rcases hsdH2 with z | z
      · rw [z]; exact hsdH
      · exact .inr z
  · rintro cdv A outer s H Q E p l sd b ds Z G hr g A1 ⟨y, rfl, hsz, hZ⟩ k
    rcases hZ with ⟨hw, rfl⟩ | ⟨hw, hown, rfl⟩
    · exact gx_expr fun G1 H1 g1 => fx_do Fl hr tkR g1.s ((A1.up g1).own (i := 0) rfl) (pa_cons (pv_fldD (pv_var 0) T.cl T.nW (fs_world b)) (pa_cons (pv_var 1) pa_nil)) (.inr ⟨_, ⟨⟨b.c, b.r, b.ks, y, rfl, hsz, hw⟩, rfl⟩, fun σ G2 H2 g2 _ => k G2 H2 (g1.trans g2)⟩)
    · refine gx_expr fun G1 H1 g1 => fx_do Fl hr tkR g1.s ((A1.up g1).own (i := 0) rfl) (pa_cons (pv_fldD (pv_var 0) T.cl T.nW (fs_world b)) (pa_cons (pv_var 1) pa_nil)) (.inl ⟨.none, ⟨⟨b.c, b.r, b.ks, y, rfl, hsz, hw⟩, rfl⟩, rfl, fun _ G2 H2 g2 _ => ?_⟩)
      refine gx_when fun G3 H3 g3 => ?_
      have A3 := ((A1.up g1).up g2).up g3
      exact ft_own g3.s (A3.own (i := 0) rfl) ((pt_eqI (pv_fldD (pv_var 0) T.cl T.nO (fs_own b)) (pv_gint hmw)).is (decide_eq_true hown)) fun G4 H4 g4 => ⟨fun _ => go_raise TF tkR fun σ G' H' g' _ => k G' H' ((((g1.trans g2).trans g3).trans g4).trans g'), fun h => nomatch h⟩
end
end Fb

namespace Fb
open PySem PySem.Spec PyProof.Rows L2 Evl
/-! ### copies.py: told, heard -/
theorem fact_shape {c r : Int} {y : PyData} (h : isFact c r y = true) : (∃ q, y = .tuple [.str "off", q] ∧ isBooking c q = true) ∨ ∃ z q m x t, y = .tuple [.str z, q, .tuple [.int m, .int x], t] ∧ z ≠ "off" ∧ isBooking c q = true ∧ 1 ≤ m ∧ m ≤ 9999 ∧ 0 ≤ x ∧ x ≤ c - 1 ∧ (z = "wish" ∧ isWish r t = true ∧ sameCopy (.tuple [.int m, .int x]) q = true ∨ z = "pin" ∧ isSpot r t = true) := by
  unfold isFact at h
  split at h
  · rw [Bool.and_eq_true, decide_eq_true_iff] at h
    exact .inl ⟨_, by rw [h.1], h.2⟩
  · rename_i z q m t
    rw [Bool.and_eq_true, Bool.and_eq_true] at h
    obtain ⟨⟨h1, h2⟩, h3⟩ := h
    unfold isMoment at h2
    split at h2
    · rw [Bool.and_eq_true] at h2
      obtain ⟨i, rfl, i1, i2⟩ := within_int h2.1
      obtain ⟨j, rfl, j1, j2⟩ := within_int h2.2
      rw [Bool.or_eq_true, Bool.and_eq_true, Bool.and_eq_true, Bool.and_eq_true, decide_eq_true_iff, decide_eq_true_iff] at h3
      refine .inr ⟨z, q, i, j, t, rfl, ?_, h1, i1, i2, j1, j2, h3⟩
      rcases h3 with ⟨rfl, _⟩ | ⟨rfl, _⟩ <;> decide +kernel
    · cases h2
  · cases h
theorem good_int (i : Int) : Good (.int i) := ⟨rfl, rfl, by simp [PyData.depth]⟩
theorem good_small {z : Str} (h : z.cps.toList.all (fun c => decide (c ∈ smallTxt.cps.toList)) = true) : Good (.str z) := by
  refine ⟨rfl, ?_, by simp [PyData.depth]⟩
  show PyData.strOk z = true
  have hs : smallTxt.cps.toList.all (fun c => decide (c < 0x110000)) = true := by decide +kernel
  rw [List.all_eq_true] at h hs
  unfold PyData.strOk
  rw [← Array.all_toList, List.all_eq_true]
  intro c hc
  exact hs c (by simpa using h c hc)
theorem good_booking {c : Int} {q : PyData} (h : isBooking c q = true) : Good q ∧ q.depth ≤ 2 := by
  obtain ⟨i, j, rfl, _⟩ := booking_int h
  exact ⟨good_tup (by intro x hx; simp at hx; rcases hx with rfl | rfl <;> exact good_int _) (by simp [PyData.depthAll, PyData.depth]), by simp [PyData.depthAll, PyData.depth]⟩
theorem good_wish {r : Int} {t : PyData} (h : isWish r t = true) : Good t ∧ t.depth ≤ 2 := by
  unfold isWish at h
  split at h
  · rename_i nm room hour long rank
    simp only [Bool.and_eq_true] at h
    obtain ⟨⟨h1, _⟩, h2, h3⟩ := h
    unfold isPlace at h2
    rw [Bool.and_eq_true] at h2
    obtain ⟨i, rfl, _⟩ := within_int h2.1
    obtain ⟨j, rfl, _⟩ := within_int h2.2
    obtain ⟨k, rfl, _⟩ := within_int h3
    unfold isName at h1
    split at h1
    · rename_i z
      simp only [Bool.and_eq_true] at h1
      have gz : Good (.str z) := good_small (by simpa using h1.2)
      refine ⟨good_tup (by intro x hx; simp at hx; rcases hx with rfl | rfl | rfl | rfl | rfl <;> first | exact gz | exact good_int _) (by simp [PyData.depthAll, PyData.depth]), by simp [PyData.depthAll, PyData.depth]⟩
    · cases h1
  · cases h
theorem good_spot {r : Int} {t : PyData} (h : isSpot r t = true) : Good t ∧ t.depth ≤ 2 := by
  unfold isSpot at h
  split at h
  · unfold isPlace at h
    rw [Bool.and_eq_true] at h
    obtain ⟨i, rfl, _⟩ := within_int h.1
    obtain ⟨j, rfl, _⟩ := within_int h.2
    exact ⟨good_tup (by intro x hx; simp at hx; rcases hx with rfl | rfl <;> exact good_int _) (by simp [PyData.depthAll, PyData.depth]), by simp [PyData.depthAll, PyData.depth]⟩
  · cases h
theorem good_word {z : Str} (h : z = "wish" ∨ z = "pin" ∨ z = "off") : Good (.str z) := by
  rcases h with rfl | rfl | rfl <;> exact ⟨rfl, by decide +kernel, by simp [PyData.depth]⟩
theorem good_fact {c r : Int} {y : PyData} (h : isFact c r y = true) : Good y := by
  rcases fact_shape h with ⟨q, rfl, hq⟩ | ⟨z, q, m, x, t, rfl, _, hq, _, _, _, _, hz⟩
  · have g := good_booking hq
    have d := g.2
    exact good_tup (by intro x hx; simp at hx; rcases hx with rfl | rfl; exact good_word (.inr (.inr rfl)); exact g.1) (by simp [PyData.depthAll, PyData.depth]; omega)
  · have g := good_booking hq
    have d := g.2
    have gt : Good t ∧ t.depth ≤ 2 := hz.elim (fun z => good_wish z.2.1) (fun z => good_spot z.2)
    have dt := gt.2
    have gz : Good (.str z) := good_word (hz.elim (fun z => .inl z.1) (fun z => .inr (.inl z.1)))
    have gm : Good (.tuple [.int m, .int x]) := good_tup (by intro x hx; simp at hx; rcases hx with rfl | rfl <;> exact good_int _) (by simp [PyData.depthAll, PyData.depth])
    refine good_tup (by intro x hx; simp at hx; rcases hx with rfl | rfl | rfl | rfl; exact gz; exact g.1; exact gm; exact gt.1) (by simp [PyData.depthAll, PyData.depth]; omega)
def Bk.hear (b : Bk) (y : PyData) : Bk := match y with
  | .tuple [.str _, _, .tuple [.int m, _], _] => { b.put y with clock := if m > (b.put y).clock then m else (b.put y).clock }
  | _ => b.put y
theorem BkOk.hear {b : Bk} {n : Nat} {y : PyData} (h : BkOk b n) (hy : Good y) : BkOk (b.hear y) (n + 1) := by
  have := h.put hy
  unfold Bk.hear
  split
  · exact ⟨this.good, this.len⟩
  · exact this
theorem BkOk.hears {b : Bk} {n : Nat} : ∀ {fs : List PyData}, BkOk b n → (∀ y, y ∈ fs → Good y) → BkOk (fs.foldl Bk.hear b) (n + fs.length) := by
  intro fs
  induction fs generalizing b n with
  | nil => intro h _; exact h
  | cons y fs ih =>
    intro h hg
    have := ih (h.hear (hg y List.mem_cons_self)) fun z hz => hg z (List.mem_cons_of_mem _ hz)
    rw [List.foldl_cons]
    exact this.mono (by rw [List.length_cons]; omega)
theorem take_succ_of {α : Type} {l : List α} {i : Nat} {x : α} (h : l[i]? = some x) : l.take (i + 1) = l.take i ++ [x] := by
  rw [List.take_succ, h]
  rfl
def R_told1 (C : Addr) : List Dn → Dn → Prop := fun ds d => ∃ (p : Addr) (b : Bk), ds = [.ob p C b.fs] ∧ b.facts.length ≤ 1 ∧ d = .d (.tuple b.facts)
def R_heard : Bk → List PyData → Bk → PyData → Prop := fun b ds b' d => ∃ fs n, ds = [.tuple fs] ∧ szOk (.tuple fs) = true ∧ areFacts b.c b.r (.tuple fs) = true ∧ BkOk b n ∧ n + fs.length ≤ 9000 ∧ b' = fs.foldl Bk.hear b ∧ d = .int ((b'.facts.length : Int) - b.facts.length)
def B_heard (CF : Addr) : Bk → List PyData → Addr → Prop := fun b ds Z => ∃ y, ds = [y] ∧ szOk y = true ∧ areFacts b.c b.r y = false ∧ Z = CF
section
variable {P : Program} {w : World} {K : PySem.W.Frag} {mg : Str → Option Value} {base : Heap} {f : Addr} {fd : FuncData} {C CW CC CF CB : Addr}
theorem ok_told1 (F : Fun K "told" "Copy.told" s_Copy_told f fd) (B : Bl mg) (T : Tc K C) : FnOk P w K mg base (L2.CX P w) 1 f fd p_Copy_told (spR K (R_told1 C) noB) := by
  refine okP F sc_Copy_told (by rintro ds d ⟨p, b, rfl, _, rfl⟩; rfl) ?_
  rintro cdv A outer s H Q E ds d G hr ⟨p, b, rfl, hl, rfl⟩ k
  exact go_ret (pv_tupleL B.tuple (pv_sorted1 B.sorted (pv_fldD (pv_var 0) T.cl T.nF (fs_facts b)) hl)) k
abbrev FcLF (P : Program) (w : World) (K : PySem.W.Frag) (mg : Str → Option Value) (base : Heap) (CF : Addr) : Prop := Fc P w K mg base 5 "look_facts" (spR K (R_look L_facts) (B_look L_facts CF))
theorem ok_heard (F : Fun K "heard" "Copy.heard" s_Copy_heard f fd) (B : Bl mg) (T : Tc K C) (Fl : FcLF P w K mg base CF) (Fp : FmPut P w K mg base C) : FnOk P w K mg base (L2.CX P w) 6 f fd p_Copy_heard (spM K C R_heard (B_heard CF)) := by
  refine okM F sc_Copy_heard (by rintro b ds b' d ⟨fs, n, rfl, _⟩; rfl) (by rintro b ds A ⟨y, rfl, _⟩; rfl) ?_ ?_
  · rintro cdv A outer s H Q E p l sd b ds b' d G hr g A1 ⟨fs, n, rfl, hsz, hw, hb, hn, rfl, rfl⟩ k
    have hall : ∀ y, y ∈ fs → isFact b.c b.r y = true := by simpa [areFacts] using hw
    refine gx_expr fun G1 H1 g1 => fx_do Fl hr tkR g1.s ((A1.up g1).own (i := 0) rfl) (pa_cons (pv_fldD (pv_var 0) T.cl T.nW (fs_world b)) (pa_cons (pv_var 1) pa_nil)) (.inl ⟨.none, ⟨⟨b.c, b.r, b.ks, _, rfl, hsz, hw⟩, rfl⟩, rfl, fun _ G2 H2 g2 _ => ?_⟩)
    refine gx_set 2 (fun G3 H3 g3 => ?_) sc_Copy_heard.nd
    have A3 := ((A1.up g1).up g2).up g3
    refine fx_own g3.s (A3.own (i := 0) rfl) (pv_len B.len (pv_fldD (pv_var 0) T.cl T.nF (fs_facts b)) rfl) rfl fun v4 G4 H4 g4 q4 => ⟨.d (.int (b.facts.length : Int)), q4, ?_⟩
    have A4 := A3.up g4
    have y4 : Gx [p, l, sd] G H G4 H4 := (((g1.trans g2).trans g3).trans g4).x
    refine gx_for (xs := fs) (enc := Dn.d) (fun i r G' H' => (∃ o, r = [some (.v (.ref p)), some (.d (.tuple fs)), some (.d (.int (b.facts.length : Int))), o]) ∧ ∃ sd', CopyAt K C G' H' p l sd' ((fs.take i).foldl Bk.hear b) ∧ Gx [p, l, sd] G H G' H' ∧ (sd' = sd ∨ H sd' = none)) ?hp rfl (wk_tup (pv_var 1)) ?hm ?h0 ?hs ?hd
    case hp => exact passes_of rfl
    case hm =>
      rintro i r G5 H5 G6 H6 ⟨hr5, sd', A5, x5, hs5⟩ g6
      exact ⟨hr5, sd', A5.up g6, x5.trans g6.x, hs5⟩
    case h0 => exact fun G5 H5 g5 => ⟨⟨none, rfl⟩, sd, A4.up g5, y4.trans g5.x, .inl rfl⟩
    case hs =>
      rintro i y r5 G5 H5 hi s5 ⟨⟨o, rfl⟩, sd', A5, x5, hs5⟩
      have hy := hall y (List.mem_of_getElem? hi)
      have gy := good_fact hy
      have hbi : BkOk ((fs.take i).foldl Bk.hear b) 8999 := (hb.hears fun z hz => good_fact (hall z (List.mem_of_mem_take hz))).mono (by
        have h1 : i < fs.length := (List.getElem?_eq_some_iff.mp hi).1
        rw [List.length_take]
        omega)
      refine ⟨_, _, pg_name 3 sc_Copy_heard.nd, ?_⟩
      refine gx_expr fun G6 H6 g6 => fx_meth Fp T.cl hr tkR g6.s (pv_var 0) fun G7 H7 g7 => ?_
      have A7 := (A5.up g6).up g7
      obtain ⟨dx2, wv2, fvs2, h2, _⟩ := A7.setL
      refine ⟨dx2, _, h2, bf_no _ _ _ _ (by decide +kernel), fa_pa g7.s (pa_cons (pv_var 3) pa_nil) fun vs G8 H8 g8 q8 => ?_⟩
      obtain ⟨v8, rfl, q8v⟩ := dens1 q8
      have A8 := A7.up g8
      have x8 := x5.trans ((g6.trans g7).trans g8).x
      refine ⟨p, l, sd', _, [v8], [y], G8, rfl, g8.s, A8, (.cons q8v .nil), .inl ⟨_, _, ⟨y, rfl, gy, hbi.mono (by omega), rfl, rfl⟩, fun v9 G9 H9 sd2 x9 hsd9 A9 q9 => ⟨G9, x9.g, x9.s, ?_⟩⟩⟩
      have x9' : Gx [p, l, sd] G H G9 H9 := x8.comp x9 hs5
      have hs9 : sd2 = sd ∨ H sd2 = none := by
        rcases hsd9 with z | z
        · rw [z]; exact hs5
        · exact .inr (x8.fresh z)
      rcases fact_shape hy with ⟨q, rfl, hq⟩ | ⟨z, q, m, x, t, rfl, hz, hq⟩
      · refine go_when (q := false) ((pt_neS (pv_ix (pv_var 3) pv_int (ix_zero _ _)) pv_str).is (by decide +kernel)) (fun h => nomatch h) (fun _ => go_nil fun σ H10 ⟨G10, g10, n10⟩ => ?_)
        refine ⟨_, G10, ⟨⟨_, rfl⟩, sd2, ?_, x9'.trans g10.x, hs9⟩, ?_, g10.s, n10⟩
        · rw [take_succ_of hi, List.foldl_append]
          exact A9.up g10
        · exact (((g6.trans g7).trans g8).g.trans x9.g).trans g10.g
      · refine go_when (q := true) ((pt_neS (pv_ix (pv_var 3) pv_int (ix_zero _ _)) pv_str).is (by rw [decide_eq_false hz]; rfl)) (fun _ => ?_) (fun h => nomatch h)
        refine gx_fld T.cl T.nC (pv_var 0) fun G10 H10 g10 => ?_
        have A10 := A9.up g10
        refine fx_own g10.s (A10.own (i := 0) rfl) (pv_max2 B.max (pv_fldD (pv_var 0) T.cl T.nC (fs_clock _)) (pv_ix (pv_ix (pv_var 3) pv_int rfl) pv_int rfl)) rfl fun v11 G11 H11 g11 q11 => ?_
        have A11 := A10.up g11
        have e11 := den_int q11
        subst e11
        obtain ⟨dx, wv, h1, A12⟩ := A11.setC (if m > (((fs.take i).foldl Bk.hear b).put (.tuple [.str z, q, .tuple [.int m, .int x], t])).clock then m else (((fs.take i).foldl Bk.hear b).put (.tuple [.str z, q, .tuple [.int m, .int x], t])).clock)
        refine ⟨dx, _, h1, by show 6 < 1000; decide, A11.gp, go_nil fun σ H13 ⟨G13, g13, n13⟩ => wSs_of pss_nil ?_⟩
        refine ⟨_, G13, ⟨⟨_, rfl⟩, sd2, ?_, ((x9'.trans (g10.trans g11).x).trans (Gx.set g11.s (by simp) A11.gp)).trans g13.x, hs9⟩, ?_, g13.s, n13⟩
        · rw [take_succ_of hi, List.foldl_append]
          exact A12.up g13
        · exact ((((g6.trans g7).trans g8).g.trans x9.g).trans (g10.trans g11).g).trans g13.g
    case hd =>
      rintro r5 G5 H5 ⟨⟨o, rfl⟩, sd', A5, x5, hs5⟩ s5
      rw [List.take_length] at A5
      refine gx_ret fun G6 H6 g6 => ?_
      have A6 := A5.up g6
      refine fx_own g6.s (A6.own (i := 0) rfl) (pv_sub (pv_len B.len (pv_fldD (pv_var 0) T.cl T.nF (fs_facts _)) rfl) (pv_var 2)) rfl fun v7 G7 H7 g7 q7 => ?_
      exact k v7 G7 H7 sd' (x5.trans (g6.trans g7).x) hs5 (A6.up g7) q7
  · rintro cdv A outer s H Q E p l sd b ds Z G hr g A1 ⟨y, rfl, hsz, hw, rfl⟩ k
    exact gx_expr fun G1 H1 g1 => fx_do Fl hr tkR g1.s ((A1.up g1).own (i := 0) rfl) (pa_cons (pv_fldD (pv_var 0) T.cl T.nW (fs_world b)) (pa_cons (pv_var 1) pa_nil)) (.inr ⟨_, ⟨⟨b.c, b.r, b.ks, y, rfl, hsz, hw⟩, rfl⟩, fun σ G2 H2 g2 _ => k G2 H2 (g1.trans g2)⟩)
end
end Fb

namespace Fb
open PySem PySem.Spec PyProof.Rows L2 Evl
/-! ### the law's helpers: numbers, worlds, wishes -/
def R_cell : List Dn → Dn → Prop := fun ds d => ∃ (ns : List Int) (k : Nat), ds = [.sc ns, .d (.int k)] ∧ d = .d (.int (cellZ ns k))
def R_seed : List Dn → Dn → Prop := fun ds d => ∃ s k : Int, ds = [.d (.int s), .d (.int k)] ∧ 0 ≤ k ∧ k < 1000000 ∧ d = .d (.int (seedZ s k))
def R_pick : List Dn → Dn → Prop := fun ds d => ∃ s m : Int, ds = [.d (.int s), .d (.int m)] ∧ 0 < m ∧ d = .d (.int (pickZ s m))
def R_lworld : List Dn → Dn → Prop := fun ds d => ∃ s : Int, ds = [.d (.int s)] ∧ d = .d (worldOf s)
def R_lwish : List Dn → Dn → Prop := fun ds d => ∃ (c r : Int) (ks : List Str) (s : Int), ds = [.d (wD c r ks), .d (.int s)] ∧ 1 ≤ r ∧ d = .d (wishOf r s)
theorem sum_one : ∀ cs : List Nat, (cs.map ((fun x : Str => x.length) ∘ fun c => (⟨#[c]⟩ : Str))).sum = cs.length
  | [] => rfl
  | c :: cs => by
    rw [List.map_cons, List.sum_cons, sum_one cs, List.length_cons]
    show 1 + cs.length = cs.length + 1
    omega
theorem small_ix {i : Int} (h0 : 0 ≤ i) (h1 : i < 26) : atI smallTxt.cps.toList i = some (smallAt i) := by
  have hl : smallTxt.cps.toList.length = 26 := by decide +kernel
  have hi : i.toNat < smallTxt.cps.toList.length := by omega
  have := atI_nat (xs := smallTxt.cps.toList) (j := i.toNat) (List.getElem?_eq_getElem hi)
  rw [Int.toNat_of_nonneg h0] at this
  rw [this]
  unfold smallAt
  rw [List.getD_eq_getElem?_getD, List.getElem?_eq_getElem hi]
  rfl
theorem ixL_nat {xs : List PyData} {j : Nat} {z : PyData} (h : xs[j]? = some z) : ixD (.list xs) (j : Int) = some z := atI_nat h
section
variable {P : Program} {w : World} {K : PySem.W.Frag} {mg : Str → Option Value} {base : Heap} {f : Addr} {fd : FuncData}
theorem pv_lenSc {X : Cx} {a : Expr} {r : Rho} {pos p : Pos} {ns : List Int} (hm : X.mg "len" = none) (ha : Pv X a r (.sc ns)) (hg : Gl X "len" := by rfl) (he : starEach [a] X.env = (false, eval a X.env) :: starEach [] X.env := by rfl) (hpl : (backTo pos (starEach [] X.env)).any (·.1) = false := by rfl) :
    Pv X (.Call (.Name "len" p) [a] [] pos) r (.d (.int (ns.length : Nat))) :=
  pv_callB call_len hg hm PySem.boot_len (pa_cons ha pa_nil he) (fun vs G H Q g hd k => by
    obtain ⟨v, rfl, q, rfl, hv⟩ := dens1 hd
    exact ⟨.ref q, ns.length, rfl, .inl ⟨_, ex_l g hv, by simp⟩, k _ G H (Gr.refl g) (Dp.int _)⟩) (he := he) (hpl := hpl)
theorem pv_ixSc {X : Cx} {a b : Expr} {r : Rho} {pos : Pos} {ns : List Int} {i z : Int} (ha : Pv X a r (.sc ns)) (hb : Pv X b r (.d (.int i))) (hi : atI ns i = some z) (hs : PlainIx b := by exact fun _ _ => rfl) : Pv X (.Subscript a b pos) r (.d (.int z)) := fun σ G H g n =>
  wE_of (pe_ix ix_list pe_w pe_w hs) (wE_imp (ha σ G H g n) fun x H1 ⟨G1, k1, q1⟩ => wE_imp (hb σ G1 H1 k1.s (n.up k1.g)) fun u H2 ⟨G2, k2, q2⟩ => by
    obtain ⟨q, rfl, hv⟩ := q1
    rw [den_int q2]
    refine ⟨q, ns.map V.int, i, .int z, rfl, rfl, ex_l (k1.s.trans k2.h) hv, ?_, G2, k1.trans k2, Dp.int _⟩
    unfold atI at hi ⊢
    rw [List.length_map]
    cases q3 : ixN ns.length i with
    | none => rw [q3] at hi; cases hi
    | some j =>
      rw [q3] at hi
      show (ns.map V.int)[j]? = _
      rw [List.getElem?_map, show ns[j]? = some z from hi]
      rfl)
theorem ok_cell (F : Fun K "_law_cell" "_law_cell" s_law_cell f fd) (B : Bl mg) : FnOk P w K mg base (L2.CX P w) 1 f fd p_law_cell (spR K R_cell noB) := by
  refine okP F sc_law_cell (by rintro ds d ⟨ns, k, rfl, rfl⟩; rfl) ?_
  rintro cdv A outer s H Q E ds d G hr ⟨ns, k, rfl, rfl⟩ kk
  by_cases h : k < ns.length
  · refine go_when (q := true) ((pt_lt (pv_var 1) (pv_lenSc B.len (pv_var 0))).is (decide_eq_true (by omega))) (fun _ => ?_) (fun h => nomatch h)
    refine go_ret (pv_ixSc (pv_var 0) (pv_var 1) (atI_nat (j := k) ?_)) kk
    unfold cellZ
    rw [List.getD_eq_getElem?_getD, List.getElem?_eq_getElem h]
    rfl
  · refine go_when (q := false) ((pt_lt (pv_var 1) (pv_lenSc B.len (pv_var 0))).is (decide_eq_false (by omega))) (fun h => nomatch h) (fun _ => ?_)
    refine go_ret (pv_int.is ?_) kk
    unfold cellZ
    rw [List.getD_eq_getElem?_getD, List.getElem?_eq_none (by omega)]
    rfl
theorem ok_seed (F : Fun K "_law_seed" "_law_seed" s_law_seed f fd) : FnOk P w K mg base (L2.CX P w) 1 f fd p_law_seed (spR K R_seed noB) := by
  refine okP F sc_law_seed (by rintro ds d ⟨s, k, rfl, _, _, rfl⟩; rfl) ?_
  rintro cdv A outer s H Q E ds d G hr ⟨z, k, rfl, h0, h1, rfl⟩ kk
  have m0 := Int.emod_nonneg (z * 1103515245 + 7919 * k + 12345) (show (2147483647 : Int) ≠ 0 by decide)
  have m1 := Int.emod_lt_of_pos (z * 1103515245 + 7919 * k + 12345) (show (0 : Int) < 2147483647 by decide)
  exact go_ret (pv_mod (by decide) (pv_pow ⟨by decide, by decide, by omega⟩ (pv_mod (by decide) (pv_add (pv_add (pv_mul (.inr ⟨by decide, by decide⟩) (pv_var 0) pv_int) (pv_mul (.inl ⟨by decide, by decide⟩) pv_int (pv_var 1))) pv_int) pv_int) pv_int) pv_int) kk
theorem ok_pick (F : Fun K "_law_pick" "_law_pick" s_law_pick f fd) : FnOk P w K mg base (L2.CX P w) 1 f fd p_law_pick (spR K R_pick noB) := by
  refine okP F sc_law_pick (by rintro ds d ⟨s, k, rfl, _, rfl⟩; rfl) ?_
  rintro cdv A outer s H Q E ds d G hr ⟨z, m, rfl, h0, rfl⟩ kk
  exact go_ret (pv_mod h0 (pv_fdiv ⟨by decide, by decide⟩ (pv_var 0) pv_int) (pv_var 1)) kk
abbrev FcCell (P : Program) (w : World) (K : PySem.W.Frag) (mg : Str → Option Value) (base : Heap) : Prop := Fc P w K mg base 1 "_law_cell" (spR K R_cell noB)
abbrev FcSeed (P : Program) (w : World) (K : PySem.W.Frag) (mg : Str → Option Value) (base : Heap) : Prop := Fc P w K mg base 1 "_law_seed" (spR K R_seed noB)
abbrev FcPick (P : Program) (w : World) (K : PySem.W.Frag) (mg : Str → Option Value) (base : Heap) : Prop := Fc P w K mg base 1 "_law_pick" (spR K R_pick noB)
theorem good_key {k : Str} (h : k ∈ keyNames) : Good (.str k) := by
  simp only [keyNames, List.mem_cons, List.not_mem_nil, or_false] at h
  rcases h with rfl | rfl | rfl | rfl <;> exact ⟨rfl, by decide +kernel, by simp [PyData.depth]⟩
theorem keysOf_len (z : Int) (n : Nat) : (keysOf z n).length ≤ n := by
  induction n with
  | zero => simp [keysOf, upto]
  | succ n ih =>
    rw [keysOf_succ]
    unfold addKey
    rw [List.length_append]
    split <;> simp <;> omega
theorem ok_lworld (F : Fun K "_law_world" "_law_world" s_law_world f fd) (B : Bl mg) (Fs : FcSeed P w K mg base) (Fp : FcPick P w K mg base) : FnOk P w K mg base (L2.CX P w) 2 f fd p_law_world (spR K R_lworld noB) := by
  refine okP F sc_law_world (by rintro ds d ⟨s, rfl, rfl⟩; rfl) ?_
  rintro cdv A outer s H Q E ds d G hr ⟨z0, rfl, rfl⟩ kk
  refine go_set 0 (pv_call Fs hr (pa_cons (pv_var 0) (pa_cons pv_int pa_nil)) ⟨z0, 9, rfl, by decide, by decide, rfl⟩) ?_ sc_law_world.nd
  obtain ⟨z, hz⟩ : ∃ z, z = seedZ z0 9 := ⟨_, rfl⟩
  rw [← hz]
  refine go_set 1 (pv_lst (xs := keyNames.map PyData.str) (pd_cons pv_str (pd_cons pv_str (pd_cons pv_str (pd_cons pv_str pd_nil)))) (by decide)) ?_ sc_law_world.nd
  refine go_set 2 (pv_lst (xs := []) pd_nil) ?_ sc_law_world.nd
  have hn : (z / 3 % 5).toNat ≤ 4 := by omega
  refine go_for (xs := upto 0 (z / 3 % 5).toNat) (enc := fun i => Dn.d (.int i)) (fun i r1 => ∃ o1 o2, r1 = [some (.d (.int z)), some (.d (.list (keyNames.map PyData.str))), some (.d (.list ((keysOf z i).map PyData.str))), o1, o2]) (passes_of rfl) rfl (wk_range1 B.range (pv_mod (by decide) (pv_fdiv ⟨by decide, by decide⟩ (pv_var 0) pv_int) pv_int) ⟨by omega, by omega⟩) ⟨none, none, rfl⟩ ?_ ?_
  · rintro G1 H1 g1 i x r1 hx ⟨o1, o2, rfl⟩
    obtain ⟨rfl, hi⟩ := upto_at hx
    rw [Int.zero_add]
    have hpk : 0 ≤ pickZ (seedZ z i) 4 ∧ pickZ (seedZ z i) 4 < 4 := ⟨Int.emod_nonneg _ (by decide), Int.emod_lt_of_pos _ (by decide)⟩
    refine ⟨_, _, pg_name 3 sc_law_world.nd, ?_⟩
    refine go_set 4 (pv_ix (pv_var 1) (pv_call Fp hr (pa_cons (pv_call Fs hr (pa_cons (pv_var 0) (pa_cons (pv_var 3) pa_nil)) ⟨z, i, rfl, by omega, by omega, rfl⟩) (pa_cons pv_int pa_nil)) ⟨seedZ z i, 4, rfl, by decide, rfl⟩) (ix_key hpk.1 hpk.2)) ?_ sc_law_world.nd
    have hgk := keysOf_ok z i
    have hlen := keysOf_len z i
    refine go_set 2 (d := .d (.list ((keysOf z (i + 1)).map PyData.str))) (Pv.is (pv_catL (pv_var 2) (pv_repL (pd_cons (pv_var 4) pd_nil) (pv_intb B.int (pv_ninD (by have := hr.un; show A.units + 3 + 65 < _; have e : (A.deeper (envOfC "_law_world" (defScope s_law_world) s.heap.objs.size f cdv)).units = A.units + 3 := rfl; omega) (pv_var 4) (pv_var 2) (good_key (keyAt_mem _)).shaped (good_list (by
        intro x hx
        obtain ⟨k, hk, rfl⟩ := List.mem_map.mp hx
        exact good_key (hgk.1 k hk))))) (by split <;> decide) (by split <;> simp)) (by
        rw [List.length_map, any_str]
        cases (keysOf z i).contains (keyAt (pickZ (seedZ z i) 4)) <;> simp <;> omega)) (by
        rw [any_str, keysOf_succ]
        unfold addKey
        rw [List.map_append]
        cases (keysOf z i).contains (keyAt (pickZ (seedZ z i) 4)) <;> rfl)) ?_ sc_law_world.nd
    exact go_nil fun σ H2 n2 => ⟨_, ⟨_, _, rfl⟩, n2⟩
  · rintro r1 ⟨o1, o2, rfl⟩
    rw [upto_len]
    refine go_ret ((pv_tup (pd_cons (pv_add pv_int (pv_mod (by decide) (pv_fdiv ⟨by decide, by decide⟩ (pv_var 0) pv_int) pv_int)) (pd_cons (pv_add pv_int (pv_mod (by decide) (pv_fdiv ⟨by decide, by decide⟩ (pv_var 0) pv_int) pv_int)) (pd_cons (pv_tupleL B.tuple (pv_var 2)) pd_nil)))).is ?_) kk
    rw [hz]
    rfl
theorem ok_lwish (F : Fun K "_law_wish" "_law_wish" s_law_wish f fd) (B : Bl mg) (Fs : FcSeed P w K mg base) (Fp : FcPick P w K mg base) : FnOk P w K mg base (L2.CX P w) 2 f fd p_law_wish (spR K R_lwish noB) := by
  refine okP F sc_law_wish (by rintro ds d ⟨c, r, ks, s, rfl, _, rfl⟩; rfl) ?_
  rintro cdv A outer s H Q E ds d G hr ⟨c, r, ks, z, rfl, h1, rfl⟩ kk
  refine go_set 2 (pv_str (i := smallTxt)) ?_ sc_law_wish.nd
  have hn : (1 + z / 3 % 4).toNat ≤ 4 := by omega
  have hname : Txt.join ("" : Str) ((nameOf z).map fun c => (⟨#[c]⟩ : Str)) = SX.S (nameOf z) := join_small _
  refine go_set 3 (d := .d (.str (SX.S (nameOf z)))) (Pv.is (pv_join (ss := (nameOf z).map fun c => (⟨#[c]⟩ : Str)) pv_str (Pv.is (pv_lc [("k", 4)] (fun _ : Int => true) (fun k => .str ⟨#[smallAt (pickZ (seedZ z k) 26)]⟩) (fun k => [some (.d (wD c r ks)), some (.d (.int z)), some (.d (.str smallTxt)), none, some (.d (.int k)), none, none]) rfl sc_law_wish.nd (wk_range1 (j := 1 + z / 3 % 4) B.range (pv_add pv_int (pv_mod (by decide) (pv_fdiv ⟨by decide, by decide⟩ (pv_var 1) pv_int) pv_int)) ⟨by omega, by omega⟩) (blkOk_by (N := n_law_wish) (sc := defScope s_law_wish) (by decide +kernel)) (fun y _ s H C cl fp => pg_name 4 sc_law_wish.nd) (fun y hy s H C cl fp => pts_nil) (fun y hy _ s H C cl fp => by
      obtain ⟨i, hi⟩ := List.mem_iff_getElem?.mp hy
      obtain ⟨rfl, hi2⟩ := upto_at hi
      exact pv_ixS (pv_var 2) (pv_call Fp hr (pa_cons (pv_call Fs hr (pa_cons (pv_var 1) (pa_cons (pv_var 4) pa_nil)) ⟨z, 0 + i, rfl, by omega, by omega, rfl⟩) (pa_cons pv_int pa_nil)) ⟨seedZ z (0 + i), 26, rfl, by decide, rfl⟩) (small_ix (Int.emod_nonneg _ (by decide)) (Int.emod_lt_of_pos _ (by decide))) (by decide +kernel)) (by rw [upto_len]; omega) (by simp) (fun _ _ => rfl)) (by
      unfold nameOf
      rw [List.filter_eq_self.mpr (fun _ _ => rfl), List.map_map, List.map_map]
      rfl)) (by
      have hl : (nameOf z).length ≤ 4 := by unfold nameOf; rw [List.length_map, upto_len]; exact hn
      rw [List.map_map, List.length_map]
      have : ((nameOf z).map ((fun x : Str => x.length) ∘ fun c => (⟨#[c]⟩ : Str))).sum = (nameOf z).length := by
        exact sum_one _
      rw [this]
      show (nameOf z).length + (nameOf z).length * 0 ≤ 16777216
      omega)) (by rw [hname])) ?_ sc_law_wish.nd
  have hs7 : 0 ≤ z / 7 % 2 ∧ z / 7 % 2 < 2 := by omega
  have hs17 : 0 ≤ z / 17 % 2 ∧ z / 17 % 2 < 2 := by omega
  have hs23 : 0 ≤ z / 23 % 2 ∧ z / 23 % 2 < 2 := by omega
  have hpk : 0 ≤ pickZ z 5 / 2 ∧ pickZ z 5 / 2 < 3 := by unfold pickZ; omega
  refine go_set 5 (d := .d (.int (longOf z))) (pv_add pv_int (pv_mod (by rcases sel2_cases 6 3 (z / 7 % 2) with h | h <;> rw [h] <;> decide) (pv_fdiv ⟨by decide, by decide⟩ (pv_var 1) pv_int) (pv_ix (pv_lst (pd_cons pv_int (pd_cons pv_int pd_nil))) (pv_mod (by decide) (pv_fdiv ⟨by decide, by decide⟩ (pv_var 1) pv_int) pv_int) (ix2 hs7.1 hs7.2)))) ?_ sc_law_wish.nd
  refine go_set 6 (d := .d (.int (hourOf z))) (pv_min2 B.min (pv_sub pv_int (pv_var 5)) (pv_ix (pv_lst (pd_cons (pv_add pv_int (pv_mod (by decide) (pv_fdiv ⟨by decide, by decide⟩ (pv_var 1) pv_int) pv_int)) (pd_cons (pv_mod (by decide) (pv_fdiv ⟨by decide, by decide⟩ (pv_var 1) pv_int) pv_int) (pd_cons pv_int pd_nil)))) (pv_fdiv ⟨by decide, by decide⟩ (pv_call Fp hr (pa_cons (pv_var 1) (pa_cons pv_int pa_nil)) ⟨z, 5, rfl, by decide, rfl⟩) pv_int) (ix3 hpk.1 hpk.2))) ?_ sc_law_wish.nd
  exact go_ret (pv_tup (pd_cons (pv_var 3) (pd_cons (pv_mod (by rcases sel2_cases r 1 (z / 17 % 2) with h | h <;> rw [h] <;> omega) (pv_fdiv ⟨by decide, by decide⟩ (pv_var 1) pv_int) (pv_ix (pv_lst (pd_cons (pv_ix (pv_var 0) pv_int rfl) (pd_cons pv_int pd_nil))) (pv_mod (by decide) (pv_fdiv ⟨by decide, by decide⟩ (pv_var 1) pv_int) pv_int) (ix2 hs17.1 hs17.2))) (pd_cons (pv_var 6) (pd_cons (pv_var 5) (pd_cons (pv_mod (by rcases sel2_cases 10 3 (z / 23 % 2) with h | h <;> rw [h] <;> decide) (pv_fdiv ⟨by decide, by decide⟩ (pv_var 1) pv_int) (pv_ix (pv_lst (pd_cons pv_int (pd_cons pv_int pd_nil))) (pv_mod (by decide) (pv_fdiv ⟨by decide, by decide⟩ (pv_var 1) pv_int) pv_int) (ix2 hs23.1 hs23.2))) pd_nil)))))) kk
end
end Fb

namespace Fb
open PySem PySem.Spec PyProof.Rows L2 Evl
/-! ### the law's helpers: what is a world, a wish, a fact, found once more -/
theorem cut_to {xs : List PyData} {n : Nat} : cutD xs none (some (n : Int)) = xs.take n := by
  unfold cutD
  rw [HT.sIx_none, HT.sIx_nat, List.drop_zero, Nat.sub_zero]
  by_cases h : n ≤ xs.length
  · rw [Nat.min_eq_left h]
  · rw [Nat.min_eq_right (by omega), List.take_length, List.take_of_length_le (by omega)]
theorem cut_from {xs : List PyData} {n : Nat} : cutD xs (some (n : Int)) none = xs.drop n := by
  unfold cutD
  rw [HT.sIx_none, HT.sIx_nat]
  by_cases h : n ≤ xs.length
  · rw [Nat.min_eq_left h, List.take_of_length_le (by rw [List.length_drop]; omega)]
  · rw [Nat.min_eq_right (by omega), List.drop_length, List.drop_of_length_le (by omega), List.take_nil]
theorem list4 {al : Type} {xs : List al} (h : xs.length = 4) : ∃ a b c d, xs = [a, b, c, d] := by
  match xs, h with
  | [a, b, c, d], _ => exact ⟨a, b, c, d, rfl⟩
def isPair (y : PyData) (a b c e : Int) : Bool := match y with
  | .tuple [u, v] => within u a b && within v c e
  | _ => false
theorem isPair_len {xs : List PyData} {a b c e : Int} (h : ¬ xs.length = 2) : isPair (.tuple xs) a b c e = false := by
  unfold isPair
  split
  · rename_i q; cases q; exact absurd rfl h
  · rfl
theorem isPair_no {y : PyData} {a b c e : Int} (h : isTup y = false) : isPair y a b c e = false := by cases y <;> first | rfl | cases h
theorem booking_pair (c : Int) (y : PyData) : isBooking c y = isPair y 0 (c - 1) 0 11 := by unfold isBooking isPair; rfl
theorem moment_pair (c : Int) (y : PyData) : isMoment c y = isPair y 1 9999 0 (c - 1) := by unfold isMoment isPair; rfl
theorem spot_pair (r : Int) (y : PyData) : isSpot r y = isPair y 0 (r - 1) 0 23 := by unfold isSpot isPair; rfl
def R_las : List Dn → Dn → Prop := fun ds d => ∃ a b : Bool, ds = [.d (.bool a), .d (.bool b)] ∧ d = .d (.bool (decide (a = b)))
def R_lpair : List Dn → Dn → Prop := fun ds d => ∃ (y : PyData) (a b c e : Int), ds = [.d y, .d (.tuple [.int a, .int b]), .d (.tuple [.int c, .int e])] ∧ d = .d (.bool (isPair y a b c e))
def R_liswish : List Dn → Dn → Prop := fun ds d => ∃ (c r : Int) (ks : List Str) (y : PyData), ds = [.d (wD c r ks), .d y] ∧ szOk y = true ∧ y.canLay0 = true ∧ d = .d (.bool (isWish r y))
def R_lisfact : List Dn → Dn → Prop := fun ds d => ∃ (c r : Int) (ks : List Str) (y : PyData), ds = [.d (wD c r ks), .d y] ∧ szOk y = true ∧ y.canLay0 = true ∧ d = .d (.bool (isFact c r y))
theorem keysOk_prefix {ks : List PyData} {ss : List Str} {n : Nat} (h : ks.take n = ss.map PyData.str) (hk : keysOk ks = true) : (∀ k ∈ ss, k ∈ keyNames) ∧ ss.Nodup := by
  unfold keysOk at hk
  cases q : strsOf ks with
  | none => rw [q] at hk; cases hk
  | some ts =>
    rw [q] at hk
    have hk' : (ts.all (keyNames.contains ·) && decide (dcn ts = ts.length)) = true := hk
    rw [Bool.and_eq_true, List.all_eq_true, decide_eq_true_iff] at hk'
    have e : ss = ts.take n := by
      have := strsOf_some q
      rw [this, ← List.map_take] at h
      have inj : ∀ {a b : List Str}, a.map PyData.str = b.map PyData.str → a = b := fun {a b} h => by
        have := congrArg strsOf h
        rw [strsOf_map, strsOf_map] at this
        exact Option.some.inj this
      exact (inj h).symm
    subst e
    exact ⟨fun k hm => by simpa using hk'.1 k (List.mem_of_mem_take hm), ((dcn_nodup ts).mp hk'.2).sublist (List.take_sublist _ _)⟩
theorem keysOk_all {ks : List PyData} {ss : List Str} (h : ks = ss.map PyData.str) (h1 : ∀ k ∈ ss, k ∈ keyNames) (h2 : ss.Nodup) : keysOk ks = true := by
  unfold keysOk
  rw [h, strsOf_map]
  show (ss.all (keyNames.contains ·) && decide (dcn ss = ss.length)) = true
  rw [Bool.and_eq_true, List.all_eq_true]
  exact ⟨fun k hk => by simpa using h1 k hk, decide_eq_true ((dcn_nodup ss).mpr h2)⟩
section
variable {P : Program} {w : World} {K : PySem.W.Frag} {mg : Str → Option Value} {base : Heap} {f : Addr} {fd : FuncData}
theorem ok_las (F : Fun K "_law_as" "_law_as" s_law_as f fd) (B : Bl mg) : FnOk P w K mg base (L2.CX P w) 1 f fd p_law_as (spR K R_las noB) := by
  refine okP F sc_law_as (by rintro ds d ⟨a, b, rfl, rfl⟩; rfl) ?_
  rintro cdv A outer s H Q E ds d G hr ⟨a, b, rfl, rfl⟩ k
  exact go_ret (pv_andT ((pv_isi B.isinstance (pv_var 0) (pv_ty B.bool PyProof.Rows.boot_bool) (kit_bool _)).is (by rfl)) (pv_one (pv_eqB (pv_var 0) (pv_var 1)))) k
theorem ok_lin (F : Fun K "_law_in" "_law_in" s_law_in f fd) (B : Bl mg) : FnOk P w K mg base (L2.CX P w) 1 f fd p_law_in (spR K R_is_within noB) := by
  refine okP F sc_law_in (by rintro ds d ⟨y, lo, hi, rfl, rfl⟩; rfl) ?_
  rintro cdv A outer s H Q E ds d G hr ⟨y, lo, hi, rfl, rfl⟩ k
  refine go_ret (Pv.is (pv_and (pv_isi B.isinstance (pv_var 0) (pv_ty B.int PyProof.Rows.boot_int) (kit_int y)) fun h1 => pv_and (pv_not (pv_isi B.isinstance (pv_var 0) (pv_ty B.bool PyProof.Rows.boot_bool) (kit_bool y))) fun h2 => (show Pv _ _ _ (.d (.bool (within y lo hi))) from pv_one ?_)) ?_) k
  · obtain ⟨i, rfl⟩ := int_of h1 h2
    exact pv_le_le (pv_var 1) (pv_var 0) (pv_var 2)
  · cases y <;> rfl
abbrev FcIn (P : Program) (w : World) (K : PySem.W.Frag) (mg : Str → Option Value) (base : Heap) : Prop := Fc P w K mg base 1 "_law_in" (spR K R_is_within noB)
theorem ok_lpair (F : Fun K "_law_is_pair" "_law_is_pair" s_law_is_pair f fd) (B : Bl mg) (Fw : FcIn P w K mg base) : FnOk P w K mg base (L2.CX P w) 2 f fd p_law_is_pair (spR K R_lpair noB) := by
  refine okP F sc_law_is_pair (by rintro ds d ⟨y, a, b, c, e, rfl, rfl⟩; rfl) ?_
  rintro cdv A outer s H Q E ds d G hr ⟨y, a, b, c, e, rfl, rfl⟩ k
  cases hT : isTup y with
  | false => exact go_when (q := true) (Pw.pt (pw_orT ((pt_not (pt_isT B (pv_var 0))).is (by rw [hT]; rfl)))) (fun _ => go_ret (pv_bool.is (by rw [isPair_no hT])) k) (fun h => nomatch h)
  | true =>
    obtain ⟨xs, rfl⟩ := tup_of hT
    by_cases hl : xs.length = 2
    · obtain ⟨u, v, rfl⟩ := list2 hl
      refine go_when (q := false) (Pw.pt (pw_orF ((pt_not (pt_isT B (pv_var 0))).is (by rfl)) (pw_or1 ((pt_neI (pv_len B.len (pv_var 0) rfl) pv_int).is (by rfl))))) (fun h => nomatch h) (fun _ => ?_)
      exact go_ret (pv_and (pv_call Fw hr (pa_cons (pv_ix (pv_var 0) pv_int rfl) (pa_cons (pv_ix (pv_var 1) pv_int rfl) (pa_cons (pv_ix (pv_var 1) pv_int rfl) pa_nil))) ⟨u, a, b, rfl, rfl⟩) fun _ => pv_one (pv_call Fw hr (pa_cons (pv_ix (pv_var 0) pv_int rfl) (pa_cons (pv_ix (pv_var 2) pv_int rfl) (pa_cons (pv_ix (pv_var 2) pv_int rfl) pa_nil))) ⟨v, c, e, rfl, rfl⟩)) k
    · exact go_when (q := true) (Pw.pt (pw_orF ((pt_not (pt_isT B (pv_var 0))).is (by rfl)) (pw_or1 ((pt_neI (pv_len B.len (pv_var 0) rfl) pv_int).is (lenNe hl))))) (fun _ => go_ret (pv_bool.is (by rw [isPair_len hl])) k) (fun h => nomatch h)
theorem ok_lisworld (F : Fun K "_law_is_world" "_law_is_world" s_law_is_world f fd) (B : Bl mg) (Fw : FcIn P w K mg base) : FnOk P w K mg base (L2.CX P w) 2 f fd p_law_is_world (spR K R_is_world noB) := by
  refine okP F sc_law_is_world (by rintro ds d ⟨y, rfl, _, rfl⟩; rfl) ?_
  rintro cdv A outer s H Q E ds d G hr ⟨y, rfl, hsz, rfl⟩ k
  cases hT : isTup y with
  | false =>
    have hw : isWorld y = false := by cases y <;> first | rfl | cases hT
    exact go_when (q := true) (Pw.pt (pw_orT ((pt_not (pt_isT B (pv_var 0))).is (by rw [hT]; rfl)))) (fun _ => go_ret (pv_bool.is (by rw [hw])) k) (fun h => nomatch h)
  | true =>
    obtain ⟨xs, rfl⟩ := tup_of hT
    by_cases hl : xs.length = 3
    · obtain ⟨a, b, t, rfl⟩ := list3 hl
      cases ha : within a 1 5 with
      | false =>
        have hw : isWorld (.tuple [a, b, t]) = false := by cases t <;> first | rfl | (show (within a 1 5 && _ && _) = false; rw [ha]; rfl)
        exact go_when (q := true) (Pw.pt (pw_orF ((pt_not (pt_isT B (pv_var 0))).is (by rfl)) (pw_orF ((pt_neI (pv_len B.len (pv_var 0) rfl) pv_int).is (by rfl)) (pw_orT ((pt_not (pt_val (pv_call Fw hr (pa_cons (pv_ix (pv_var 0) pv_int rfl) (pa_cons pv_int (pa_cons pv_int pa_nil))) ⟨a, 1, 5, rfl, rfl⟩))).is (by rw [ha]; rfl)))))) (fun _ => go_ret (pv_bool.is (by rw [hw])) k) (fun h => nomatch h)
      | true =>
        cases hb : within b 1 3 with
        | false =>
          have hw : isWorld (.tuple [a, b, t]) = false := by cases t <;> first | rfl | (show (within a 1 5 && within b 1 3 && _) = false; rw [ha, hb]; rfl)
          exact go_when (q := true) (Pw.pt (pw_orF ((pt_not (pt_isT B (pv_var 0))).is (by rfl)) (pw_orF ((pt_neI (pv_len B.len (pv_var 0) rfl) pv_int).is (by rfl)) (pw_orF ((pt_not (pt_val (pv_call Fw hr (pa_cons (pv_ix (pv_var 0) pv_int rfl) (pa_cons pv_int (pa_cons pv_int pa_nil))) ⟨a, 1, 5, rfl, rfl⟩))).is (by rw [ha]; rfl)) (pw_or1 ((pt_not (pt_val (pv_call Fw hr (pa_cons (pv_ix (pv_var 0) pv_int rfl) (pa_cons pv_int (pa_cons pv_int pa_nil))) ⟨b, 1, 3, rfl, rfl⟩))).is (by rw [hb]; rfl))))))) (fun _ => go_ret (pv_bool.is (by rw [hw])) k) (fun h => nomatch h)
        | true =>
          refine go_when (q := false) (Pw.pt (pw_orF ((pt_not (pt_isT B (pv_var 0))).is (by rfl)) (pw_orF ((pt_neI (pv_len B.len (pv_var 0) rfl) pv_int).is (by rfl)) (pw_orF ((pt_not (pt_val (pv_call Fw hr (pa_cons (pv_ix (pv_var 0) pv_int rfl) (pa_cons pv_int (pa_cons pv_int pa_nil))) ⟨a, 1, 5, rfl, rfl⟩))).is (by rw [ha]; rfl)) (pw_or1 ((pt_not (pt_val (pv_call Fw hr (pa_cons (pv_ix (pv_var 0) pv_int rfl) (pa_cons pv_int (pa_cons pv_int pa_nil))) ⟨b, 1, 3, rfl, rfl⟩))).is (by rw [hb]; rfl))))))) (fun h => nomatch h) (fun _ => ?_)
          cases hT2 : isTup t with
          | false =>
            have hw : isWorld (.tuple [a, b, t]) = false := by cases t <;> first | rfl | cases hT2
            exact go_when (q := true) ((pt_not (pt_isT B (pv_ix (pv_var 0) pv_int rfl))).is (by rw [hT2]; rfl)) (fun _ => go_ret (pv_bool.is (by rw [hw])) k) (fun h => nomatch h)
          | true =>
            obtain ⟨ks, rfl⟩ := tup_of hT2
            refine go_when (q := false) ((pt_not (pt_isT B (pv_ix (pv_var 0) pv_int rfl))).is (by rfl)) (fun h => nomatch h) (fun _ => ?_)
            have hW : isWorld (.tuple [a, b, .tuple ks]) = keysOk ks := by
              show (within a 1 5 && within b 1 3 && keysOk ks) = keysOk ks
              rw [ha, hb]
              rfl
            have bad : keysOk ks = false → isWorld (.tuple [a, b, .tuple ks]) = false := fun h => hW.trans h
            refine go_for (xs := enumD ks) (enc := Dn.d) (fun i r1 => (∃ o1 o2, r1 = [some (.d (.tuple [a, b, .tuple ks])), o1, o2]) ∧ ∃ ss : List Str, ks.take i = ss.map PyData.str ∧ (∀ k ∈ ss, k ∈ keyNames) ∧ ss.Nodup) (passes_of rfl) rfl (wk_enumT B.enumerate (pv_ix (pv_var 0) pv_int rfl)) ⟨⟨none, none, rfl⟩, [], rfl, by simp, by simp⟩ ?_ ?_
            · rintro G1 H1 g1 i x r1 hx ⟨⟨o1, o2, rfl⟩, ss, hss, hk1, hk2⟩
              obtain ⟨key, hkey, rfl⟩ := enumD_get hx
              refine ⟨_, _, pg_tup rfl (pgs_cons (pg_name 1 sc_law_is_world.nd) (pgs_cons (pg_name 2 sc_law_is_world.nd) pgs_nil)), ?_⟩
              cases hS : isStr key with
              | false =>
                have hno : keysOk ks = false := by
                  cases q : keysOk ks with
                  | false => rfl
                  | true =>
                    unfold keysOk at q
                    cases q2 : strsOf ks with
                    | none => rw [q2] at q; cases q
                    | some ts =>
                      have := strsOf_some q2
                      rw [this, List.getElem?_map] at hkey
                      cases q3 : ts[i]? with
                      | none => rw [q3] at hkey; cases hkey
                      | some z => rw [q3] at hkey; cases hkey; cases hS
                exact go_when (q := true) (Pw.pt (pw_orT ((pt_not (pt_isS B (pv_var 2))).is (by rw [hS]; rfl)))) (fun _ => go_ret (pv_bool.is (by rw [bad hno])) fun v G' H' g' => k v G' H' (g1.trans g')) (fun h => nomatch h)
              | true =>
                obtain ⟨z, rfl⟩ := str_of hS
                have hnext : ks.take (i + 1) = (ss ++ [z]).map PyData.str := by rw [take_succ_of hkey, hss, List.map_append]; rfl
                have hcut : cutD ks none (some (i : Int)) = ss.map PyData.str := cut_to.trans hss
                by_cases hz1 : keyNames.contains z = true
                · by_cases hz2 : ss.contains z = true
                  · have hno : keysOk ks = false := by
                      cases q : keysOk ks with
                      | false => rfl
                      | true =>
                        have := (keysOk_prefix hnext q).2
                        rw [List.nodup_append] at this
                        exact absurd rfl (this.2.2 z (by simpa using hz2) z (by simp))
                    exact go_when (q := true) (Pw.pt (pw_orF ((pt_not (pt_isS B (pv_var 2))).is (by rfl)) (pw_orF ((pt_ninS (ss := keyNames) (pv_var 2) (pv_tup (xs := keyNames.map PyData.str) (pd_cons pv_str (pd_cons pv_str (pd_cons pv_str (pd_cons pv_str pd_nil)))) (by decide))).is (by rw [hz1]; rfl)) (pw_or1 ((pt_inS (ss := ss) (pv_var 2) ((pv_sliceT (pv_ix (pv_var 0) pv_int rfl) po_none (po_some (pv_var 1))).is (by rw [hcut]))).is hz2))))) (fun _ => go_ret (pv_bool.is (by rw [bad hno])) fun v G' H' g' => k v G' H' (g1.trans g')) (fun h => nomatch h)
                  · refine go_when (q := false) (Pw.pt (pw_orF ((pt_not (pt_isS B (pv_var 2))).is (by rfl)) (pw_orF ((pt_ninS (ss := keyNames) (pv_var 2) (pv_tup (xs := keyNames.map PyData.str) (pd_cons pv_str (pd_cons pv_str (pd_cons pv_str (pd_cons pv_str pd_nil)))) (by decide))).is (by rw [hz1]; rfl)) (pw_or1 ((pt_inS (ss := ss) (pv_var 2) ((pv_sliceT (pv_ix (pv_var 0) pv_int rfl) po_none (po_some (pv_var 1))).is (by rw [hcut]))).is (by simpa using hz2)))))) (fun h => nomatch h) (fun _ => ?_)
                    refine go_nil fun σ H2 n2 => ⟨_, ⟨⟨_, _, rfl⟩, ss ++ [z], hnext, fun k hk => ?_, ?_⟩, n2⟩
                    · rcases List.mem_append.mp hk with h | h
                      · exact hk1 k h
                      · simp at h; subst h; simpa using hz1
                    · rw [List.nodup_append]
                      refine ⟨hk2, by simp, fun a ha b hb => ?_⟩
                      simp at hb
                      subst hb
                      intro e
                      subst e
                      exact hz2 (by simpa using ha)
                · have hno : keysOk ks = false := by
                    cases q : keysOk ks with
                    | false => rfl
                    | true => exact absurd (by simpa using (keysOk_prefix hnext q).1 z (by simp)) hz1
                  exact go_when (q := true) (Pw.pt (pw_orF ((pt_not (pt_isS B (pv_var 2))).is (by rfl)) (pw_orT ((pt_ninS (ss := keyNames) (pv_var 2) (pv_tup (xs := keyNames.map PyData.str) (pd_cons pv_str (pd_cons pv_str (pd_cons pv_str (pd_cons pv_str pd_nil)))) (by decide))).is (by rw [Bool.eq_false_iff.mpr hz1]; rfl))))) (fun _ => go_ret (pv_bool.is (by rw [bad hno])) fun v G' H' g' => k v G' H' (g1.trans g')) (fun h => nomatch h)
            · rintro r1 ⟨⟨o1, o2, rfl⟩, ss, hss, hk1, hk2⟩
              rw [enumD_len, List.take_length] at hss
              exact go_ret (pv_bool.is (by rw [hW, keysOk_all hss hk1 hk2])) k
    · have hw : isWorld (.tuple xs) = false := by
        unfold isWorld
        split
        · rename_i q; cases q; exact absurd rfl hl
        · rfl
      exact go_when (q := true) (Pw.pt (pw_orF ((pt_not (pt_isT B (pv_var 0))).is (by rfl)) (pw_orT ((pt_neI (pv_len B.len (pv_var 0) rfl) pv_int).is (lenNe hl))))) (fun _ => go_ret (pv_bool.is (by rw [hw])) k) (fun h => nomatch h)
end
end Fb

namespace Fb
open PySem PySem.Spec PyProof.Rows L2 Evl
theorem isFact_len2 {c r : Int} {xs : List PyData} (h2 : ¬ xs.length = 2) (h4 : ¬ xs.length = 4) : isFact c r (.tuple xs) = false := by
  unfold isFact
  split
  · rename_i q; cases q; exact absurd rfl h2
  · rename_i q; cases q; exact absurd rfl h4
  · rfl
theorem lay_mem {xs : List PyData} (h : PyData.canLay0 (.tuple xs) = true) : ∀ x, x ∈ xs → x.canLay0 = true := fun x hx => PyData.canLay0_of_mem xs x (by simpa only [PyData.canLay0] using h) hx
theorem strOk_sign {z : Str} (h : PyData.strOk z = true) {c : Nat} (hc : c ∈ z.cps.toList) : Good (.str ⟨#[c]⟩) := by
  unfold PyData.strOk at h
  rw [← Array.all_toList, List.all_eq_true] at h
  refine ⟨rfl, ?_, by simp [PyData.depth]⟩
  show PyData.strOk ⟨#[c]⟩ = true
  unfold PyData.strOk
  rw [← Array.all_toList]
  simpa using h c hc
theorem eqv_nil (xs : List PyData) : PyData.eqv (.list xs) (.list []) = xs.isEmpty := by cases xs <;> rfl
section
variable {P : Program} {w : World} {K : PySem.W.Frag} {mg : Str → Option Value} {base : Heap} {f : Addr} {fd : FuncData}
theorem ok_liswish (F : Fun K "_law_is_wish" "_law_is_wish" s_law_is_wish f fd) (B : Bl mg) (Fw : FcIn P w K mg base) : FnOk P w K mg base (L2.CX P w) 2 f fd p_law_is_wish (spR K R_liswish noB) := by
  refine okP F sc_law_is_wish (by rintro ds d ⟨c, r, ks, y, rfl, _, _, rfl⟩; rfl) ?_
  rintro cdv A outer s H Q E ds d G hr ⟨c, r, ks, y, rfl, hsz, hlay, rfl⟩ k
  cases hT : isTup y with
  | false =>
    have hw : isWish r y = false := by cases y <;> first | rfl | cases hT
    exact go_when (q := true) (Pw.pt (pw_orT ((pt_not (pt_isT B (pv_var 1))).is (by rw [hT]; rfl)))) (fun _ => go_ret (pv_bool.is (by rw [hw])) k) (fun h => nomatch h)
  | true =>
    obtain ⟨xs, rfl⟩ := tup_of hT
    by_cases hl : xs.length = 5
    · obtain ⟨a, b, e, l, g, rfl⟩ := list5 hl
      have sa : szOk a = true := (szOk_tup hsz).2 a (by simp)
      cases hS : isStr a with
      | false =>
        have hw : isWish r (.tuple [a, b, e, l, g]) = false := by
          have : isName a = false := by cases a <;> first | rfl | cases hS
          cases l <;> first | rfl | (show (isName a && _ && _) = false; rw [this]; rfl)
        exact go_when (q := true) (Pw.pt (pw_orF ((pt_not (pt_isT B (pv_var 1))).is (by rfl)) (pw_orF ((pt_neI (pv_len B.len (pv_var 1) rfl) pv_int).is (by rfl)) (pw_or1 ((pt_not (pt_isS B (pv_ix (pv_var 1) pv_int rfl))).is (by rw [hS]; rfl)))))) (fun _ => go_ret (pv_bool.is (by rw [hw])) k) (fun h => nomatch h)
      | true =>
        obtain ⟨z, rfl⟩ := str_of hS
        have hzs := szOk_str sa
        have hzl : PyData.strOk z = true := lay_mem hlay (.str z) (by simp)
        refine go_when (q := false) (Pw.pt (pw_orF ((pt_not (pt_isT B (pv_var 1))).is (by rfl)) (pw_orF ((pt_neI (pv_len B.len (pv_var 1) rfl) pv_int).is (by rfl)) (pw_or1 ((pt_not (pt_isS B (pv_ix (pv_var 1) pv_int rfl))).is (by rfl)))))) (fun h => nomatch h) (fun _ => ?_)
        have hN : isName (.str z) = (decide (1 ≤ (z.length : Int)) && decide ((z.length : Int) ≤ 4) && z.cps.toList.all fun c => decide (c ∈ smallTxt.cps.toList)) := rfl
        have hu : (A.deeper (envOfC "_law_is_wish" (defScope s_law_is_wish) s.heap.objs.size f cdv)).units + 64 < cLine := by have := hr.un; omega
        have hzn : z.cps.toList.length ≤ 100000 := by
          have : z.cps.toList.length = z.length := by simp [Str.length]
          omega
        have hsg : ∀ x, x ∈ (z.cps.toList.filter fun c => !decide (c ∈ smallTxt.cps.toList)).map (fun c => PyData.str ⟨#[c]⟩) → Good x := fun x hx => by
          obtain ⟨c, hc, rfl⟩ := List.mem_map.mp hx
          exact strOk_sign hzl (List.mem_filter.mp hc).1
        refine go_when (q := !isName (.str z)) (Pw.pt (Pw.is (pw_or (pt_not (pt_le_le pv_int (pv_len B.len (pv_ix (pv_var 1) pv_int rfl) rfl (strOk_sz sa)) pv_int)) fun _ => pw_or1 (pt_ne hu (pv_lc [("sign", 2)] (fun c : Nat => !decide (c ∈ smallTxt.cps.toList)) (fun c => .str ⟨#[c]⟩) (fun u => [some (.d (wD c r ks)), some (.d (.tuple [.str z, b, e, l, g])), some (.d (.str ⟨#[u]⟩))]) rfl sc_law_is_wish.nd (wk_str (pv_ix (pv_var 1) pv_int rfl)) (blkOk_by (N := n_law_is_wish) (sc := defScope s_law_is_wish) (by decide +kernel)) (fun y _ s H C cl fp => pg_name 2 sc_law_is_wish.nd) (fun y hy s H C cl fp => pts_one (pt_nin1 (pv_var 2) pv_str)) (fun y hy _ s H C cl fp => pv_var 2) hzn (by simp) (fun _ _ => rfl)) (pv_lst (xs := []) pd_nil) (good_list hsg) rfl)) (by
            rw [eqv_nil, hN, map_isEmpty, filter_nil_iff]
            simp only [Bool.not_not]
            cases decide (1 ≤ (z.length : Int)) && decide ((z.length : Int) ≤ 4) <;> rfl))) (fun hq => ?_) (fun hq => ?_)
        · have ha : isName (.str z) = false := by simpa using hq
          have hw : isWish r (.tuple [.str z, b, e, l, g]) = false := by cases l <;> first | rfl | (show (isName (.str z) && _ && _) = false; rw [ha]; rfl)
          exact go_ret (pv_bool.is (by rw [hw])) k
        · have ha : isName (.str z) = true := by simpa using hq
          cases hL : within l 1 6 with
          | false =>
            have hw : isWish r (.tuple [.str z, b, e, l, g]) = false := by cases l <;> first | rfl | (rename_i i; show (isName (.str z) && (decide (1 ≤ i) && decide (i ≤ 6)) && _) = false; rw [show (decide (1 ≤ i) && decide (i ≤ 6)) = false from hL, Bool.and_false]; rfl)
            exact go_when (q := true) (Pw.pt (pw_orT ((pt_not (pt_val (pv_call Fw hr (pa_cons (pv_ix (pv_var 1) pv_int rfl) (pa_cons pv_int (pa_cons pv_int pa_nil))) ⟨l, 1, 6, rfl, rfl⟩))).is (by rw [hL]; rfl)))) (fun _ => go_ret (pv_bool.is (by rw [hw])) k) (fun h => nomatch h)
          | true =>
            obtain ⟨i, rfl, i1, i2⟩ := within_int hL
            have hW : isWish r (.tuple [.str z, b, e, .int i, g]) = (within b 0 (r - 1) && within e 0 (24 - i) && within g 0 9) := by
              show (isName (.str z) && (decide (1 ≤ i) && decide (i ≤ 6)) && (isPlace r i b e && within g 0 9)) = _
              rw [ha, decide_eq_true i1, decide_eq_true i2]
              rfl
            cases hE : within e 0 (24 - i) with
            | false =>
              have hw : isWish r (.tuple [.str z, b, e, .int i, g]) = false := by rw [hW, hE, Bool.and_false]; rfl
              exact go_when (q := true) (Pw.pt (pw_orF ((pt_not (pt_val (pv_call Fw hr (pa_cons (pv_ix (pv_var 1) pv_int rfl) (pa_cons pv_int (pa_cons pv_int pa_nil))) ⟨.int i, 1, 6, rfl, rfl⟩))).is (by rw [hL]; rfl)) (pw_or1 ((pt_not (pt_val (pv_call Fw hr (pa_cons (pv_ix (pv_var 1) pv_int rfl) (pa_cons pv_int (pa_cons (pv_sub pv_int (pv_ix (pv_var 1) pv_int rfl)) pa_nil))) ⟨e, 0, 24 - i, rfl, rfl⟩))).is (by rw [hE]; rfl))))) (fun _ => go_ret (pv_bool.is (by rw [hw])) k) (fun h => nomatch h)
            | true =>
              refine go_when (q := false) (Pw.pt (pw_orF ((pt_not (pt_val (pv_call Fw hr (pa_cons (pv_ix (pv_var 1) pv_int rfl) (pa_cons pv_int (pa_cons pv_int pa_nil))) ⟨.int i, 1, 6, rfl, rfl⟩))).is (by rw [hL]; rfl)) (pw_or1 ((pt_not (pt_val (pv_call Fw hr (pa_cons (pv_ix (pv_var 1) pv_int rfl) (pa_cons pv_int (pa_cons (pv_sub pv_int (pv_ix (pv_var 1) pv_int rfl)) pa_nil))) ⟨e, 0, 24 - i, rfl, rfl⟩))).is (by rw [hE]; rfl))))) (fun h => nomatch h) (fun _ => ?_)
              refine go_ret ((pv_and (pv_call Fw hr (pa_cons (pv_ix (pv_var 1) pv_int rfl) (pa_cons pv_int (pa_cons (pv_sub (pv_ix (pv_var 0) pv_int rfl) pv_int) pa_nil))) ⟨b, 0, r - 1, rfl, rfl⟩) fun _ => pv_one (pv_call Fw hr (pa_cons (pv_ix (pv_var 1) pv_int rfl) (pa_cons pv_int (pa_cons pv_int pa_nil))) ⟨g, 0, 9, rfl, rfl⟩)).is ?_) k
              rw [hW, hE, Bool.and_true]
    · have hw := isWish_len (r := r) hl
      exact go_when (q := true) (Pw.pt (pw_orF ((pt_not (pt_isT B (pv_var 1))).is (by rfl)) (pw_orT ((pt_neI (pv_len B.len (pv_var 1) rfl) pv_int).is (lenNe hl))))) (fun _ => go_ret (pv_bool.is (by rw [hw])) k) (fun h => nomatch h)
abbrev FcPair (P : Program) (w : World) (K : PySem.W.Frag) (mg : Str → Option Value) (base : Heap) : Prop := Fc P w K mg base 2 "_law_is_pair" (spR K R_lpair noB)
abbrev FcLiw (P : Program) (w : World) (K : PySem.W.Frag) (mg : Str → Option Value) (base : Heap) : Prop := Fc P w K mg base 2 "_law_is_wish" (spR K R_liswish noB)
theorem ok_lisfact (F : Fun K "_law_is_fact" "_law_is_fact" s_law_is_fact f fd) (B : Bl mg) (Fp : FcPair P w K mg base) (Fi : FcLiw P w K mg base) : FnOk P w K mg base (L2.CX P w) 3 f fd p_law_is_fact (spR K R_lisfact noB) := by
  refine okP F sc_law_is_fact (by rintro ds d ⟨c, r, ks, y, rfl, _, _, rfl⟩; rfl) ?_
  rintro cdv A outer s H Q E ds d G hr ⟨c, r, ks, y, rfl, hsz, hlay, rfl⟩ k
  cases hT : isTup y with
  | false =>
    have hw : isFact c r y = false := by cases y <;> first | rfl | cases hT
    exact go_when (q := true) (Pw.pt (pw_orT ((pt_not (pt_isT B (pv_var 1))).is (by rw [hT]; rfl)))) (fun _ => go_ret (pv_bool.is (by rw [hw])) k) (fun h => nomatch h)
  | true =>
    obtain ⟨xs, rfl⟩ := tup_of hT
    by_cases hl : xs.length < 2
    · have hw : isFact c r (.tuple xs) = false := isFact_len2 (by omega) (by omega)
      exact go_when (q := true) (Pw.pt (pw_orF ((pt_not (pt_isT B (pv_var 1))).is (by rfl)) (pw_orT ((pt_lt (pv_len B.len (pv_var 1) rfl) pv_int).is (decide_eq_true (by omega)))))) (fun _ => go_ret (pv_bool.is (by rw [hw])) k) (fun h => nomatch h)
    · obtain ⟨a, q, rest, rfl⟩ : ∃ a q rest, xs = a :: q :: rest := by
        match xs, hl with
        | [], h => exact absurd (by simp) h
        | [_], h => exact absurd (by simp) h
        | a :: q :: rest, _ => exact ⟨a, q, rest, rfl⟩
      cases hS : isStr a with
      | false =>
        have hw : isFact c r (.tuple (a :: q :: rest)) = false := by
          unfold isFact
          split
          · rename_i z; cases z; cases hS
          · rename_i z; cases z; cases hS
          · rfl
        exact go_when (q := true) (Pw.pt (pw_orF ((pt_not (pt_isT B (pv_var 1))).is (by rfl)) (pw_orF ((pt_lt (pv_len B.len (pv_var 1) rfl) pv_int).is (decide_eq_false (by simp; omega))) (pw_or1 ((pt_not (pt_isS B (pv_ix (pv_var 1) pv_int (ix_zero _ _)))).is (by rw [hS]; rfl)))))) (fun _ => go_ret (pv_bool.is (by rw [hw])) k) (fun h => nomatch h)
      | true =>
        obtain ⟨z, rfl⟩ := str_of hS
        refine go_when (q := false) (Pw.pt (pw_orF ((pt_not (pt_isT B (pv_var 1))).is (by rfl)) (pw_orF ((pt_lt (pv_len B.len (pv_var 1) rfl) pv_int).is (decide_eq_false (by simp; omega))) (pw_or1 ((pt_not (pt_isS B (pv_ix (pv_var 1) pv_int (ix_zero _ _)))).is (by rfl)))))) (fun h => nomatch h) (fun _ => ?_)
        cases hb : isBooking c q with
        | false =>
          have hw : isFact c r (.tuple (.str z :: q :: rest)) = false := by
            by_cases h2 : (PyData.str z :: q :: rest).length = 2
            · obtain rfl : rest = [] := List.eq_nil_of_length_eq_zero (by simpa using h2)
              rw [fact2, hb, Bool.and_false]
            · by_cases h4 : (PyData.str z :: q :: rest).length = 4
              · obtain ⟨m, t, rfl⟩ := list2 (xs := rest) (by simpa using h4)
                rw [fact4, hb]
                rfl
              · exact isFact_len2 h2 h4
          exact go_when (q := true) ((pt_not (pt_val (pv_call Fp hr (pa_cons (pv_ix (pv_var 1) pv_int (ix_one _ _ _)) (pa_cons (pv_tup (pd_cons pv_int (pd_cons (pv_sub (pv_ix (pv_var 0) pv_int rfl) pv_int) pd_nil))) (pa_cons (pv_tup (pd_cons pv_int (pd_cons pv_int pd_nil))) pa_nil))) ⟨q, 0, c - 1, 0, 11, rfl, rfl⟩))).is (by rw [← booking_pair, hb]; rfl)) (fun _ => go_ret (pv_bool.is (by rw [hw])) k) (fun h => nomatch h)
        | true =>
          refine go_when (q := false) ((pt_not (pt_val (pv_call Fp hr (pa_cons (pv_ix (pv_var 1) pv_int (ix_one _ _ _)) (pa_cons (pv_tup (pd_cons pv_int (pd_cons (pv_sub (pv_ix (pv_var 0) pv_int rfl) pv_int) pd_nil))) (pa_cons (pv_tup (pd_cons pv_int (pd_cons pv_int pd_nil))) pa_nil))) ⟨q, 0, c - 1, 0, 11, rfl, rfl⟩))).is (by rw [← booking_pair, hb]; rfl)) (fun h => nomatch h) (fun _ => ?_)
          by_cases hoff : z = "off"
          · subst hoff
            refine go_when (q := true) ((pt_eqS (pv_ix (pv_var 1) pv_int (ix_zero _ _)) pv_str).is (by decide +kernel)) (fun _ => ?_) (fun h => nomatch h)
            refine go_ret ((pv_eqI (pv_len B.len (pv_var 1) rfl) pv_int).is ?_) k
            by_cases h2 : rest = []
            · subst h2
              rw [fact2, hb, show decide (("off" : Str) = "off") = true from by decide +kernel]
              rfl
            · have e1 : ¬ ((PyData.str "off" :: q :: rest).length : Int) = 2 := by
                have : rest.length ≠ 0 := fun z => h2 (List.eq_nil_of_length_eq_zero z)
                simp only [List.length_cons]
                omega
              rw [decide_eq_false e1]
              have hw : isFact c r (.tuple (.str "off" :: q :: rest)) = false := by
                by_cases h4 : (PyData.str "off" :: q :: rest).length = 4
                · obtain ⟨m, t, rfl⟩ := list2 (xs := rest) (by simpa using h4)
                  rw [fact4, show decide (("off" : Str) = "wish") = false from by decide +kernel, show decide (("off" : Str) = "pin") = false from by decide +kernel, Bool.false_and, Bool.false_and, Bool.or_false, Bool.and_false]
                · exact isFact_len2 (fun z => e1 (by rw [z]; rfl)) h4
              rw [hw]
          · refine go_when (q := false) ((pt_eqS (pv_ix (pv_var 1) pv_int (ix_zero _ _)) pv_str).is (decide_eq_false hoff)) (fun h => nomatch h) (fun _ => ?_)
            cases hin : ([("wish" : Str), "pin"]).contains z with
            | false =>
              have hz1 : ¬ z = "wish" := fun e => by subst e; revert hin; decide +kernel
              have hz2 : ¬ z = "pin" := fun e => by subst e; revert hin; decide +kernel
              have hw : isFact c r (.tuple (.str z :: q :: rest)) = false := by
                by_cases h2 : (PyData.str z :: q :: rest).length = 2
                · obtain rfl : rest = [] := List.eq_nil_of_length_eq_zero (by simpa using h2)
                  rw [fact2, decide_eq_false hoff, Bool.false_and]
                · by_cases h4 : (PyData.str z :: q :: rest).length = 4
                  · obtain ⟨m, t, rfl⟩ := list2 (xs := rest) (by simpa using h4)
                    rw [fact4, decide_eq_false hz1, decide_eq_false hz2, Bool.false_and, Bool.false_and, Bool.or_false, Bool.and_false]
                  · exact isFact_len2 h2 h4
              exact go_when (q := true) (Pw.pt (pw_orT ((pt_ninS (ss := ["wish", "pin"]) (pv_ix (pv_var 1) pv_int (ix_zero _ _)) (pv_tup (pd_cons pv_str (pd_cons pv_str pd_nil)))).is (by rw [hin]; rfl)))) (fun _ => go_ret (pv_bool.is (by rw [hw])) k) (fun h => nomatch h)
            | true =>
              have hzz : z = "wish" ∨ z = "pin" := by simpa using hin
              by_cases h4 : (PyData.str z :: q :: rest).length = 4
              · obtain ⟨m, t, rfl⟩ := list2 (xs := rest) (by simpa using h4)
                have st : szOk t = true := (szOk_tup hsz).2 t (by simp)
                have lt : t.canLay0 = true := lay_mem hlay t (by simp)
                cases hm : isMoment c m with
                | false =>
                  have hw : isFact c r (.tuple [.str z, q, m, t]) = false := by rw [fact4, hm, Bool.and_false]; rfl
                  exact go_when (q := true) (Pw.pt (pw_orF ((pt_ninS (ss := ["wish", "pin"]) (pv_ix (pv_var 1) pv_int (ix_zero _ _)) (pv_tup (pd_cons pv_str (pd_cons pv_str pd_nil)))).is (by rw [hin]; rfl)) (pw_orF ((pt_neI (pv_len B.len (pv_var 1) rfl) pv_int).is (by rfl)) (pw_or1 ((pt_not (pt_val (pv_call Fp hr (pa_cons (pv_ix (pv_var 1) pv_int rfl) (pa_cons (pv_tup (pd_cons pv_int (pd_cons pv_int pd_nil))) (pa_cons (pv_tup (pd_cons pv_int (pd_cons (pv_sub (pv_ix (pv_var 0) pv_int rfl) pv_int) pd_nil))) pa_nil))) ⟨m, 1, 9999, 0, c - 1, rfl, rfl⟩))).is (by rw [← moment_pair, hm]; rfl)))))) (fun _ => go_ret (pv_bool.is (by rw [hw])) k) (fun h => nomatch h)
                | true =>
                  refine go_when (q := false) (Pw.pt (pw_orF ((pt_ninS (ss := ["wish", "pin"]) (pv_ix (pv_var 1) pv_int (ix_zero _ _)) (pv_tup (pd_cons pv_str (pd_cons pv_str pd_nil)))).is (by rw [hin]; rfl)) (pw_orF ((pt_neI (pv_len B.len (pv_var 1) rfl) pv_int).is (by rfl)) (pw_or1 ((pt_not (pt_val (pv_call Fp hr (pa_cons (pv_ix (pv_var 1) pv_int rfl) (pa_cons (pv_tup (pd_cons pv_int (pd_cons pv_int pd_nil))) (pa_cons (pv_tup (pd_cons pv_int (pd_cons (pv_sub (pv_ix (pv_var 0) pv_int rfl) pv_int) pd_nil))) pa_nil))) ⟨m, 1, 9999, 0, c - 1, rfl, rfl⟩))).is (by rw [← moment_pair, hm]; rfl)))))) (fun h => nomatch h) (fun _ => ?_)
                  rcases hzz with rfl | rfl
                  · refine go_when (q := false) ((pt_eqS (pv_ix (pv_var 1) pv_int (ix_zero _ _)) pv_str).is (by decide +kernel)) (fun h => nomatch h) (fun _ => ?_)
                    obtain ⟨i, j, rfl, _⟩ := booking_int hb
                    obtain ⟨m0, m1, rfl⟩ : ∃ m0 m1, m = .tuple [.int m0, .int m1] := by
                      unfold isMoment at hm
                      split at hm
                      · rw [Bool.and_eq_true] at hm
                        obtain ⟨i, rfl, _⟩ := within_int hm.1
                        obtain ⟨j, rfl, _⟩ := within_int hm.2
                        exact ⟨i, j, rfl⟩
                      · cases hm
                    refine go_ret ((pv_and (pv_eqI (pv_ix (pv_ix (pv_var 1) pv_int rfl) pv_int rfl) (pv_ix (pv_ix (pv_var 1) pv_int rfl) pv_int rfl)) fun _ => pv_one (pv_call Fi hr (pa_cons (pv_var 0) (pa_cons (pv_ix (pv_var 1) pv_int rfl) pa_nil)) ⟨c, r, ks, t, rfl, st, lt, rfl⟩)).is ?_) k
                    rw [fact4, hb, hm, show decide (("wish" : Str) = "wish") = true from by decide +kernel, show decide (("wish" : Str) = "pin") = false from by decide +kernel, Bool.false_and, Bool.or_false, Bool.true_and, Bool.true_and]
                    show Dn.d (.bool (decide (m1 = i) && isWish r t)) = Dn.d (.bool (true && (isWish r t && decide (m1 = i))))
                    rw [Bool.true_and, Bool.and_comm]
                  · refine go_when (q := true) ((pt_eqS (pv_ix (pv_var 1) pv_int (ix_zero _ _)) pv_str).is (by decide +kernel)) (fun _ => ?_) (fun h => nomatch h)
                    refine go_ret ((pv_call Fp hr (pa_cons (pv_ix (pv_var 1) pv_int rfl) (pa_cons (pv_tup (pd_cons pv_int (pd_cons (pv_sub (pv_ix (pv_var 0) pv_int rfl) pv_int) pd_nil))) (pa_cons (pv_tup (pd_cons pv_int (pd_cons pv_int pd_nil))) pa_nil))) ⟨t, 0, r - 1, 0, 23, rfl, rfl⟩).is ?_) k
                    rw [fact4, hb, hm, show decide (("pin" : Str) = "pin") = true from by decide +kernel, show decide (("pin" : Str) = "wish") = false from by decide +kernel, Bool.false_and, Bool.false_or, Bool.true_and, Bool.true_and, ← spot_pair]
                    rfl
              · have hw : isFact c r (.tuple (.str z :: q :: rest)) = false := by
                  by_cases h2 : (PyData.str z :: q :: rest).length = 2
                  · obtain rfl : rest = [] := List.eq_nil_of_length_eq_zero (by simpa using h2)
                    rw [fact2, decide_eq_false hoff, Bool.false_and]
                  · exact isFact_len2 h2 h4
                exact go_when (q := true) (Pw.pt (pw_orF ((pt_ninS (ss := ["wish", "pin"]) (pv_ix (pv_var 1) pv_int (ix_zero _ _)) (pv_tup (pd_cons pv_str (pd_cons pv_str pd_nil)))).is (by rw [hin]; rfl)) (pw_orT ((pt_neI (pv_len B.len (pv_var 1) rfl) pv_int).is (lenNe h4))))) (fun _ => go_ret (pv_bool.is (by rw [hw])) k) (fun h => nomatch h)
end
end Fb

namespace Fb
open PySem PySem.Spec PyProof.Rows L2 Evl
/-! ### _law_refusal -/
/-- which class an except clause names: the five of _law_refusal -/
structure Xm (K : PySem.W.Frag) (CW CC CB CF CN : Addr) : Prop where
  ww : PySem.W.exmOne K (.ref CW) (.ref CW) = some true
  cw : PySem.W.exmOne K (.ref CC) (.ref CW) = some false
  cc : PySem.W.exmOne K (.ref CC) (.ref CC) = some true
  bw : PySem.W.exmOne K (.ref CB) (.ref CW) = some false
  bc : PySem.W.exmOne K (.ref CB) (.ref CC) = some false
  bb : PySem.W.exmOne K (.ref CB) (.ref CB) = some true
  fw : PySem.W.exmOne K (.ref CF) (.ref CW) = some false
  fc : PySem.W.exmOne K (.ref CF) (.ref CC) = some false
  fb : PySem.W.exmOne K (.ref CF) (.ref CB) = some false
  ff : PySem.W.exmOne K (.ref CF) (.ref CF) = some true
theorem h_word (i : Nat) {X : Cx} {y : Str} {word : Str} {j : Nat} {p1 p2 p3 : Pos} {rest : List Stmt} {D : Ends} {G H : Hp} {r : Rho} {σ : L2.St} {a : Addr} {cls : Value} {d : Option Addr} (hN : X.N.Nodup) (g : Ex G H) (n : En X.K G σ r) (k : Go X rest D G H (r.set i (some (.d (.str word))))) (hi : X.N[i]? = some y := by rfl) (hx : Loc X.env.scope y := by first | exact Or.inl rfl | exact Or.inr rfl)
    (hs : ∀ (oe : Obj) pn, swapsWith (.Constant (.str word) j p2) (some (.Name y p1)) p3.line (X.suite a ((a, oe) :: pn)).env = pure false := by intro _ _; rfl) (hf : ∀ (oe : Obj) pn, (X.suite a ((a, oe) :: pn)).fn y = true ∨ X.env.scope.names.lookup y = some .local := by first | exact fun _ _ => .inl rfl | exact fun _ _ => .inr rfl) :
    hTs X [.Assign [.Name y p1] (.Constant (.str word) j p2) p3] a cls d { D with nx := wSs X rest D } σ H := fun oe pn _ =>
  (go_set (X := X.suite a ((a, oe) :: pn)) i pv_str (go_nil fun σ2 H2 ⟨G2, g2, n2⟩ => k σ2 G2 H2 g2 n2) hN hi hx (hs oe pn) (hf oe pn)) σ G H (Gr.refl g) n
theorem made_gr {G H G2 H2 G3 H3 : Hp} {q dx C : Addr} (g : Gr G H G2 H2) (nq : H2 q = none) (nd : H2 dx = none) (k3 : Gx [q] G2 (upd (upd H2 dx (.own q)) q (.ins C dx [])) G3 H3) : Gr G H G3 H3 := by
  refine ⟨g.g.trans k3.g, k3.s, fun a o h => ?_, fun a h1 h2 => ?_⟩
  · have h' := g.h a o h
    have n1 : a ≠ q := fun z => by rw [z, nq] at h'; cases h'
    have n2 : a ≠ dx := fun z => by rw [z, nd] at h'; cases h'
    refine k3.h a o (by simpa using n1) ?_
    rw [upd_ne n1, upd_ne n2]
    exact h'
  · cases z : G2 a with
    | some o => exact g.f a h1 (some_ne z)
    | none =>
      have h3 := k3.f a z h2
      have n1 : a ≠ q := fun z => by rw [z, upd_same] at h3; cases h3
      have n2 : a ≠ dx := fun z => by rw [upd_ne n1, z, upd_same] at h3; cases h3
      rw [upd_ne n1, upd_ne n2] at h3
      exact fresh_back g.h h3
def refWord0 (wd md : PyData) : Str := match wd with
  | .tuple [.int c, _, _] => if isWorld wd = true then (if within md 0 (c - 1) = true then "" else "copy") else "world"
  | _ => "world"
def R_ref0 : List Dn → Dn → Prop := fun ds d => ∃ wd md, ds = [.d (.int 0), .d wd, .d md, .d .none] ∧ szOk wd = true ∧ d = .d (.str (refWord0 wd md))
def spF1 (K : PySem.W.Frag) (C : Addr) : Sp := fun vs H Q _ => ∃ (p l sd : Addr) (b : Bk) (wv tv : V) (y : PyData) (G : Hp), vs = [.int 1, wv, .ref p, tv] ∧ Ex G H ∧ CopyAt K C G H p l sd b ∧ Dp K G tv y ∧ szOk y = true ∧
  (isWish b.r y = false → ∀ G' H', Gr G H G' H' → Q (.str "wish") H') ∧
  (isWish b.r y = true → b.own ≠ 12 ∧ Good (.tuple [.str "wish", .tuple [.int b.mine, .int b.own], .tuple [.int (b.clock + 1), .int b.mine], y]) ∧ BkOk b 9000 ∧ ∀ G' H' sd', Gx [p, l, sd] G H G' H' → (sd' = sd ∨ H sd' = none) → CopyAt K C G' H' p l sd' (b.wish y) → Q (.str "") H')
def spF2 (K : PySem.W.Frag) (C : Addr) : Sp := fun vs H Q _ => ∃ (p l sd : Addr) (b : Bk) (wv tv : V) (y : PyData) (G : Hp), vs = [.int 2, wv, .ref p, tv] ∧ Ex G H ∧ CopyAt K C G H p l sd b ∧ Dp K G tv y ∧ szOk y = true ∧
  (areFacts b.c b.r y = false → ∀ G' H', Gr G H G' H' → Q (.str "facts") H') ∧
  (∀ fs, y = .tuple fs → areFacts b.c b.r y = true → ∃ n, BkOk b n ∧ n + fs.length ≤ 9000 ∧ ∀ G' H' sd', Gx [p, l, sd] G H G' H' → (sd' = sd ∨ H sd' = none) → CopyAt K C G' H' p l sd' (fs.foldl Bk.hear b) → Q (.str "") H')
section
variable {P : Program} {w : World} {K : PySem.W.Frag} {mg : Str → Option Value} {base : Heap} {f : Addr} {fd : FuncData} {C CW CC CF CB CN CU : Addr}
abbrev FkCopy (P : Program) (w : World) (K : PySem.W.Frag) (mg : Str → Option Value) (base : Heap) (C CW CC : Addr) : Prop := Fk P w K mg base 4 C "Copy" (spI K C CW CC)
abbrev FmWish (P : Program) (w : World) (K : PySem.W.Frag) (mg : Str → Option Value) (base : Heap) (C CB CU : Addr) : Prop := Fm P w K mg base 5 C "wish" (spM K C R_wish (B_wish CB CU))
abbrev FmHeard (P : Program) (w : World) (K : PySem.W.Frag) (mg : Str → Option Value) (base : Heap) (C CF : Addr) : Prop := Fm P w K mg base 6 C "heard" (spM K C R_heard (B_heard CF))
theorem ok_ref0 (F : Fun K "_law_refusal" "_law_refusal" s_law_refusal f fd) (Fk0 : FkCopy P w K mg base C CW CC) (TW : Ec K mg "BadWorld" CW) (TC : Ec K mg "BadCopy" CC) (TB : Ec K mg "BadWish" CB) (TF : Ec K mg "BadFacts" CF) (TN : Ec K mg "NoBooking" CN) (M : Xm K CW CC CB CF CN) : FnOk P w K mg base (L2.CX P w) 7 f fd p_law_refusal (spR K R_ref0 noB) := by
  refine okP F sc_law_refusal (by rintro ds d ⟨wd, md, rfl, _, rfl⟩; rfl) ?_
  rintro cdv A outer s H Q E ds d G hr ⟨wd, md, rfl, hsz, rfl⟩ k
  refine go_set 4 pv_str ?_ sc_law_refusal.nd
  refine go_try (Wout := fun _ _ _ _ => False) takes_none5 (hd_cons ⟨rfl, by decide, .inl TW.gP⟩ (hd_cons ⟨rfl, by decide, .inl TC.gP⟩ (hd_cons ⟨rfl, by decide, .inl TB.gP⟩ (hd_cons ⟨rfl, by decide, .inl TF.gP⟩ (hd_cons ⟨rfl, by decide, .inl TN.gP⟩ .nil))))) fun pn xe tk => ?_
  refine go_if (q := true) ((pt_eqI (pv_var 0) pv_int).is (by rfl)) (fun _ => ?_) (fun h => nomatch h)
  refine gx_expr fun G1 H1 g1 => fx_make Fk0 hr tk (fa_pa g1.s (pa_cons (pv_var 1) (pa_cons (pv_var 2) pa_nil)) fun vs G2 H2 g2 q2 => ?_)
  obtain ⟨v1, v2, rfl, d1, d2⟩ := dens2 q2
  intro q dx nq nd ne
  have e2 : Ex G2 (upd (upd H2 dx (.own q)) q (.ins C dx [])) := (g2.s.trans (Ex.new nd)).mut (fresh_back g2.s nq)
  have gq : G2 q = none := fresh_back g2.s nq
  have g12 := g1.trans g2
  have baseX : ∀ G3 H3, Gx [q] G2 (upd (upd H2 dx (.own q)) q (.ins C dx [])) G3 H3 → Gr G H G3 H3 := fun G3 H3 k3 => made_gr g12 nq nd k3
  have base2 : ∀ G3 H3, Gr G2 (upd (upd H2 dx (.own q)) q (.ins C dx [])) G3 H3 → Gr G H G3 H3 := fun G3 H3 k3 => baseX G3 H3 k3.x
  refine ⟨q, dx, v1, v2, wd, md, G2, rfl, e2, gq, upd_same, d1, d2, hsz, fun hW G3 H3 g3 => ?_, fun c r ks hwd hW hM G3 H3 g3 => ?_, fun c r ks i hwd hW hmd hM G3 H3 l sd x3 fl fs A3 => ?_⟩
  · refine fun σ n => many_hit M.ww fun a _ => h_word 4 sc_law_refusal.nd g3.s (n.up g3.g) ?_
    refine go_ret (pv_var 4) fun v G4 H4 g4 q4 => k v G4 H4 ((base2 G3 H3 g3).trans g4) ?_
    have e : refWord0 wd md = "world" := by
      unfold refWord0
      split
      · rw [if_neg (by rw [hW]; exact Bool.false_ne_true)]
      · rfl
    rw [e]
    exact q4
  · refine fun σ n => many_miss M.cw (many_hit M.cc fun a _ => h_word 4 sc_law_refusal.nd g3.s (n.up g3.g) ?_)
    refine go_ret (pv_var 4) fun v G4 H4 g4 q4 => k v G4 H4 ((base2 G3 H3 g3).trans g4) ?_
    have e : refWord0 wd md = "copy" := by
      subst hwd
      show (if isWorld (wD c r ks) = true then (if within md 0 (c - 1) = true then ("" : Str) else "copy") else "world") = ("copy" : Str)
      rw [if_pos hW, if_neg (by rw [hM]; exact Bool.false_ne_true)]
    rw [e]
    exact q4
  · refine ⟨rfl, G3, x3.g, x3.s, go_nil fun σ H4 ⟨G4, g4, n4⟩ => ?_⟩
    have e : refWord0 wd md = "" := by
      subst hwd
      show (if isWorld (wD c r ks) = true then (if within md 0 (c - 1) = true then ("" : Str) else "copy") else "world") = ("" : Str)
      rw [if_pos hW, if_pos hM]
    refine wSs_of pss_nil ((go_ret (G0 := G4) (H0 := H4) (pv_var 4) fun v G5 H5 g5 q5 => k v G5 H5 (((baseX G3 H3 x3).trans g4).trans g5) ?_) σ G4 H4 (Gr.refl g4.s) n4)
    rw [e]
    exact q5
theorem ok_ref1 (F : Fun K "_law_refusal" "_law_refusal" s_law_refusal f fd) (T : Tc K C) (Fm1 : FmWish P w K mg base C CB CU) (TW : Ec K mg "BadWorld" CW) (TC : Ec K mg "BadCopy" CC) (TB : Ec K mg "BadWish" CB) (TF : Ec K mg "BadFacts" CF) (TN : Ec K mg "NoBooking" CN) (M : Xm K CW CC CB CF CN) : FnOk P w K mg base (L2.CX P w) 7 f fd p_law_refusal (spF1 K C) := by
  refine F.okX sc_law_refusal ?_ (fun cdv A outer s H vs Q E hr h => ⟨_, pss_w, ?_⟩)
  · rintro vs H Q E ⟨p, l, sd, b, wv, tv, y, G, rfl, _⟩
    rfl
  obtain ⟨p, l, sd, b, wv, tv, y, G, rfl, g, A1, hy, hsz, kF, kT⟩ := h
  have hD : Dens K G [.int 1, wv, .ref p, tv] [.d (.int 1), .v wv, .v (.ref p), .d y] := .cons (Dp.int 1) (.cons (show Den K G wv (.v wv) from rfl) (.cons (show Den K G (.ref p) (.v (.ref p)) from rfl) (.cons hy .nil)))
  refine go_in g hD ?_
  refine go_set 4 pv_str ?_ sc_law_refusal.nd
  refine go_try (Wout := fun _ _ _ _ => False) takes_none5 (hd_cons ⟨rfl, by decide, .inl TW.gP⟩ (hd_cons ⟨rfl, by decide, .inl TC.gP⟩ (hd_cons ⟨rfl, by decide, .inl TB.gP⟩ (hd_cons ⟨rfl, by decide, .inl TF.gP⟩ (hd_cons ⟨rfl, by decide, .inl TN.gP⟩ .nil))))) fun pn xe tk => ?_
  refine go_if (q := false) ((pt_eqI (pv_var 0) pv_int).is (by rfl)) (fun h => nomatch h) (fun _ => ?_)
  refine go_if (q := true) ((pt_eqI (pv_var 0) pv_int).is (by rfl)) (fun _ => ?_) (fun h => nomatch h)
  refine gx_expr fun G1 H1 g1 => fx_meth Fm1 T.cl hr tk g1.s (pv_var 2) fun G2 H2 g2 => ?_
  have A2 := (A1.up g1).up g2
  obtain ⟨dx2, wv2, fvs2, h2, _⟩ := A2.setL
  refine ⟨dx2, _, h2, bf_no _ _ _ _ (by decide +kernel), fa_pa g2.s (pa_cons (pv_var 3) pa_nil) fun vs G3 H3 g3 q3 => ?_⟩
  obtain ⟨v3, rfl, q3v⟩ := dens1 q3
  have A3 := A2.up g3
  have g13 := (g1.trans g2).trans g3
  cases hw : isWish b.r y with
  | false =>
    refine ⟨p, l, sd, b, [v3], [y], G3, rfl, g3.s, A3, (.cons q3v .nil), .inr ⟨CB, ⟨y, rfl, hsz, .inl ⟨hw, rfl⟩⟩, fun G4 H4 g4 => ?_⟩⟩
    refine fun σ n => many_miss M.bw (many_miss M.bc (many_hit M.bb fun a _ => h_word 4 sc_law_refusal.nd g4.s (n.up g4.g) ?_))
    exact go_ret (pv_var 4) fun v G5 H5 g5 q5 => by
      rw [den_str q5]
      exact kF hw G5 H5 ((g13.trans g4).trans g5)
  | true =>
    obtain ⟨k1, k2, k3, k4⟩ := kT hw
    refine ⟨p, l, sd, b, [v3], [y], G3, rfl, g3.s, A3, (.cons q3v .nil), .inl ⟨_, _, ⟨y, rfl, hsz, hw, k1, k2, k3, rfl, rfl⟩, fun v4 G4 H4 sd4 x4 hs4 A4 _ => ⟨G4, x4.g, x4.s, ?_⟩⟩⟩
    refine go_nil fun σ H5 ⟨G5, g5, n5⟩ => wSs_of pss_nil (wSs_of pss_nil ((go_ret (G0 := G5) (H0 := H5) (pv_var 4) fun v G6 H6 g6 q6 => ?_) σ G5 H5 (Gr.refl g5.s) n5))
    rw [den_str q6]
    exact k4 G6 H6 sd4 (((g13.x (os := [p, l, sd])).trans x4).trans (g5.trans g6).x) (hs4.imp id fun z => g13.x.fresh (os := []) z) ((A4.up g5).up g6)
theorem ok_ref2 (F : Fun K "_law_refusal" "_law_refusal" s_law_refusal f fd) (T : Tc K C) (Fm2 : FmHeard P w K mg base C CF) (TW : Ec K mg "BadWorld" CW) (TC : Ec K mg "BadCopy" CC) (TB : Ec K mg "BadWish" CB) (TF : Ec K mg "BadFacts" CF) (TN : Ec K mg "NoBooking" CN) (M : Xm K CW CC CB CF CN) : FnOk P w K mg base (L2.CX P w) 7 f fd p_law_refusal (spF2 K C) := by
  refine F.okX sc_law_refusal ?_ (fun cdv A outer s H vs Q E hr h => ⟨_, pss_w, ?_⟩)
  · rintro vs H Q E ⟨p, l, sd, b, wv, tv, y, G, rfl, _⟩
    rfl
  obtain ⟨p, l, sd, b, wv, tv, y, G, rfl, g, A1, hy, hsz, kF, kT⟩ := h
  have hD : Dens K G [.int 2, wv, .ref p, tv] [.d (.int 2), .v wv, .v (.ref p), .d y] := .cons (Dp.int 2) (.cons (show Den K G wv (.v wv) from rfl) (.cons (show Den K G (.ref p) (.v (.ref p)) from rfl) (.cons hy .nil)))
  refine go_in g hD ?_
  refine go_set 4 pv_str ?_ sc_law_refusal.nd
  refine go_try (Wout := fun _ _ _ _ => False) takes_none5 (hd_cons ⟨rfl, by decide, .inl TW.gP⟩ (hd_cons ⟨rfl, by decide, .inl TC.gP⟩ (hd_cons ⟨rfl, by decide, .inl TB.gP⟩ (hd_cons ⟨rfl, by decide, .inl TF.gP⟩ (hd_cons ⟨rfl, by decide, .inl TN.gP⟩ .nil))))) fun pn xe tk => ?_
  refine go_if (q := false) ((pt_eqI (pv_var 0) pv_int).is (by rfl)) (fun h => nomatch h) (fun _ => ?_)
  refine go_if (q := false) ((pt_eqI (pv_var 0) pv_int).is (by rfl)) (fun h => nomatch h) (fun _ => ?_)
  refine go_if (q := true) ((pt_eqI (pv_var 0) pv_int).is (by rfl)) (fun _ => ?_) (fun h => nomatch h)
  refine gx_expr fun G1 H1 g1 => fx_meth Fm2 T.cl hr tk g1.s (pv_var 2) fun G2 H2 g2 => ?_
  have A2 := (A1.up g1).up g2
  obtain ⟨dx2, wv2, fvs2, h2, _⟩ := A2.setL
  refine ⟨dx2, _, h2, bf_no _ _ _ _ (by decide +kernel), fa_pa g2.s (pa_cons (pv_var 3) pa_nil) fun vs G3 H3 g3 q3 => ?_⟩
  obtain ⟨v3, rfl, q3v⟩ := dens1 q3
  have A3 := A2.up g3
  have g13 := (g1.trans g2).trans g3
  cases hw : areFacts b.c b.r y with
  | false =>
    refine ⟨p, l, sd, b, [v3], [y], G3, rfl, g3.s, A3, (.cons q3v .nil), .inr ⟨CF, ⟨y, rfl, hsz, hw, rfl⟩, fun G4 H4 g4 => ?_⟩⟩
    refine fun σ n => many_miss M.fw (many_miss M.fc (many_miss M.fb (many_hit M.ff fun a _ => h_word 4 sc_law_refusal.nd g4.s (n.up g4.g) ?_)))
    exact go_ret (pv_var 4) fun v G5 H5 g5 q5 => by
      rw [den_str q5]
      exact kF hw G5 H5 ((g13.trans g4).trans g5)
  | true =>
    obtain ⟨fs, rfl⟩ : ∃ fs, y = .tuple fs := by
      cases y with
      | tuple fs => exact ⟨fs, rfl⟩
      | _ => cases hw
    obtain ⟨n, k2, k3, k4⟩ := kT fs rfl hw
    refine ⟨p, l, sd, b, [v3], [.tuple fs], G3, rfl, g3.s, A3, (.cons q3v .nil), .inl ⟨_, _, ⟨fs, n, rfl, hsz, hw, k2, k3, rfl, rfl⟩, fun v4 G4 H4 sd4 x4 hs4 A4 _ => ⟨G4, x4.g, x4.s, ?_⟩⟩⟩
    refine go_nil fun σ H5 ⟨G5, g5, n5⟩ => wSs_of pss_nil (wSs_of pss_nil (wSs_of pss_nil ((go_ret (G0 := G5) (H0 := H5) (pv_var 4) fun v G6 H6 g6 q6 => ?_) σ G5 H5 (Gr.refl g5.s) n5)))
    rw [den_str q6]
    exact k4 G6 H6 sd4 (((g13.x (os := [p, l, sd])).trans x4).trans (g5.trans g6).x) (hs4.imp id fun z => g13.x.fresh (os := []) z) ((A4.up g5).up g6)
end
end Fb

namespace Fb
open PySem PySem.Spec PyProof.Rows L2 Evl
/-! ### the law of k02 -/
def fineB (n : Nat) (y : PyData) : Bool := szOk y && y.canLay0 && imm y && decide (y.depth ≤ n)
structure Fine (n : Nat) (y : PyData) : Prop where
  sz : szOk y = true
  lay : y.canLay0 = true
  im : imm y = true
  dp : y.depth ≤ n
theorem fine_of {n : Nat} {y : PyData} (h : fineB n y = true) : Fine n y := by
  unfold fineB at h
  simp only [Bool.and_eq_true, decide_eq_true_eq] at h
  exact ⟨h.1.1.1, h.1.1.2, h.1.2, h.2⟩
theorem Fine.mono {m n : Nat} {y : PyData} (h : Fine m y) (k : m ≤ n) : Fine n y := ⟨h.sz, h.lay, h.im, Nat.le_trans h.dp k⟩
theorem fine_all : ∀ {n : Nat} {xs : List PyData}, (∀ x, x ∈ xs → Fine n x) → szAll xs = true ∧ PyData.canLayAll0 xs = true ∧ immAll xs = true ∧ PyData.depthAll xs ≤ n
  | _, [], _ => ⟨rfl, rfl, rfl, by simp [PyData.depthAll]⟩
  | n, x :: xs, h => by
    obtain ⟨h1, h2, h3, h4⟩ := fine_all fun y hy => h y (List.mem_cons_of_mem _ hy)
    have hx := h x List.mem_cons_self
    refine ⟨by rw [szAll, hx.sz, h1]; rfl, by simp only [PyData.canLayAll0, hx.lay, h2, Bool.and_self], by rw [immAll, hx.im, h3]; rfl, ?_⟩
    simp only [PyData.depthAll]
    exact Nat.max_le.mpr ⟨hx.dp, h4⟩
theorem fine_tup {n : Nat} {xs : List PyData} (h : ∀ x, x ∈ xs → Fine n x) (hl : xs.length ≤ 1000) : Fine (n + 1) (.tuple xs) := by
  obtain ⟨h1, h2, h3, h4⟩ := fine_all h
  refine ⟨?_, by simpa only [PyData.canLay0] using h2, by simpa [imm] using h3, ?_⟩
  · rw [szOk, h1, decide_eq_true hl]; rfl
  · simp only [PyData.depth]; omega
theorem fine_int (n : Nat) (i : Int) : Fine (n + 1) (.int i) := ⟨rfl, rfl, rfl, by simp [PyData.depth]⟩
def spoil (xs : List PyData) (at_ : Nat) (y : PyData) : PyData := .tuple (xs.take at_ ++ [y] ++ xs.drop (at_ + 1))
theorem fine_spoil {n at_ : Nat} {xs : List PyData} {y : PyData} (h : ∀ x, x ∈ xs → Fine n x) (hy : Fine n y) (hl : xs.length ≤ 900) : Fine (n + 1) (spoil xs at_ y) := by
  refine fine_tup (fun x hx => ?_) ?_
  · rcases List.mem_append.mp hx with q | q
    · rcases List.mem_append.mp q with q | q
      · exact h x (List.mem_of_mem_take q)
      · simp at q; subst q; exact hy
    · exact h x (List.mem_of_mem_drop q)
  · simp only [List.length_append, List.length_take, List.length_drop, List.length_singleton]
    omega
theorem pv_spoil {X : Cx} {a a2 b b2 o : Expr} {r : Rho} {xs : List PyData} {n : Nat} {y : PyData} {j j2 : Nat} {p1 p2 p3 p4 p5 p6 p7 p8 p9 : Pos} (ha : Pv X a r (.d (.tuple xs))) (ha2 : Pv X a2 r (.d (.tuple xs))) (hb : Pv X b r (.d (.int (n : Nat)))) (hb2 : Pv X b2 r (.d (.int (n : Nat)))) (ho : Pv X o r (.d y)) (hl : xs.length ≤ 900) (hs : starEach [o] X.env = (false, eval o X.env) :: starEach [] X.env := by rfl) :
    Pv X (.BinOp (.BinOp (.Subscript a (.Slice none (some b) none p1) p2) .Add (.Tuple [o] j p3) p4) .Add (.Subscript a2 (.Slice (some (.BinOp b2 .Add (.Constant (.int 1) j2 p5) p6)) none none p7) p8) p9) r (.d (spoil xs n y)) := by
  refine (pv_catT (pv_catT (pv_sliceT ha po_none (po_some hb)) (pv_tup (pd_cons ho pd_nil hs)) (by rw [cut_to, List.length_take]; simp; omega)) ((pv_sliceT ha2 (po_some (pv_add hb2 pv_int)) po_none).is (d' := .d (.tuple (xs.drop (n + 1)))) ?_) (by rw [cut_to]; simp; omega)).is ?_
  · rw [show ((n : Int) + 1) = ((n + 1 : Nat) : Int) by omega, cut_from]
  · rw [cut_to]; rfl
def oddsL : List PyData := [.none, .bool true, .int (-1), .int 0, .int 1, .int 3, .int 4, .int 5, .int 6, .int 7, .int 24, .str "rank", .str "a", .str "", .tuple [.str "rank"], .tuple [.str "rank", .str "rank"]]
def oddAt (i : Int) : PyData := oddsL.getD i.toNat .none
theorem odd_ix {i : Int} (h0 : 0 ≤ i) (h1 : i < 16) : ixD (.list oddsL) i = some (oddAt i) := by
  have hi : i.toNat < oddsL.length := by show i.toNat < 16; omega
  refine ix_of h0 ?_
  unfold oddAt
  rw [List.getD_eq_getElem?_getD, List.getElem?_eq_getElem hi]
  rfl
theorem odd_fine (i : Int) : Fine 2 (oddAt i) := by
  have h : oddsL.all (fineB 2) = true := by decide +kernel
  rw [List.all_eq_true] at h
  unfold oddAt
  rw [List.getD_eq_getElem?_getD]
  cases q : oddsL[i.toNat]? with
  | none => exact ⟨rfl, rfl, rfl, by simp [PyData.depth]⟩
  | some y => exact fine_of (h y (List.mem_of_getElem? q))
theorem refWord0_no {wd md : PyData} (h : isWorld wd = false) : refWord0 wd md = "world" := by
  unfold refWord0
  split
  · rw [if_neg (by rw [h]; exact Bool.false_ne_true)]
  · rfl
theorem refWord0_ne {wd md : PyData} (h : isWorld wd = true) : ¬ refWord0 wd md = "world" := by
  obtain ⟨c, r, ks, rfl, _⟩ := isWorld_shape h
  show ¬ (if isWorld (wD c r ks) = true then (if within md 0 (c - 1) = true then ("" : Str) else "copy") else "world") = ("world" : Str)
  rw [if_pos h]
  split <;> decide +kernel
theorem refWord0_is (wd md : PyData) : decide (refWord0 wd md = "world") = !isWorld wd := by
  cases h : isWorld wd with
  | false => rw [decide_eq_true (refWord0_no h)]; rfl
  | true => rw [decide_eq_false (refWord0_ne h)]; rfl
def badCopies (c : Int) : List PyData := [.int c, .int (-1), .none, .bool true]
def badCopy (c i : Int) : PyData := (badCopies c).getD i.toNat .none
theorem badCopy_ix {c i : Int} (h0 : 0 ≤ i) (h1 : i < 4) : ixD (.list (badCopies c)) i = some (badCopy c i) := by
  have hi : i.toNat < (badCopies c).length := by show i.toNat < 4; omega
  refine ix_of h0 ?_
  unfold badCopy
  rw [List.getD_eq_getElem?_getD, List.getElem?_eq_getElem hi]
  rfl
theorem badCopy_no (c i : Int) : within (badCopy c i) 0 (c - 1) = false := by
  have h : ∀ y, y ∈ badCopies c → within y 0 (c - 1) = false := by
    intro y hy
    simp only [badCopies, List.mem_cons, List.not_mem_nil, or_false] at hy
    rcases hy with rfl | rfl | rfl | rfl
    · show (decide (0 ≤ c) && decide (c ≤ c - 1)) = false
      rw [decide_eq_false (show ¬ c ≤ c - 1 by omega), Bool.and_false]
    · rfl
    · rfl
    · rfl
  unfold badCopy
  rw [List.getD_eq_getElem?_getD]
  cases q : (badCopies c)[i.toNat]? with
  | none => rfl
  | some y => exact h y (List.mem_of_getElem? q)
theorem refWord0_copy {c r : Int} {ks : List Str} {md : PyData} (hW : isWorld (wD c r ks) = true) (hM : within md 0 (c - 1) = false) : refWord0 (wD c r ks) md = "copy" := by
  show (if isWorld (wD c r ks) = true then (if within md 0 (c - 1) = true then ("" : Str) else "copy") else "world") = ("copy" : Str)
  rw [if_pos hW, if_neg (by rw [hM]; exact Bool.false_ne_true)]
/-- the three facts that are spoilt -/
def offF (m : Int) : List PyData := [.str "off", .tuple [.int m, .int 2]]
def factsOf (m : Int) (good : PyData) : List (List PyData) := [[.str "wish", .tuple [.int m, .int 3], .tuple [.int 7, .int m], good], offF m, [.str "pin", .tuple [.int m, .int 3], .tuple [.int 8, .int m], .tuple [.int 0, .int 5]]]
theorem offF_fact {c r m : Int} (h0 : 0 ≤ m) (h1 : m < c) : isFact c r (.tuple (offF m)) = true := by
  show (decide (("off" : Str) = "off") && ((decide (0 ≤ m) && decide (m ≤ c - 1)) && within (.int 2) 0 11)) = true
  rw [show decide (("off" : Str) = "off") = true from by decide +kernel, decide_eq_true h0, decide_eq_true (show m ≤ c - 1 by omega)]
  rfl
theorem szOk_world {c r : Int} {ks : List Str} (h : isWorld (wD c r ks) = true) : Fine 3 (wD c r ks) := by
  obtain ⟨c', r', ks', e, _, _, _, _, hk, hn⟩ := isWorld_shape h
  have e2 : ks = ks' := by
    have := PyData.tuple.inj e
    simp only [List.cons.injEq, and_true] at this
    have h3 := PyData.tuple.inj this.2.2
    have := congrArg strsOf h3
    rw [strsOf_map, strsOf_map] at this
    exact Option.some.inj this
  subst e2
  have hl : ks.length ≤ 4 := (hn.length_le_of_subset (l₂ := keyNames) fun k hk' => hk k hk')
  refine fine_tup (n := 2) (fun x hx => ?_) (by simp)
  simp only [List.mem_cons, List.not_mem_nil, or_false] at hx
  rcases hx with rfl | rfl | rfl
  · exact fine_int 1 _
  · exact fine_int 1 _
  · refine fine_tup (n := 1) (fun x hx => ?_) (by rw [List.length_map]; omega)
    obtain ⟨k, hk', rfl⟩ := List.mem_map.mp hx
    have hk2 := hk k hk'
    simp only [keyNames, List.mem_cons, List.not_mem_nil, or_false] at hk2
    rcases hk2 with rfl | rfl | rfl | rfl <;> exact fine_of (by decide +kernel)
theorem fine_wish {r : Int} {t : PyData} (h : isWish r t = true) : Fine 2 t := by
  have g := good_wish h
  refine ⟨?_, g.1.lay, g.1.im, g.2⟩
  unfold isWish at h
  split at h
  · rename_i nm room hour long rank
    simp only [Bool.and_eq_true] at h
    obtain ⟨⟨h1, _⟩, h2, h3⟩ := h
    unfold isPlace at h2
    rw [Bool.and_eq_true] at h2
    obtain ⟨i, rfl, _⟩ := within_int h2.1
    obtain ⟨j, rfl, _⟩ := within_int h2.2
    obtain ⟨k, rfl, _⟩ := within_int h3
    unfold isName at h1
    split at h1
    · rename_i z
      simp only [Bool.and_eq_true, decide_eq_true_eq] at h1
      have hz : z.length ≤ 1000 := by have := h1.1.2; omega
      show (decide (5 ≤ 1000) && (decide (z.length ≤ 1000) && true)) = true
      rw [decide_eq_true hz]
      rfl
    · cases h1
  · cases h
end Fb

namespace Fb
open PySem PySem.Spec PyProof.Rows L2 Evl
theorem canLay_tup {xs : List PyData} (h : ∀ x, x ∈ xs → Good x) : (PyData.tuple xs).canLay0 = true := by
  obtain ⟨h1, _⟩ := good_all h
  simpa only [PyData.canLay0] using h1
theorem put_cr (b : Bk) (y : PyData) : (b.put y).c = b.c ∧ (b.put y).r = b.r := by
  unfold Bk.put
  split <;> exact ⟨rfl, rfl⟩
theorem hear_cr (b : Bk) (y : PyData) : (b.hear y).c = b.c ∧ (b.hear y).r = b.r := by
  unfold Bk.hear
  split
  · exact put_cr b _
  · exact put_cr b _
theorem hears_c : ∀ (fs : List PyData) (b : Bk), (fs.foldl Bk.hear b).c = b.c
  | [], _ => rfl
  | y :: fs, b => by rw [List.foldl_cons, hears_c fs, (hear_cr b y).1]
theorem hears_r : ∀ (fs : List PyData) (b : Bk), (fs.foldl Bk.hear b).r = b.r
  | [], _ => rfl
  | y :: fs, b => by rw [List.foldl_cons, hears_r fs, (hear_cr b y).2]
theorem modNat (z m : Int) (h : 0 < m) : z % m = ((z % m).toNat : Int) := (Int.toNat_of_nonneg (Int.emod_nonneg _ (by omega))).symm
theorem dens4 {K : PySem.W.Frag} {H : Hp} {vs : List V} {d d1 d2 d3 : Dn} (h : Dens K H vs [d, d1, d2, d3]) : ∃ v v1 v2 v3, vs = [v, v1, v2, v3] ∧ Den K H v d ∧ Den K H v1 d1 ∧ Den K H v2 d2 ∧ Den K H v3 d3 := by
  cases h with
  | cons h1 h => cases h with
    | cons h2 h => cases h with
      | cons h3 h => cases h with
        | cons h4 h => cases h; exact ⟨_, _, _, _, rfl, h1, h2, h3, h4⟩
def spLaw (K : PySem.W.Frag) : Sp := fun vs H Q _ => ∃ (a : Addr) (ns : List Int), vs = [.ref a] ∧ SqL K H a (ns.map V.int) ∧ ∀ H', Q (.bl true) H'
structure FactOk (fact : List PyData) : Prop where
  len : fact.length ≤ 900
  fine : ∀ x, x ∈ fact → Fine 3 x
  parts : ∀ i, 1 ≤ i → i < fact.length → ∃ ys, fact[i]? = some (.tuple ys) ∧ 0 < ys.length ∧ ys.length ≤ 900 ∧ ∀ x, x ∈ ys → Fine 2 x
theorem fine_pair (a b : Int) : Fine 2 (.tuple [.int a, .int b]) := fine_tup (n := 1) (fun x hx => by
  simp only [List.mem_cons, List.not_mem_nil, or_false] at hx
  rcases hx with rfl | rfl <;> exact fine_int 0 _) (by simp)
theorem ints_fine {ys : List PyData} {a b : Int} (h : ys = [.int a, .int b]) : 0 < ys.length ∧ ys.length ≤ 900 ∧ ∀ x, x ∈ ys → Fine 2 x := by
  subst h
  refine ⟨by simp, by simp, fun x hx => ?_⟩
  simp only [List.mem_cons, List.not_mem_nil, or_false] at hx
  rcases hx with rfl | rfl <;> exact fine_int 1 _
theorem off_ok (m : Int) : FactOk (offF m) := by
  refine ⟨by simp [offF], fun x hx => ?_, fun i h1 h2 => ?_⟩
  · simp only [offF, List.mem_cons, List.not_mem_nil, or_false] at hx
    rcases hx with rfl | rfl
    · exact fine_of (by decide +kernel)
    · exact (fine_pair m 2).mono (by decide)
  · have : i = 1 := by simp [offF] at h2; omega
    subst this
    exact ⟨_, rfl, ints_fine rfl⟩
theorem pin_ok (m : Int) : FactOk [.str "pin", .tuple [.int m, .int 3], .tuple [.int 8, .int m], .tuple [.int 0, .int 5]] := by
  refine ⟨by simp, fun x hx => ?_, fun i h1 h2 => ?_⟩
  · simp only [List.mem_cons, List.not_mem_nil, or_false] at hx
    rcases hx with rfl | rfl | rfl | rfl
    · exact fine_of (by decide +kernel)
    · exact (fine_pair _ _).mono (by decide)
    · exact (fine_pair _ _).mono (by decide)
    · exact (fine_pair _ _).mono (by decide)
  · have : i = 1 ∨ i = 2 ∨ i = 3 := by simp at h2; omega
    rcases this with rfl | rfl | rfl <;> exact ⟨_, rfl, ints_fine rfl⟩
theorem wish_ok (m r s : Int) (h : isWish r (wishOf r s) = true) : FactOk [.str "wish", .tuple [.int m, .int 3], .tuple [.int 7, .int m], wishOf r s] := by
  have hw := fine_wish h
  refine ⟨by simp, fun x hx => ?_, fun i h1 h2 => ?_⟩
  · simp only [List.mem_cons, List.not_mem_nil, or_false] at hx
    rcases hx with rfl | rfl | rfl | rfl
    · exact fine_of (by decide +kernel)
    · exact (fine_pair _ _).mono (by decide)
    · exact (fine_pair _ _).mono (by decide)
    · exact hw.mono (by decide)
  · have : i = 1 ∨ i = 2 ∨ i = 3 := by simp at h2; omega
    rcases this with rfl | rfl | rfl
    · exact ⟨_, rfl, ints_fine rfl⟩
    · exact ⟨_, rfl, ints_fine rfl⟩
    · refine ⟨_, rfl, by simp, by simp, fun x hx => ?_⟩
      simp only [List.mem_cons, List.not_mem_nil, or_false] at hx
      have hz : szOk (.str (SX.S (nameOf s))) = true := (szOk_tup hw.sz).2 _ (by simp)
      have hl : (PyData.str (SX.S (nameOf s))).canLay0 = true := lay_mem hw.lay _ (by simp)
      rcases hx with rfl | rfl | rfl | rfl | rfl
      · exact ⟨hz, hl, rfl, by simp [PyData.depth]⟩
      all_goals exact fine_int 1 _
structure Lw (P : Program) (w : World) (K : PySem.W.Frag) (mg : Str → Option Value) (base : Heap) (C CW CC : Addr) : Prop where
  B : Bl mg
  T : Tc K C
  cell : FcCell P w K mg base
  seed : FcSeed P w K mg base
  world : Fc P w K mg base 2 "_law_world" (spR K R_lworld noB)
  wish : Fc P w K mg base 2 "_law_wish" (spR K R_lwish noB)
  las : Fc P w K mg base 1 "_law_as" (spR K R_las noB)
  lworld : Fc P w K mg base 2 "_law_is_world" (spR K R_is_world noB)
  lwish : FcLiw P w K mg base
  lfact : Fc P w K mg base 3 "_law_is_fact" (spR K R_lisfact noB)
  iw : FcIW P w K mg base
  ref0 : Fc P w K mg base 7 "_law_refusal" (spR K R_ref0 noB)
  ref1 : Fc P w K mg base 7 "_law_refusal" (spF1 K C)
  ref2 : Fc P w K mg base 7 "_law_refusal" (spF2 K C)
  make : FkCopy P w K mg base C CW CC
  told : Fm P w K mg base 1 C "told" (spR K (R_told1 C) noB)
section
variable {P : Program} {w : World} {K : PySem.W.Frag} {mg : Str → Option Value} {base : Heap} {f : Addr} {fd : FuncData} {C CW CC : Addr}
theorem ok_law (F : Fun K "law" "law" s_law f fd) (L : Lw P w K mg base C CW CC) : FnOk P w K mg base (L2.CX P w) 8 f fd p_law (spLaw K) := by
  refine F.okX sc_law ?_ (fun cdv A outer s H vs Q E hr h => ⟨_, pss_w, ?_⟩)
  · rintro vs H Q E ⟨a, ns, rfl, _⟩
    rfl
  obtain ⟨a0, ns, rfl, hsc, k⟩ := h
  have hD : Dens K H [.ref a0] [.sc ns] := .cons (show Den K H (.ref a0) (.sc ns) from ⟨a0, rfl, hsc⟩) .nil
  refine go_in (Ex.refl H) hD ?_
  have hu : (A.deeper (envOfC "law" (defScope s_law) s.heap.objs.size f cdv)).units + 64 < cLine := by have := hr.un; omega
  -- the tail: told, heard
  have tail : ∀ (W odd bad good wish new : PyData) (c r m : Int) (ks : List Str) (at_ : PyData) (fl : PyData) (fact : List PyData) (o13 o14 : Option Dn) (p l sd : Addr) (b1 : Bk) (G0 H0 : Hp), W = wD c r ks → CopyAt K C G0 H0 p l sd b1 → BkOk b1 1 → b1.c = c → b1.r = r → Fine 7 new → Fine 7 (.tuple fact) → 0 ≤ m → m < c → (∃ a b, fl = .list [a, .tuple (offF m), b]) →
      Go (cxOf (L2.CX P w) P w K mg base n_law "law" (defScope s_law) f cdv A outer s H E) ((defBody s_law).drop 19) { nx := fun _ H' => Q .non H', rt := Q } G0 H0 [some (.sc ns), some (.d W), some (.d (.list oddsL)), some (.d odd), some (.d at_), some (.d bad), some (.v (.ref p)), some (.d good), some (.d wish), some (.d (.int m)), some (.d fl), some (.d (.tuple fact)), some (.d new), o13, o14, none, none] := by
    rintro W odd bad good wish new c r m ks at_ fl fact o13 o14 p l sd b1 G0 H0 rfl A0 hb rfl rfl hnew hfact hm0 hm1 ⟨fa, fb, rfl⟩
    have hoff := offF_fact (c := b1.c) (r := b1.r) hm0 hm1
    -- before = here.told()
    refine gx_set 15 (fun G1 H1 g1 => ?_) sc_law.nd
    have A1 := A0.up g1
    refine fx_own g1.s (A1.own (i := 6) rfl) (pv_meth0 L.told L.T.cl hr (pv_var 6) (fs_no b1 (by decide +kernel)) ⟨p, b1, rfl, hb.len, rfl⟩) ?_ fun v2 G2 H2 g2 q2 => ⟨.d (.tuple b1.facts), q2, ?_⟩
    · obtain ⟨_, _, h3⟩ := good_all hb.good
      simpa [imm] using h3
    have A2 := A1.up g2
    have hsz2 : szOk (.tuple [.tuple (offF m), new]) = true := by
      have : Fine 8 (.tuple [.tuple (offF m), new]) := fine_tup (n := 7) (fun x hx => by
        simp only [List.mem_cons, List.not_mem_nil, or_false] at hx
        rcases hx with rfl | rfl
        · refine (fine_tup (n := 2) (fun x hx => ?_) (by simp [offF])).mono (by decide)
          simp only [offF, List.mem_cons, List.not_mem_nil, or_false] at hx
          rcases hx with rfl | rfl
          · exact fine_of (by decide +kernel)
          · exact fine_tup (n := 1) (fun x hx => by
              simp only [List.mem_cons, List.not_mem_nil, or_false] at hx
              rcases hx with rfl | rfl <;> exact fine_int 0 _) (by simp)
        · exact hnew) (by simp)
      exact this.sz
    have hare : areFacts b1.c b1.r (.tuple [.tuple (offF m), new]) = isFact b1.c b1.r new := by
      show (isFact b1.c b1.r (.tuple (offF m)) && (isFact b1.c b1.r new && true)) = _
      rw [hoff, Bool.true_and, Bool.and_true]
    -- what follows told = ..
    have last : ∀ (b2 : Bk) (sd2 : Addr) (G3 H3 : Hp) (word : Str), CopyAt K C G3 H3 p l sd2 b2 → BkOk b2 3 → b2.c = b1.c → b2.r = b1.r → (word = "facts" ∧ b2 = b1 ∧ isFact b1.c b1.r new = false ∨ word = "" ∧ isFact b1.c b1.r new = true) →
        Go (cxOf (L2.CX P w) P w K mg base n_law "law" (defScope s_law) f cdv A outer s H E) ((defBody s_law).drop 21) { nx := fun _ H' => Q .non H', rt := Q } G3 H3 [some (.sc ns), some (.d (wD b1.c b1.r ks)), some (.d (.list oddsL)), some (.d odd), some (.d at_), some (.d bad), some (.v (.ref p)), some (.d good), some (.d wish), some (.d (.int m)), some (.d (.list [fa, .tuple (offF m), fb])), some (.d (.tuple fact)), some (.d new), o13, o14, some (.d (.tuple b1.facts)), some (.d (.str word))] := by
      intro b2 sd2 G3 H3 word A3 hb2 hc2 hr2 hcase
      have fin : ∀ G4 H4, Gr G3 H3 G4 H4 → Go (cxOf (L2.CX P w) P w K mg base n_law "law" (defScope s_law) f cdv A outer s H E) ((defBody s_law).drop 22) { nx := fun _ H' => Q .non H', rt := Q } G4 H4 [some (.sc ns), some (.d (wD b1.c b1.r ks)), some (.d (.list oddsL)), some (.d odd), some (.d at_), some (.d bad), some (.v (.ref p)), some (.d good), some (.d wish), some (.d (.int m)), some (.d (.list [fa, .tuple (offF m), fb])), some (.d (.tuple fact)), some (.d new), o13, o14, some (.d (.tuple b1.facts)), some (.d (.str word))] := by
        intro G4 H4 g4
        refine gx_ret fun G5 H5 g5 => ?_
        have A5 := (A3.up g4).up g5
        refine fx_and (fx_eq (fx_callF L.ref2 hr takes_none5 (fa_pa g5.s (pa_cons pv_int (pa_cons (pv_var 1) (pa_cons (pv_var 6) (pa_cons (pv_lst (pd_cons (pv_var 11) pd_nil)) pa_nil)))) fun vs G6 H6 g6 q6 => ?_)))
        obtain ⟨v1, v2, v3, v4, rfl, e1, e2, e3, e4⟩ := dens4 q6
        have e1' := den_int e1
        subst e1'
        obtain rfl : v3 = .ref p := e3
        have hszl : szOk (.list [.tuple fact]) = true := by
          show (decide (1 ≤ 1000) && (szOk (.tuple fact) && true)) = true
          rw [hfact.sz]
          rfl
        refine ⟨p, l, sd2, b2, v2, v4, _, G6, rfl, g6.s, A5.up g6, e4, hszl, fun _ G7 H7 g7 => ⟨G7, g7.g, g7.s, fx_pv g7.s pv_str fun y G8 H8 g8 q8 => ?_⟩, fun fs hfs => by cases hfs⟩
        rw [den_str q8]
        refine ⟨rfl, true, by rw [decide_eq_true rfl], fun _ => ?_, fun h => nomatch h⟩
        have A8 := ((A5.up g6).up g7).up g8
        refine fx_eq (fx_callF L.ref2 hr takes_none5 (fa_pa g8.s (pa_cons pv_int (pa_cons (pv_var 1) (pa_cons (pv_var 6) (pa_cons (pv_tup pd_nil) pa_nil)))) fun vs G9 H9 g9 q9 => ?_))
        obtain ⟨u1, u2, u3, u4, rfl, e1, e2, e3, e4⟩ := dens4 q9
        have e1' := den_int e1
        subst e1'
        obtain rfl : u3 = .ref p := e3
        refine ⟨p, l, sd2, b2, u2, u4, _, G9, rfl, g9.s, A8.up g9, e4, rfl, (fun h => nomatch h), fun fs hfs _ => ?_⟩
        cases hfs
        refine ⟨3, hb2, by simp, fun G10 H10 sd' x10 _ _ => ⟨G10, x10.g, x10.s, fx_pv x10.s pv_str fun y G11 H11 g11 q11 => ?_⟩⟩
        rw [den_str q11]
        refine ⟨rfl, ?_⟩
        rw [decide_eq_true rfl]
        exact k H11
      refine gx_when fun G4 H4 g4 => ?_
      have A4 := A3.up g4
      rcases hcase with ⟨rfl, rfl, hno⟩ | ⟨rfl, hyes⟩
      · refine ft_own (q := false) g4.s (A4.own (i := 6) rfl) (Pw.pt (pw_orF ((pt_eqB (pv_eqS (pv_var 16) pv_str) (pv_call L.lfact hr (pa_cons (pv_var 1) (pa_cons (pv_var 12) pa_nil)) ⟨b2.c, b2.r, ks, new, rfl, hnew.sz, hnew.lay, rfl⟩)).is ?_) (pw_or1 (Pw.pt (pw_andT ((pt_eqS (pv_var 16) pv_str).is (by decide +kernel)) (pw_and1 ((pt_ne hu (pv_meth0 L.told L.T.cl hr (pv_var 6) (fs_no b2 (by decide +kernel)) ⟨p, b2, rfl, hb.len, rfl⟩) (pv_var 15) (shaped_tup hb.good) (shaped_tup hb.good)).is ?_))))))) fun G5 H5 g5 => ⟨(fun h => nomatch h), fun _ => fin G5 H5 (g4.trans g5)⟩
        · rw [hno]; decide +kernel
        · rw [SeqAt.eqv_refl _ (canLay_tup hb.good)]; rfl
      · refine ft_own (q := false) g4.s (A4.own (i := 6) rfl) (Pw.pt (pw_orF ((pt_eqB (pv_eqS (pv_var 16) pv_str) (pv_call L.lfact hr (pa_cons (pv_var 1) (pa_cons (pv_var 12) pa_nil)) ⟨b1.c, b1.r, ks, new, rfl, hnew.sz, hnew.lay, rfl⟩)).is ?_) (pw_or1 (Pw.pt (pw_andF ((pt_eqS (pv_var 16) pv_str).is (by decide +kernel))))))) fun G5 H5 g5 => ⟨(fun h => nomatch h), fun _ => fin G5 H5 (g4.trans g5)⟩
        rw [hyes]; decide +kernel
    -- told = _law_refusal(2, world, here, (facts[1], new))
    refine gx_set 16 (fun G3 H3 g3 => ?_) sc_law.nd
    have A3 := A2.up g3
    refine fx_callF L.ref2 hr takes_none5 (fa_pa g3.s (pa_cons pv_int (pa_cons (pv_var 1) (pa_cons (pv_var 6) (pa_cons (pv_tup (pd_cons (pv_ix (pv_var 10) pv_int rfl) (pd_cons (pv_var 12) pd_nil))) pa_nil)))) fun vs G4 H4 g4 q4 => ?_)
    obtain ⟨v1, v2', v3, v4, rfl, e1, e2, e3, e4⟩ := dens4 q4
    have e1' := den_int e1
    subst e1'
    obtain rfl : v3 = .ref p := e3
    refine ⟨p, l, sd, b1, v2', v4, _, G4, rfl, g4.s, A3.up g4, e4, hsz2, fun hno G5 H5 g5 => ?_, fun fs hfs hyes => ?_⟩
    · rw [hare] at hno
      exact ⟨G5, g5.g, g5.s, .d (.str "facts"), Dp.str _, last b1 sd G5 H5 "facts" ((A3.up g4).up g5) (hb.mono (by decide)) rfl rfl (.inl ⟨rfl, rfl, hno⟩)⟩
    · rw [hare] at hyes
      cases hfs
      have gs : ∀ y, y ∈ [PyData.tuple (offF m), new] → Good y := fun y hy => by
        simp only [List.mem_cons, List.not_mem_nil, or_false] at hy
        rcases hy with rfl | rfl
        · exact good_fact hoff
        · exact good_fact hyes
      refine ⟨1, hb, by simp, fun G5 H5 sd' x5 _ A5 => ⟨G5, x5.g, x5.s, .d (.str ""), Dp.str _, last _ sd' G5 H5 "" A5 ((hb.hears gs).mono (by simp)) (hears_c _ _) (hears_r _ _) (.inr ⟨rfl, hyes⟩)⟩⟩
  -- the facts
  have cont : ∀ (odd bad wish at5 : PyData) (c r z : Int) (ks : List Str) (p l sd : Addr) (b1 : Bk) (G0 H0 : Hp), CopyAt K C G0 H0 p l sd b1 → BkOk b1 1 → b1.c = c → b1.r = r → Fine 2 odd → 1 ≤ c → isWish r (wishOf r z) = true →
      Go (cxOf (L2.CX P w) P w K mg base n_law "law" (defScope s_law) f cdv A outer s H E) ((defBody s_law).drop 13) { nx := fun _ H' => Q .non H', rt := Q } G0 H0 [some (.sc ns), some (.d (wD c r ks)), some (.d (.list oddsL)), some (.d odd), some (.d at5), some (.d bad), some (.v (.ref p)), some (.d (wishOf r z)), some (.d wish), none, none, none, none, none, none, none, none] := by
    intro odd bad wish at5 c r z ks p l sd b1 G0 H0 A0 hb hc hr1 hodd hc1 hgood
    have hm0 : 0 ≤ cellZ ns 6 % c := Int.emod_nonneg _ (by omega)
    have hm1 : cellZ ns 6 % c < c := Int.emod_lt_of_pos _ (by omega)
    refine go_set 9 (pv_mod (j := c) (by omega) (pv_call L.cell hr (pa_cons (pv_var 0) (pa_cons pv_int pa_nil)) ⟨ns, 6, rfl, rfl⟩) (pv_ix (pv_var 1) pv_int rfl)) ?_ sc_law.nd
    obtain ⟨m, hm⟩ : ∃ m, m = cellZ ns 6 % c := ⟨_, rfl⟩
    rw [← hm] at hm0 hm1 ⊢
    refine go_set 10 (d := .d (.list [.tuple [.str "wish", .tuple [.int m, .int 3], .tuple [.int 7, .int m], wishOf r z], .tuple (offF m), .tuple [.str "pin", .tuple [.int m, .int 3], .tuple [.int 8, .int m], .tuple [.int 0, .int 5]]])) (pv_lst (pd_cons (pv_tup (pd_cons pv_str (pd_cons (pv_tup (pd_cons (pv_var 9) (pd_cons pv_int pd_nil))) (pd_cons (pv_tup (pd_cons pv_int (pd_cons (pv_var 9) pd_nil))) (pd_cons (pv_var 7) pd_nil))))) (pd_cons (pv_tup (xs := offF m) (pd_cons pv_str (pd_cons (pv_tup (pd_cons (pv_var 9) (pd_cons pv_int pd_nil))) pd_nil)) (by simp [offF])) (pd_cons (pv_tup (pd_cons pv_str (pd_cons (pv_tup (pd_cons (pv_var 9) (pd_cons pv_int pd_nil))) (pd_cons (pv_tup (pd_cons pv_int (pd_cons (pv_var 9) pd_nil))) (pd_cons (pv_tup (pd_cons pv_int (pd_cons pv_int pd_nil))) pd_nil))))) pd_nil)))) ?_ sc_law.nd
    obtain ⟨fact, hix, hok⟩ : ∃ fact, ixD (.list [.tuple [.str "wish", .tuple [.int m, .int 3], .tuple [.int 7, .int m], wishOf r z], .tuple (offF m), .tuple [.str "pin", .tuple [.int m, .int 3], .tuple [.int 8, .int m], .tuple [.int 0, .int 5]]]) (cellZ ns 7 % 3) = some (.tuple fact) ∧ FactOk fact := by
      have h0 : cellZ ns 7 % 3 = 0 ∨ cellZ ns 7 % 3 = 1 ∨ cellZ ns 7 % 3 = 2 := by omega
      rcases h0 with h | h | h <;> rw [h]
      · exact ⟨_, rfl, wish_ok m r z hgood⟩
      · exact ⟨_, rfl, off_ok m⟩
      · exact ⟨_, rfl, pin_ok m⟩
    refine go_set 11 (pv_ix (pv_var 10) (pv_mod (by decide) (pv_call L.cell hr (pa_cons (pv_var 0) (pa_cons pv_int pa_nil)) ⟨ns, 7, rfl, rfl⟩) pv_int) hix) ?_ sc_law.nd
    refine go_set 4 (d := .d (.int ((cellZ ns 8 % ((fact.length : Int) + 1)).toNat : Nat))) ((pv_mod (j := (fact.length : Int) + 1) (by omega) (pv_call L.cell hr (pa_cons (pv_var 0) (pa_cons pv_int pa_nil)) ⟨ns, 8, rfl, rfl⟩) (pv_add (pv_len L.B.len (pv_var 11) rfl) pv_int)).is (by rw [← modNat _ _ (by omega)])) ?_ sc_law.nd
    obtain ⟨n8, hn8⟩ : ∃ n8, n8 = (cellZ ns 8 % ((fact.length : Int) + 1)).toNat := ⟨_, rfl⟩
    rw [← hn8]
    refine go_set 12 (pv_spoil (xs := fact) (pv_var 11) (pv_var 11) (pv_var 4) (pv_var 4) (pv_var 3) hok.len) ?_ sc_law.nd
    have hfine : Fine 7 (.tuple fact) := (fine_tup hok.fine (by have := hok.len; omega)).mono (by decide)
    have hnew : Fine 7 (spoil fact n8 odd) := (fine_spoil hok.fine (hodd.mono (by decide)) hok.len).mono (by decide)
    refine go_when (Pw.pt (pw_and (pt_gt (pv_var 4) pv_int) fun _ => pw_and (pt_lt (pv_var 4) (pv_len L.B.len (pv_var 11) rfl)) fun _ => pw_and1 (pt_eqI (pv_mod (by decide) (pv_call L.cell hr (pa_cons (pv_var 0) (pa_cons pv_int pa_nil)) ⟨ns, 9, rfl, rfl⟩) pv_int) pv_int))) (fun hq => ?_) (fun _ => tail _ odd bad _ wish _ c r m ks _ _ fact none none p l sd b1 G0 H0 rfl A0 hb hc hr1 hnew hfine hm0 hm1 ⟨_, _, rfl⟩)
    rw [Bool.and_eq_true, Bool.and_eq_true, decide_eq_true_iff, decide_eq_true_iff] at hq
    obtain ⟨ys, hys, hy0, hy1, hyf⟩ := hok.parts n8 (by omega) (by omega)
    have hat : ixD (.tuple fact) (n8 : Int) = some (.tuple ys) := atI_nat hys
    refine go_set 13 (d := .d (.int ((cellZ ns 10 % (ys.length : Int)).toNat : Nat))) ((pv_mod (j := (ys.length : Int)) (by omega) (pv_call L.cell hr (pa_cons (pv_var 0) (pa_cons pv_int pa_nil)) ⟨ns, 10, rfl, rfl⟩) (pv_len L.B.len (pv_ix (pv_var 11) (pv_var 4) hat) rfl)).is (by rw [← modNat _ _ (by omega)])) ?_ sc_law.nd
    refine go_set 14 (pv_spoil (xs := ys) (pv_ix (pv_var 11) (pv_var 4) hat) (pv_ix (pv_var 11) (pv_var 4) hat) (pv_var 13) (pv_var 13) (pv_var 3) hy1) ?_ sc_law.nd
    refine go_set 12 (pv_spoil (xs := fact) (pv_var 11) (pv_var 11) (pv_var 4) (pv_var 4) (pv_var 14) hok.len) ?_ sc_law.nd
    have hpart : Fine 3 (spoil ys (cellZ ns 10 % (ys.length : Int)).toNat odd) := fine_spoil hyf hodd hy1
    have hnew2 : Fine 7 (spoil fact n8 (spoil ys (cellZ ns 10 % (ys.length : Int)).toNat odd)) := (fine_spoil hok.fine hpart hok.len).mono (by decide)
    exact go_nil fun σ H1 ⟨G1, g1, n1⟩ => tail _ odd bad _ wish _ c r m ks _ _ fact _ _ p l sd b1 G1 H1 rfl (A0.up g1) hb hc hr1 hnew2 hfine hm0 hm1 ⟨_, _, rfl⟩ σ G1 H1 (Gr.refl g1.s) n1
  -- the head
  obtain ⟨c, r, ks, hWe, hc1, hc5, hr1, hr3, hk1, hk2⟩ := isWorld_shape (worldOf_ok (cellZ ns 0))
  have hW : isWorld (wD c r ks) = true := by
    rw [← hWe]
    exact worldOf_ok _
  have hWf := szOk_world hW
  have hodd := odd_fine (cellZ ns 1 % 16)
  refine go_set 1 (d := .d (wD c r ks)) ((pv_call L.world hr (pa_cons (pv_call L.cell hr (pa_cons (pv_var 0) (pa_cons pv_int pa_nil)) ⟨ns, 0, rfl, rfl⟩) pa_nil) ⟨cellZ ns 0, rfl, rfl⟩).is (by rw [hWe])) ?_ sc_law.nd
  refine go_set 2 (d := .d (.list oddsL)) (pv_lst ?odds (by show 16 ≤ 100000; decide)) ?_ sc_law.nd
  case odds =>
    refine pd_cons ?_ ?_
    · exact pv_none
    refine pd_cons ?_ ?_
    · exact pv_bool
    refine pd_cons ?_ ?_
    · exact pv_neg pv_int
    refine pd_cons ?_ ?_
    · exact pv_int
    refine pd_cons ?_ ?_
    · exact pv_int
    refine pd_cons ?_ ?_
    · exact pv_int
    refine pd_cons ?_ ?_
    · exact pv_int
    refine pd_cons ?_ ?_
    · exact pv_int
    refine pd_cons ?_ ?_
    · exact pv_int
    refine pd_cons ?_ ?_
    · exact pv_int
    refine pd_cons ?_ ?_
    · exact pv_int
    refine pd_cons ?_ ?_
    · exact pv_str
    refine pd_cons ?_ ?_
    · exact pv_str
    refine pd_cons ?_ ?_
    · exact pv_str
    refine pd_cons ?_ ?_
    · exact pv_tup (pd_cons pv_str pd_nil)
    refine pd_cons ?_ ?_
    · exact pv_tup (pd_cons pv_str (pd_cons pv_str pd_nil))
    exact pd_nil
  refine go_set 3 (pv_ix (pv_var 2) (pv_mod (by decide) (pv_call L.cell hr (pa_cons (pv_var 0) (pa_cons pv_int pa_nil)) ⟨ns, 1, rfl, rfl⟩) pv_int) (odd_ix (Int.emod_nonneg _ (by decide)) (Int.emod_lt_of_pos _ (by decide)))) ?_ sc_law.nd
  obtain ⟨odd, hoddE⟩ : ∃ odd, odd = oddAt (cellZ ns 1 % 16) := ⟨_, rfl⟩
  rw [← hoddE] at hodd ⊢
  refine go_set 4 (d := .d (.int ((cellZ ns 2 % 4).toNat : Nat))) ((pv_mod (by decide) (pv_call L.cell hr (pa_cons (pv_var 0) (pa_cons pv_int pa_nil)) ⟨ns, 2, rfl, rfl⟩) pv_int).is (by rw [← modNat _ _ (by decide)])) ?_ sc_law.nd
  refine go_set 5 (pv_spoil (xs := [.int c, .int r, .tuple (ks.map PyData.str)]) (pv_var 1) (pv_var 1) (pv_var 4) (pv_var 4) (pv_var 3) (by simp)) ?_ sc_law.nd
  have hbad : Fine 4 (spoil [.int c, .int r, .tuple (ks.map PyData.str)] (cellZ ns 2 % 4).toNat odd) := fine_spoil (n := 3) (fun x hx => by
    have hl := lay_mem hWf.lay x hx
    have hs := (szOk_tup hWf.sz).2 x hx
    have hd : x.depth ≤ 2 := by
      have h1 := PyData.depth_le_depthAll _ x hx
      have h2 := hWf.dp
      simp only [wD, PyData.depth] at h2
      omega
    have hi : imm x = true := by
      have := hWf.im
      rw [wD, imm] at this
      exact immAll_iff.mp this x hx
    exact ⟨hs, hl, hi, by omega⟩) (hodd.mono (by decide)) (by simp)
  obtain ⟨bad, hbadE⟩ : ∃ bad, bad = spoil [.int c, .int r, .tuple (ks.map PyData.str)] (cellZ ns 2 % 4).toNat odd := ⟨_, rfl⟩
  rw [← hbadE] at hbad ⊢
  refine go_when (q := false) (Pw.pt (pw_orF ((pt_not (pt_val (pv_call L.las hr (pa_cons (pv_call L.iw hr (pa_cons (pv_var 5) pa_nil) ⟨bad, rfl, hbad.sz, rfl⟩) (pa_cons (pv_call L.lworld hr (pa_cons (pv_var 5) pa_nil) ⟨bad, rfl, hbad.sz, rfl⟩) pa_nil)) ⟨isWorld bad, isWorld bad, rfl, rfl⟩))).is (by rw [decide_eq_true rfl]; rfl)) (pw_orF ((pt_notB (pv_call L.iw hr (pa_cons (pv_var 1) pa_nil) ⟨_, rfl, hWf.sz, rfl⟩) pv_bool).is (by rw [hW]; decide)) (pw_or1 ((pt_notB (pv_call L.iw hr (pa_cons (pv_lst (xs := []) pd_nil) pa_nil) ⟨.list [], rfl, rfl, rfl⟩) pv_bool).is (by decide)))))) (fun h => nomatch h) (fun _ => ?_)
  refine go_when (q := false) ((pt_eqB (pv_eqS (pv_call L.ref0 hr (pa_cons pv_int (pa_cons (pv_var 5) (pa_cons pv_int (pa_cons pv_none pa_nil)))) ⟨bad, .int 0, rfl, hbad.sz, rfl⟩) pv_str) (pv_call L.lworld hr (pa_cons (pv_var 5) pa_nil) ⟨bad, rfl, hbad.sz, rfl⟩)).is (by rw [refWord0_is]; cases isWorld bad <;> decide)) (fun h => nomatch h) (fun _ => ?_)
  refine go_when (q := false) ((pt_neS (pv_call L.ref0 hr (pa_cons pv_int (pa_cons (pv_var 1) (pa_cons (pv_ix (pv_lst (xs := badCopies c) (pd_cons (by exact pv_ix (pv_var 1) pv_int rfl) (pd_cons (by exact pv_neg pv_int) (pd_cons (by exact pv_none) (pd_cons (by exact pv_bool) pd_nil)))) (by show 4 ≤ 100000; decide)) (pv_mod (by decide) (pv_call L.cell hr (pa_cons (pv_var 0) (pa_cons pv_int pa_nil)) ⟨ns, 3, rfl, rfl⟩) pv_int) (badCopy_ix (Int.emod_nonneg _ (by decide)) (Int.emod_lt_of_pos _ (by decide)))) (pa_cons pv_none pa_nil)))) ⟨wD c r ks, badCopy c (cellZ ns 3 % 4), rfl, hWf.sz, rfl⟩) pv_str).is (by rw [refWord0_copy hW (badCopy_no c _)]; decide +kernel)) (fun h => nomatch h) (fun _ => ?_)
  -- here = Copy(world, 0)
  refine gx_set 6 (fun G1 H1 g1 => ?_) sc_law.nd
  refine fx_make L.make hr takes_none5 (fa_pa g1.s (pa_cons (pv_var 1) (pa_cons pv_int pa_nil)) fun vs G2 H2 g2 q2 => ?_)
  obtain ⟨v1, v2, rfl, d1, d2⟩ := dens2 q2
  intro q dx nq nd ne
  have e2 : Ex G2 (upd (upd H2 dx (.own q)) q (.ins C dx [])) := (g2.s.trans (Ex.new nd)).mut (fresh_back g2.s nq)
  refine ⟨q, dx, v1, v2, wD c r ks, .int 0, G2, rfl, e2, fresh_back g2.s nq, upd_same, d1, d2, hWf.sz, (fun h => by rw [hW] at h; cases h), (fun c' r' ks' hwd _ hM => ?_), fun c' r' ks' i hwd _ hmd hM G3 H3 l sd x3 fl fs A3 => ⟨rfl, G3, x3.g, x3.s, .v (.ref q), rfl, ?_⟩⟩
  · have : c' = c := by
      have := PyData.tuple.inj hwd
      simp only [List.cons.injEq, PyData.int.injEq] at this
      exact this.1.symm
    subst this
    have : within (.int 0) 0 (c' - 1) = true := by
      show (decide ((0 : Int) ≤ 0) && decide (0 ≤ c' - 1)) = true
      rw [decide_eq_true (show 0 ≤ c' - 1 by omega)]
      rfl
    rw [this] at hM
    cases hM
  have hcc : c' = c ∧ r' = r := by
    have := PyData.tuple.inj hwd
    simp only [List.cons.injEq, PyData.int.injEq] at this
    exact ⟨this.1.symm, this.2.1.symm⟩
  obtain ⟨rfl, rfl⟩ := hcc
  cases hmd
  have hgood : isWish r' (wishOf r' (seedZ (cellZ ns 4) 0)) = true := wishOf_ok hr1
  refine go_set 7 (pv_call L.wish hr (pa_cons (pv_var 1) (pa_cons (pv_call L.seed hr (pa_cons (pv_call L.cell hr (pa_cons (pv_var 0) (pa_cons pv_int pa_nil)) ⟨ns, 4, rfl, rfl⟩) (pa_cons pv_int pa_nil)) ⟨cellZ ns 4, 0, rfl, by decide, by decide, rfl⟩) pa_nil)) ⟨c', r', ks, seedZ (cellZ ns 4) 0, rfl, hr1, rfl⟩) ?_ sc_law.nd
  obtain ⟨z, hz⟩ : ∃ z, z = seedZ (cellZ ns 4) 0 := ⟨_, rfl⟩
  rw [← hz] at hgood ⊢
  refine go_set 4 (d := .d (.int ((cellZ ns 5 % 6).toNat : Nat))) ((pv_mod (by decide) (pv_call L.cell hr (pa_cons (pv_var 0) (pa_cons pv_int pa_nil)) ⟨ns, 5, rfl, rfl⟩) pv_int).is (by rw [← modNat _ _ (by decide)])) ?_ sc_law.nd
  refine go_set 8 (pv_spoil (xs := [.str (SX.S (nameOf z)), .int (roomOf r' z), .int (hourOf z), .int (longOf z), .int (rankOf z)]) (pv_var 7) (pv_var 7) (pv_var 4) (pv_var 4) (pv_var 3) (by simp)) ?_ sc_law.nd
  have hgf := fine_wish hgood
  have hwish : Fine 3 (spoil [.str (SX.S (nameOf z)), .int (roomOf r' z), .int (hourOf z), .int (longOf z), .int (rankOf z)] (cellZ ns 5 % 6).toNat odd) := fine_spoil (n := 2) (fun x hx => by
    have hl := lay_mem hgf.lay x hx
    have hs := (szOk_tup hgf.sz).2 x hx
    simp only [List.mem_cons, List.not_mem_nil, or_false] at hx
    rcases hx with rfl | rfl | rfl | rfl | rfl
    · exact ⟨hs, hl, rfl, by simp [PyData.depth]⟩
    all_goals exact fine_int 1 _) hodd (by simp)
  obtain ⟨wish, hwishE⟩ : ∃ wish, wish = spoil [.str (SX.S (nameOf z)), .int (roomOf r' z), .int (hourOf z), .int (longOf z), .int (rankOf z)] (cellZ ns 5 % 6).toNat odd := ⟨_, rfl⟩
  rw [← hwishE] at hwish ⊢
  have hGf : isWish r' wish = true → Good (.tuple [.str "wish", .tuple [.int 0, .int 0], .tuple [.int (0 + 1), .int 0], wish]) := fun hyes => by
    have gw := good_wish hyes
    have d := gw.2
    exact good_tup (by
      intro x hx
      simp only [List.mem_cons, List.not_mem_nil, or_false] at hx
      rcases hx with rfl | rfl | rfl | rfl
      · exact good_word (.inl rfl)
      · exact good_tup (by intro x hx; simp at hx; rcases hx with rfl | rfl <;> exact good_int _) (by simp [PyData.depthAll, PyData.depth])
      · exact good_tup (by intro x hx; simp at hx; rcases hx with rfl | rfl <;> exact good_int _) (by simp [PyData.depthAll, PyData.depth])
      · exact gw.1) (by simp [PyData.depthAll, PyData.depth]; omega)
  -- the wish
  refine gx_when fun G4 H4 g4 => ?_
  have A4 := A3.up g4
  refine ft_eq (fx_eq (fx_callF L.ref1 hr takes_none5 (fa_pa g4.s (pa_cons pv_int (pa_cons (pv_var 1) (pa_cons (pv_var 6) (pa_cons (pv_var 8) pa_nil)))) fun vs G5 H5 g5 q5 => ?_)))
  obtain ⟨u1, u2, u3, u4, rfl, e1, e2', e3, e4⟩ := dens4 q5
  have e1' := den_int e1
  subst e1'
  obtain rfl : u3 = .ref q := e3
  refine ⟨q, l, sd, _, u2, u4, wish, G5, rfl, g5.s, A4.up g5, e4, hwish.sz, fun hno G6 H6 g6 => ⟨G6, g6.g, g6.s, fx_pv g6.s pv_str fun y7 G7 H7 g7 q7 => ?_⟩, fun hyes => ⟨(show (0 : Int) ≠ 12 by decide), hGf hyes, ⟨fun z hz => by simp at hz, by simp⟩, fun G6 H6 sd' x6 _ A6 => ⟨G6, x6.g, x6.s, fx_pv x6.s pv_str fun y7 G7 H7 g7 q7 => ?_⟩⟩⟩
  · rw [den_str q7]
    refine ⟨rfl, fx_pv g7.s (pv_call L.lwish hr (pa_cons (pv_var 1) (pa_cons (pv_var 8) pa_nil)) ⟨c', r', ks, wish, rfl, hwish.sz, hwish.lay, rfl⟩) fun y8 G8 H8 g8 q8 => ?_⟩
    rw [den_bool q8, show isWish r' wish = false from hno]
    exact ⟨rfl, fun h => absurd h (by decide +kernel), fun _ => cont odd bad wish _ c' r' z ks q l sd _ G8 H8 ((((A4.up g5).up g6).up g7).up g8) ⟨fun z hz => by simp at hz, by simp⟩ rfl rfl hodd hc1 hgood⟩
  · rw [den_str q7]
    refine ⟨rfl, fx_pv g7.s (pv_call L.lwish hr (pa_cons (pv_var 1) (pa_cons (pv_var 8) pa_nil)) ⟨c', r', ks, wish, rfl, hwish.sz, hwish.lay, rfl⟩) fun y8 G8 H8 g8 q8 => ?_⟩
    rw [den_bool q8, show isWish r' wish = true from hyes]
    refine ⟨rfl, fun h => absurd h (by decide +kernel), fun _ => cont odd bad wish _ c' r' z ks q l sd' _ G8 H8 ((A6.up g7).up g8) ?_ rfl rfl hodd hc1 hgood⟩
    exact BkOk.put (n := 0) ⟨fun z hz => by simp at hz, by simp⟩ (hGf hyes)
end
end Fb

namespace Fb
open PySem PySem.Spec PyProof.Rows L2 Evl
def dd_is_within : He.DefD := ⟨("is_within", none), "is_within", "is_within", defArgs s_is_within, defBody s_is_within, defScope s_is_within, [], []⟩
def dd_is_world : He.DefD := ⟨("is_world", none), "is_world", "is_world", defArgs s_is_world, defBody s_is_world, defScope s_is_world, [], []⟩
def dd_look_world : He.DefD := ⟨("look_world", none), "look_world", "look_world", defArgs s_look_world, defBody s_look_world, defScope s_look_world, [], []⟩
def dd_is_name : He.DefD := ⟨("is_name", none), "is_name", "is_name", defArgs s_is_name, defBody s_is_name, defScope s_is_name, [], []⟩
def dd_is_place : He.DefD := ⟨("is_place", none), "is_place", "is_place", defArgs s_is_place, defBody s_is_place, defScope s_is_place, [], []⟩
def dd_is_wish : He.DefD := ⟨("is_wish", none), "is_wish", "is_wish", defArgs s_is_wish, defBody s_is_wish, defScope s_is_wish, [], []⟩
def dd_look_wish : He.DefD := ⟨("look_wish", none), "look_wish", "look_wish", defArgs s_look_wish, defBody s_look_wish, defScope s_look_wish, [], []⟩
def dd_is_booking : He.DefD := ⟨("is_booking", none), "is_booking", "is_booking", defArgs s_is_booking, defBody s_is_booking, defScope s_is_booking, [], []⟩
def dd_is_fact : He.DefD := ⟨("is_fact", none), "is_fact", "is_fact", defArgs s_is_fact, defBody s_is_fact, defScope s_is_fact, [], []⟩
def dd_look_facts : He.DefD := ⟨("look_facts", none), "look_facts", "look_facts", defArgs s_look_facts, defBody s_look_facts, defScope s_look_facts, [], []⟩
def dd_law_cell : He.DefD := ⟨("_law_cell", none), "_law_cell", "_law_cell", defArgs s_law_cell, defBody s_law_cell, defScope s_law_cell, [], []⟩
def dd_law_seed : He.DefD := ⟨("_law_seed", none), "_law_seed", "_law_seed", defArgs s_law_seed, defBody s_law_seed, defScope s_law_seed, [], []⟩
def dd_law_pick : He.DefD := ⟨("_law_pick", none), "_law_pick", "_law_pick", defArgs s_law_pick, defBody s_law_pick, defScope s_law_pick, [], []⟩
def dd_law_world : He.DefD := ⟨("_law_world", none), "_law_world", "_law_world", defArgs s_law_world, defBody s_law_world, defScope s_law_world, [], []⟩
def dd_law_wish : He.DefD := ⟨("_law_wish", none), "_law_wish", "_law_wish", defArgs s_law_wish, defBody s_law_wish, defScope s_law_wish, [], []⟩
def dd_law_as : He.DefD := ⟨("_law_as", none), "_law_as", "_law_as", defArgs s_law_as, defBody s_law_as, defScope s_law_as, [], []⟩
def dd_law_in : He.DefD := ⟨("_law_in", none), "_law_in", "_law_in", defArgs s_law_in, defBody s_law_in, defScope s_law_in, [], []⟩
def dd_law_is_world : He.DefD := ⟨("_law_is_world", none), "_law_is_world", "_law_is_world", defArgs s_law_is_world, defBody s_law_is_world, defScope s_law_is_world, [], []⟩
def dd_law_is_wish : He.DefD := ⟨("_law_is_wish", none), "_law_is_wish", "_law_is_wish", defArgs s_law_is_wish, defBody s_law_is_wish, defScope s_law_is_wish, [], []⟩
def dd_law_is_pair : He.DefD := ⟨("_law_is_pair", none), "_law_is_pair", "_law_is_pair", defArgs s_law_is_pair, defBody s_law_is_pair, defScope s_law_is_pair, [], []⟩
def dd_law_is_fact : He.DefD := ⟨("_law_is_fact", none), "_law_is_fact", "_law_is_fact", defArgs s_law_is_fact, defBody s_law_is_fact, defScope s_law_is_fact, [], []⟩
def dd_law_refusal : He.DefD := ⟨("_law_refusal", none), "_law_refusal", "_law_refusal", defArgs s_law_refusal, defBody s_law_refusal, defScope s_law_refusal, [], []⟩
def dd_law : He.DefD := ⟨("law", none), "law", "law", defArgs s_law, defBody s_law, defScope s_law, [], []⟩
def dd_Copy_init : He.DefD := ⟨("Copy", some "__init__"), "__init__", "Copy.__init__", defArgs s_Copy_init, defBody s_Copy_init, defScope s_Copy_init, [], []⟩
def dd_Copy_put : He.DefD := ⟨("Copy", some "put"), "put", "Copy.put", defArgs s_Copy_put, defBody s_Copy_put, defScope s_Copy_put, [], []⟩
def dd_Copy_tick : He.DefD := ⟨("Copy", some "tick"), "tick", "Copy.tick", defArgs s_Copy_tick, defBody s_Copy_tick, defScope s_Copy_tick, [], []⟩
def dd_Copy_wish : He.DefD := ⟨("Copy", some "wish"), "wish", "Copy.wish", defArgs s_Copy_wish, defBody s_Copy_wish, defScope s_Copy_wish, [], []⟩
def dd_Copy_told : He.DefD := ⟨("Copy", some "told"), "told", "Copy.told", defArgs s_Copy_told, defBody s_Copy_told, defScope s_Copy_told, [], []⟩
def dd_Copy_heard : He.DefD := ⟨("Copy", some "heard"), "heard", "Copy.heard", defArgs s_Copy_heard, defBody s_Copy_heard, defScope s_Copy_heard, [], []⟩
def fnL : List He.DefD := [dd_is_within, dd_is_world, dd_look_world, dd_is_name, dd_is_place, dd_is_wish, dd_look_wish, dd_is_booking, dd_is_fact, dd_look_facts, dd_law_cell, dd_law_seed, dd_law_pick, dd_law_world, dd_law_wish, dd_law_as, dd_law_in, dd_law_is_world, dd_law_is_wish, dd_law_is_pair, dd_law_is_fact, dd_law_refusal, dd_law, dd_Copy_init, dd_Copy_put, dd_Copy_tick, dd_Copy_wish, dd_Copy_told, dd_Copy_heard]
def faL0 : List He.Fa := [.glo "is_within", .glo "is_world", .glo "look_world", .glo "is_name", .glo "is_place", .glo "is_wish", .glo "look_wish", .glo "is_booking", .glo "is_fact", .glo "look_facts", .glo "_law_cell", .glo "_law_seed", .glo "_law_pick", .glo "_law_world", .glo "_law_wish", .glo "_law_as", .glo "_law_in", .glo "_law_is_world", .glo "_law_is_wish", .glo "_law_is_pair", .glo "_law_is_fact", .glo "_law_refusal", .glo "law", .free "len", .free "isinstance", .free "int", .free "bool", .free "str", .free "tuple", .free "list"]
def faL1 : List He.Fa := [.free "dict", .free "set", .free "range", .free "sorted", .free "max", .free "min", .free "abs", .free "enumerate", .free "zip", .free "sum", .int "HOURS" 24, .int "MOST_COPIES" 5, .int "MOST_ROOMS" 3, .int "MOST_LONG" 6, .int "MOST_WISHES" 12, .int "MOST_CLOCK" 9999, .str "SMALL" smallTxt, .glo "KEYS", .glo "SIZES", .glo "Copy", .cls "Copy", .mkr "Copy", .noat "Copy" "world", .noat "Copy" "mine", .noat "Copy" "facts", .noat "Copy" "clock", .noat "Copy" "own", .noat "Copy" "seen", .meth "Copy" "put", .meth "Copy" "tick"]
def faL2 : List He.Fa := [.meth "Copy" "wish", .meth "Copy" "told", .meth "Copy" "heard", .glo "BadWorld", .exc "BadWorld", .glo "BadCopy", .exc "BadCopy", .glo "BadWish", .exc "BadWish", .glo "BadFacts", .exc "BadFacts", .glo "NoBooking", .exc "NoBooking", .glo "Full", .exc "Full", .exm "BadWorld" "BadWorld" true, .exm "BadCopy" "BadWorld" false, .exm "BadCopy" "BadCopy" true, .exm "BadWish" "BadWorld" false, .exm "BadWish" "BadCopy" false, .exm "BadWish" "BadWish" true, .exm "BadFacts" "BadWorld" false, .exm "BadFacts" "BadCopy" false, .exm "BadFacts" "BadWish" false, .exm "BadFacts" "BadFacts" true]
def faL : List He.Fa := faL0 ++ (faL1 ++ (faL2))
def kv_SIZES : List (Str × Int) := [("wish", 4), ("off", 2), ("pin", 4)]
def tu_KEYS : List Str := ["rank", "first", "short", "early"]
def tsL : List He.Tab := [(fun K => He.ga K "SIZES", kv_SIZES.map (·.1))]
def exL (K : PySem.W.Frag) : Bool := He.tupB K "KEYS" (tu_KEYS.map He.Dv.str) && (He.valsB K (He.ga K "SIZES") (kv_SIZES.map fun q => (q.1, .int q.2)))
abbrev RW : PySem.W.OpenRow := PySem.W.OpenLaw.row PySem.Challenge.rw_farbook_k02_worlds
abbrev hk : PySem.W.Hook := He.hookX 5 faL fnL tsL [] exL
def ob (s : PySem.W.SharedT) : He.AlX := He.obsX 5 faL fnL tsL [] exL (HandSHeadRun.getT s)
theorem ob_eq (s : PySem.W.SharedT) : ob s = hk.obs s.abs := He.obsX_eq (HandSHeadRun.getT_eq s)
def loose0 : List Str := ["_wall", "BookError", "BadWorld", "BadWish", "BadCopy", "NoBooking", "Full", "BadFacts", "HOURS", "MOST_COPIES", "MOST_ROOMS", "MOST_LONG", "MOST_WISHES", "MOST_CLOCK", "KEYS", "SMALL", "SIZES", "is_within", "is_world", "look_world"]
def loose1 : List Str := ["is_name", "is_place", "is_wish", "look_wish", "is_booking", "is_fact", "look_facts", "wishes_in", "pins_in", "key_of", "in_order", "is_free", "fill", "nearest", "placed", "Copy", "_law_cell", "_law_seed", "_law_pick", "_law_world"]
def loose2 : List Str := ["_law_wish", "_law_as", "_law_in", "_law_is_world", "_law_is_wish", "_law_is_pair", "_law_is_fact", "_law_refusal"]
def looseL : List Str := loose0 ++ (loose1 ++ (loose2))
theorem run_false (w : World) : HandSHeadRun.RunEq RW (PySem.W.view RW.prog [53]) hk ob 20000 looseL (w.withFollow "special-get-raises" false) := by
  intro os
  kernel_rfl
theorem run_true (w : World) : HandSHeadRun.RunEq RW (PySem.W.view RW.prog [53]) hk ob 20000 looseL (w.withFollow "special-get-raises" true) := by
  intro os
  kernel_rfl
theorem run (w : World) : HandSHeadRun.RunEq RW (PySem.W.view RW.prog [53]) hk ob 20000 looseL w := PySem.W.byRow2 "special-get-raises" (P := fun w => HandSHeadRun.RunEq RW (PySem.W.view RW.prog [53]) hk ob 20000 looseL w) run_false run_true w
theorem facts {P : Program} {w : World} {K : PySem.W.Frag} {h : Heap} {mg : Str → Option Value} {f : Addr} (X : K.In h) (G : h.Ns mainGlobals mg) (hfa : mg ("law" : Str) = some (.ref f)) (c : He.SaysX faL fnL tsL [] exL w h K) :
    ∃ fd : FuncData, (∀ (s : Shared) (v : Value), BindsTo s fd ⟨[v], []⟩ [("script", v)]) ∧ ∀ base : Heap, K.In base → base.Ns mainGlobals mg → FnOk P w K mg base (L2.CX P w) 8 f fd ["script"] (spLaw K) := by
  obtain ⟨fd_is_within, E_is_within⟩ := c.t.d.def_ 0 (d := dd_is_within) rfl
  have F_is_within : Fun K "is_within" "is_within" s_is_within (He.ga K "is_within") fd_is_within := fun_of E_is_within
  have b_is_within := F_is_within.binds (ps := ["thing", "low", "high"]) fun _ _ _ _ _ _ us hl => match us, hl with | [_, _, _], _ => rfl
  obtain ⟨fd_is_world, E_is_world⟩ := c.t.d.def_ 1 (d := dd_is_world) rfl
  have F_is_world : Fun K "is_world" "is_world" s_is_world (He.ga K "is_world") fd_is_world := fun_of E_is_world
  have b_is_world := F_is_world.binds (ps := ["thing"]) fun _ _ _ _ _ _ us hl => match us, hl with | [_], _ => rfl
  obtain ⟨fd_look_world, E_look_world⟩ := c.t.d.def_ 2 (d := dd_look_world) rfl
  have F_look_world : Fun K "look_world" "look_world" s_look_world (He.ga K "look_world") fd_look_world := fun_of E_look_world
  have b_look_world := F_look_world.binds (ps := ["thing"]) fun _ _ _ _ _ _ us hl => match us, hl with | [_], _ => rfl
  obtain ⟨fd_is_name, E_is_name⟩ := c.t.d.def_ 3 (d := dd_is_name) rfl
  have F_is_name : Fun K "is_name" "is_name" s_is_name (He.ga K "is_name") fd_is_name := fun_of E_is_name
  have b_is_name := F_is_name.binds (ps := ["thing"]) fun _ _ _ _ _ _ us hl => match us, hl with | [_], _ => rfl
  obtain ⟨fd_is_place, E_is_place⟩ := c.t.d.def_ 4 (d := dd_is_place) rfl
  have F_is_place : Fun K "is_place" "is_place" s_is_place (He.ga K "is_place") fd_is_place := fun_of E_is_place
  have b_is_place := F_is_place.binds (ps := ["world", "long", "room", "hour"]) fun _ _ _ _ _ _ us hl => match us, hl with | [_, _, _, _], _ => rfl
  obtain ⟨fd_is_wish, E_is_wish⟩ := c.t.d.def_ 5 (d := dd_is_wish) rfl
  have F_is_wish : Fun K "is_wish" "is_wish" s_is_wish (He.ga K "is_wish") fd_is_wish := fun_of E_is_wish
  have b_is_wish := F_is_wish.binds (ps := ["world", "thing"]) fun _ _ _ _ _ _ us hl => match us, hl with | [_, _], _ => rfl
  obtain ⟨fd_look_wish, E_look_wish⟩ := c.t.d.def_ 6 (d := dd_look_wish) rfl
  have F_look_wish : Fun K "look_wish" "look_wish" s_look_wish (He.ga K "look_wish") fd_look_wish := fun_of E_look_wish
  have b_look_wish := F_look_wish.binds (ps := ["world", "thing"]) fun _ _ _ _ _ _ us hl => match us, hl with | [_, _], _ => rfl
  obtain ⟨fd_is_booking, E_is_booking⟩ := c.t.d.def_ 7 (d := dd_is_booking) rfl
  have F_is_booking : Fun K "is_booking" "is_booking" s_is_booking (He.ga K "is_booking") fd_is_booking := fun_of E_is_booking
  have b_is_booking := F_is_booking.binds (ps := ["world", "thing"]) fun _ _ _ _ _ _ us hl => match us, hl with | [_, _], _ => rfl
  obtain ⟨fd_is_fact, E_is_fact⟩ := c.t.d.def_ 8 (d := dd_is_fact) rfl
  have F_is_fact : Fun K "is_fact" "is_fact" s_is_fact (He.ga K "is_fact") fd_is_fact := fun_of E_is_fact
  have b_is_fact := F_is_fact.binds (ps := ["world", "thing"]) fun _ _ _ _ _ _ us hl => match us, hl with | [_, _], _ => rfl
  obtain ⟨fd_look_facts, E_look_facts⟩ := c.t.d.def_ 9 (d := dd_look_facts) rfl
  have F_look_facts : Fun K "look_facts" "look_facts" s_look_facts (He.ga K "look_facts") fd_look_facts := fun_of E_look_facts
  have b_look_facts := F_look_facts.binds (ps := ["world", "thing"]) fun _ _ _ _ _ _ us hl => match us, hl with | [_, _], _ => rfl
  obtain ⟨fd_law_cell, E_law_cell⟩ := c.t.d.def_ 10 (d := dd_law_cell) rfl
  have F_law_cell : Fun K "_law_cell" "_law_cell" s_law_cell (He.ga K "_law_cell") fd_law_cell := fun_of E_law_cell
  have b_law_cell := F_law_cell.binds (ps := ["script", "k"]) fun _ _ _ _ _ _ us hl => match us, hl with | [_, _], _ => rfl
  obtain ⟨fd_law_seed, E_law_seed⟩ := c.t.d.def_ 11 (d := dd_law_seed) rfl
  have F_law_seed : Fun K "_law_seed" "_law_seed" s_law_seed (He.ga K "_law_seed") fd_law_seed := fun_of E_law_seed
  have b_law_seed := F_law_seed.binds (ps := ["seed", "k"]) fun _ _ _ _ _ _ us hl => match us, hl with | [_, _], _ => rfl
  obtain ⟨fd_law_pick, E_law_pick⟩ := c.t.d.def_ 12 (d := dd_law_pick) rfl
  have F_law_pick : Fun K "_law_pick" "_law_pick" s_law_pick (He.ga K "_law_pick") fd_law_pick := fun_of E_law_pick
  have b_law_pick := F_law_pick.binds (ps := ["seed", "many"]) fun _ _ _ _ _ _ us hl => match us, hl with | [_, _], _ => rfl
  obtain ⟨fd_law_world, E_law_world⟩ := c.t.d.def_ 13 (d := dd_law_world) rfl
  have F_law_world : Fun K "_law_world" "_law_world" s_law_world (He.ga K "_law_world") fd_law_world := fun_of E_law_world
  have b_law_world := F_law_world.binds (ps := ["cell"]) fun _ _ _ _ _ _ us hl => match us, hl with | [_], _ => rfl
  obtain ⟨fd_law_wish, E_law_wish⟩ := c.t.d.def_ 14 (d := dd_law_wish) rfl
  have F_law_wish : Fun K "_law_wish" "_law_wish" s_law_wish (He.ga K "_law_wish") fd_law_wish := fun_of E_law_wish
  have b_law_wish := F_law_wish.binds (ps := ["world", "seed"]) fun _ _ _ _ _ _ us hl => match us, hl with | [_, _], _ => rfl
  obtain ⟨fd_law_as, E_law_as⟩ := c.t.d.def_ 15 (d := dd_law_as) rfl
  have F_law_as : Fun K "_law_as" "_law_as" s_law_as (He.ga K "_law_as") fd_law_as := fun_of E_law_as
  have b_law_as := F_law_as.binds (ps := ["told", "due"]) fun _ _ _ _ _ _ us hl => match us, hl with | [_, _], _ => rfl
  obtain ⟨fd_law_in, E_law_in⟩ := c.t.d.def_ 16 (d := dd_law_in) rfl
  have F_law_in : Fun K "_law_in" "_law_in" s_law_in (He.ga K "_law_in") fd_law_in := fun_of E_law_in
  have b_law_in := F_law_in.binds (ps := ["thing", "low", "high"]) fun _ _ _ _ _ _ us hl => match us, hl with | [_, _, _], _ => rfl
  obtain ⟨fd_law_is_world, E_law_is_world⟩ := c.t.d.def_ 17 (d := dd_law_is_world) rfl
  have F_law_is_world : Fun K "_law_is_world" "_law_is_world" s_law_is_world (He.ga K "_law_is_world") fd_law_is_world := fun_of E_law_is_world
  have b_law_is_world := F_law_is_world.binds (ps := ["thing"]) fun _ _ _ _ _ _ us hl => match us, hl with | [_], _ => rfl
  obtain ⟨fd_law_is_wish, E_law_is_wish⟩ := c.t.d.def_ 18 (d := dd_law_is_wish) rfl
  have F_law_is_wish : Fun K "_law_is_wish" "_law_is_wish" s_law_is_wish (He.ga K "_law_is_wish") fd_law_is_wish := fun_of E_law_is_wish
  have b_law_is_wish := F_law_is_wish.binds (ps := ["world", "thing"]) fun _ _ _ _ _ _ us hl => match us, hl with | [_, _], _ => rfl
  obtain ⟨fd_law_is_pair, E_law_is_pair⟩ := c.t.d.def_ 19 (d := dd_law_is_pair) rfl
  have F_law_is_pair : Fun K "_law_is_pair" "_law_is_pair" s_law_is_pair (He.ga K "_law_is_pair") fd_law_is_pair := fun_of E_law_is_pair
  have b_law_is_pair := F_law_is_pair.binds (ps := ["thing", "first", "second"]) fun _ _ _ _ _ _ us hl => match us, hl with | [_, _, _], _ => rfl
  obtain ⟨fd_law_is_fact, E_law_is_fact⟩ := c.t.d.def_ 20 (d := dd_law_is_fact) rfl
  have F_law_is_fact : Fun K "_law_is_fact" "_law_is_fact" s_law_is_fact (He.ga K "_law_is_fact") fd_law_is_fact := fun_of E_law_is_fact
  have b_law_is_fact := F_law_is_fact.binds (ps := ["world", "thing"]) fun _ _ _ _ _ _ us hl => match us, hl with | [_, _], _ => rfl
  obtain ⟨fd_law_refusal, E_law_refusal⟩ := c.t.d.def_ 21 (d := dd_law_refusal) rfl
  have F_law_refusal : Fun K "_law_refusal" "_law_refusal" s_law_refusal (He.ga K "_law_refusal") fd_law_refusal := fun_of E_law_refusal
  have b_law_refusal := F_law_refusal.binds (ps := ["kind", "world", "here", "thing"]) fun _ _ _ _ _ _ us hl => match us, hl with | [_, _, _, _], _ => rfl
  obtain ⟨fd_law, E_law⟩ := c.t.d.def_ 22 (d := dd_law) rfl
  have F_law : Fun K "law" "law" s_law (He.ga K "law") fd_law := fun_of E_law
  have b_law := F_law.binds (ps := ["script"]) fun _ _ _ _ _ _ us hl => match us, hl with | [_], _ => rfl
  obtain ⟨fd_Copy_init, E_Copy_init⟩ := c.t.d.def_ 23 (d := dd_Copy_init) rfl
  have F_Copy_init : Fun K "__init__" "Copy.__init__" s_Copy_init (He.ma K (He.ga K "Copy") "__init__") fd_Copy_init := fun_of E_Copy_init
  have b_Copy_init := F_Copy_init.binds (ps := ["self", "world", "mine"]) fun _ _ _ _ _ _ us hl => match us, hl with | [_, _, _], _ => rfl
  obtain ⟨fd_Copy_put, E_Copy_put⟩ := c.t.d.def_ 24 (d := dd_Copy_put) rfl
  have F_Copy_put : Fun K "put" "Copy.put" s_Copy_put (He.ma K (He.ga K "Copy") "put") fd_Copy_put := fun_of E_Copy_put
  have b_Copy_put := F_Copy_put.binds (ps := ["self", "fact"]) fun _ _ _ _ _ _ us hl => match us, hl with | [_, _], _ => rfl
  obtain ⟨fd_Copy_tick, E_Copy_tick⟩ := c.t.d.def_ 25 (d := dd_Copy_tick) rfl
  have F_Copy_tick : Fun K "tick" "Copy.tick" s_Copy_tick (He.ma K (He.ga K "Copy") "tick") fd_Copy_tick := fun_of E_Copy_tick
  have b_Copy_tick := F_Copy_tick.binds (ps := ["self"]) fun _ _ _ _ _ _ us hl => match us, hl with | [_], _ => rfl
  obtain ⟨fd_Copy_wish, E_Copy_wish⟩ := c.t.d.def_ 26 (d := dd_Copy_wish) rfl
  have F_Copy_wish : Fun K "wish" "Copy.wish" s_Copy_wish (He.ma K (He.ga K "Copy") "wish") fd_Copy_wish := fun_of E_Copy_wish
  have b_Copy_wish := F_Copy_wish.binds (ps := ["self", "thing"]) fun _ _ _ _ _ _ us hl => match us, hl with | [_, _], _ => rfl
  obtain ⟨fd_Copy_told, E_Copy_told⟩ := c.t.d.def_ 27 (d := dd_Copy_told) rfl
  have F_Copy_told : Fun K "told" "Copy.told" s_Copy_told (He.ma K (He.ga K "Copy") "told") fd_Copy_told := fun_of E_Copy_told
  have b_Copy_told := F_Copy_told.binds (ps := ["self"]) fun _ _ _ _ _ _ us hl => match us, hl with | [_], _ => rfl
  obtain ⟨fd_Copy_heard, E_Copy_heard⟩ := c.t.d.def_ 28 (d := dd_Copy_heard) rfl
  have F_Copy_heard : Fun K "heard" "Copy.heard" s_Copy_heard (He.ma K (He.ga K "Copy") "heard") fd_Copy_heard := fun_of E_Copy_heard
  have b_Copy_heard := F_Copy_heard.binds (ps := ["self", "facts"]) fun _ _ _ _ _ _ us hl => match us, hl with | [_, _], _ => rfl
  have e := hfa.symm.trans (He.glo_ok X G (c.t.d.fact 22 (f := .glo "law") rfl))
  cases e
  have hex := c.more
  unfold exL at hex
  simp only [Bool.and_eq_true] at hex
  obtain ⟨hx0, hx1⟩ := hex
  have TBadWorld : Ec K mg "BadWorld" (He.ga K "BadWorld") := ec_of X G (c.t.d.fact 63 (f := .glo "BadWorld") rfl) (c.t.d.fact 64 (f := .exc "BadWorld") rfl)
  have TBadCopy : Ec K mg "BadCopy" (He.ga K "BadCopy") := ec_of X G (c.t.d.fact 65 (f := .glo "BadCopy") rfl) (c.t.d.fact 66 (f := .exc "BadCopy") rfl)
  have TBadWish : Ec K mg "BadWish" (He.ga K "BadWish") := ec_of X G (c.t.d.fact 67 (f := .glo "BadWish") rfl) (c.t.d.fact 68 (f := .exc "BadWish") rfl)
  have TBadFacts : Ec K mg "BadFacts" (He.ga K "BadFacts") := ec_of X G (c.t.d.fact 69 (f := .glo "BadFacts") rfl) (c.t.d.fact 70 (f := .exc "BadFacts") rfl)
  have TNoBooking : Ec K mg "NoBooking" (He.ga K "NoBooking") := ec_of X G (c.t.d.fact 71 (f := .glo "NoBooking") rfl) (c.t.d.fact 72 (f := .exc "NoBooking") rfl)
  have TFull : Ec K mg "Full" (He.ga K "Full") := ec_of X G (c.t.d.fact 73 (f := .glo "Full") rfl) (c.t.d.fact 74 (f := .exc "Full") rfl)
  refine ⟨fd_law, fun s v => (FunD.bindsA (ps := ["script"]) E_law fun _ _ _ _ _ _ us hl => match us, hl with | [_], _ => rfl) s [v] rfl, fun base _ _ => ?_⟩
  have B : Bl mg := ⟨(He.free_ok X G (c.t.d.fact 23 (f := .free "len") rfl)), (He.free_ok X G (c.t.d.fact 24 (f := .free "isinstance") rfl)), (He.free_ok X G (c.t.d.fact 25 (f := .free "int") rfl)), (He.free_ok X G (c.t.d.fact 26 (f := .free "bool") rfl)), (He.free_ok X G (c.t.d.fact 27 (f := .free "str") rfl)), (He.free_ok X G (c.t.d.fact 28 (f := .free "tuple") rfl)), (He.free_ok X G (c.t.d.fact 29 (f := .free "list") rfl)), (He.free_ok X G (c.t.d.fact 30 (f := .free "dict") rfl)), (He.free_ok X G (c.t.d.fact 31 (f := .free "set") rfl)), (He.free_ok X G (c.t.d.fact 32 (f := .free "range") rfl)), (He.free_ok X G (c.t.d.fact 33 (f := .free "sorted") rfl)), (He.free_ok X G (c.t.d.fact 34 (f := .free "max") rfl)), (He.free_ok X G (c.t.d.fact 35 (f := .free "min") rfl)), (He.free_ok X G (c.t.d.fact 36 (f := .free "abs") rfl)), (He.free_ok X G (c.t.d.fact 37 (f := .free "enumerate") rfl)), (He.free_ok X G (c.t.d.fact 38 (f := .free "zip") rfl)), (He.free_ok X G (c.t.d.fact 39 (f := .free "sum") rfl))⟩
  have hkd : Kd K w (He.ga K "SIZES") sizesGet := kd_of (kvs := kv_SIZES) (tab_of c.t 0) hx1 sizesGet (fun q hq => by simp only [kv_SIZES, List.mem_cons, List.not_mem_nil, or_false] at hq; rcases hq with rfl | rfl | rfl <;> decide +kernel) (fun x hx => by simp only [kv_SIZES, List.map_cons, List.map_nil, List.mem_cons, List.not_mem_nil, or_false, not_or] at hx; unfold sizesGet; rw [if_neg hx.1, if_neg hx.2.1, if_neg hx.2.2])
  have Cc : Cs K w mg := ⟨(He.int_ok X G (c.t.d.fact 40 (f := .int "HOURS" 24) rfl)), (He.int_ok X G (c.t.d.fact 41 (f := .int "MOST_COPIES" 5) rfl)), (He.int_ok X G (c.t.d.fact 42 (f := .int "MOST_ROOMS" 3) rfl)), (He.int_ok X G (c.t.d.fact 43 (f := .int "MOST_LONG" 6) rfl)), (He.int_ok X G (c.t.d.fact 44 (f := .int "MOST_WISHES" 12) rfl)), (He.int_ok X G (c.t.d.fact 45 (f := .int "MOST_CLOCK" 9999) rfl)), (He.str_ok X G (c.t.d.fact 46 (f := .str "SMALL" smallTxt) rfl)), ⟨_, (He.glo_ok X G (c.t.d.fact 47 (f := .glo "KEYS") rfl)), fun H => strs_of (ss := tu_KEYS) hx0 H⟩, ⟨_, (He.glo_ok X G (c.t.d.fact 48 (f := .glo "SIZES") rfl)), hkd⟩⟩
  have T : Tc K (He.ga K "Copy") := ⟨He.cls_ok (c.t.d.fact 50 (f := .cls "Copy") rfl), He.noat_ok (c.t.d.fact 52 (f := .noat "Copy" "world") rfl), He.noat_ok (c.t.d.fact 53 (f := .noat "Copy" "mine") rfl), He.noat_ok (c.t.d.fact 54 (f := .noat "Copy" "facts") rfl), He.noat_ok (c.t.d.fact 55 (f := .noat "Copy" "clock") rfl), He.noat_ok (c.t.d.fact 56 (f := .noat "Copy" "own") rfl), He.noat_ok (c.t.d.fact 57 (f := .noat "Copy" "seen") rfl)⟩
  have M : Xm K (He.ga K "BadWorld") (He.ga K "BadCopy") (He.ga K "BadWish") (He.ga K "BadFacts") (He.ga K "NoBooking") := ⟨(He.exm_ok (c.t.d.fact 75 (f := .exm "BadWorld" "BadWorld" true) rfl)), (He.exm_ok (c.t.d.fact 76 (f := .exm "BadCopy" "BadWorld" false) rfl)), (He.exm_ok (c.t.d.fact 77 (f := .exm "BadCopy" "BadCopy" true) rfl)), (He.exm_ok (c.t.d.fact 78 (f := .exm "BadWish" "BadWorld" false) rfl)), (He.exm_ok (c.t.d.fact 79 (f := .exm "BadWish" "BadCopy" false) rfl)), (He.exm_ok (c.t.d.fact 80 (f := .exm "BadWish" "BadWish" true) rfl)), (He.exm_ok (c.t.d.fact 81 (f := .exm "BadFacts" "BadWorld" false) rfl)), (He.exm_ok (c.t.d.fact 82 (f := .exm "BadFacts" "BadCopy" false) rfl)), (He.exm_ok (c.t.d.fact 83 (f := .exm "BadFacts" "BadWish" false) rfl)), (He.exm_ok (c.t.d.fact 84 (f := .exm "BadFacts" "BadFacts" true) rfl))⟩
  have Hwithin := fc_mk (x := "is_within") (ok_is_within (P := P) (w := w) (mg := mg) (base := base) F_is_within B) (He.glo_ok X G (c.t.d.fact 0 (f := .glo "is_within") rfl)) F_is_within.kp b_is_within
  have Hisworld := fc_mk (x := "is_world") (ok_is_world (P := P) (w := w) (mg := mg) (base := base) F_is_world B Cc Hwithin) (He.glo_ok X G (c.t.d.fact 1 (f := .glo "is_world") rfl)) F_is_world.kp b_is_world
  have Hlookworld := fc_mk (x := "look_world") (ok_look_world (P := P) (w := w) (mg := mg) (base := base) F_look_world Hisworld TBadWorld) (He.glo_ok X G (c.t.d.fact 2 (f := .glo "look_world") rfl)) F_look_world.kp b_look_world
  have Hname := fc_mk (x := "is_name") (ok_is_name (P := P) (w := w) (mg := mg) (base := base) F_is_name B Cc) (He.glo_ok X G (c.t.d.fact 3 (f := .glo "is_name") rfl)) F_is_name.kp b_is_name
  have Hplace := fc_mk (x := "is_place") (ok_is_place (P := P) (w := w) (mg := mg) (base := base) F_is_place Cc Hwithin) (He.glo_ok X G (c.t.d.fact 4 (f := .glo "is_place") rfl)) F_is_place.kp b_is_place
  have Hwish := fc_mk (x := "is_wish") (ok_is_wish (P := P) (w := w) (mg := mg) (base := base) F_is_wish B Cc Hwithin Hname Hplace) (He.glo_ok X G (c.t.d.fact 5 (f := .glo "is_wish") rfl)) F_is_wish.kp b_is_wish
  have Hlookwish := fc_mk (x := "look_wish") (ok_look_wish (P := P) (w := w) (mg := mg) (base := base) F_look_wish Hwish TBadWish) (He.glo_ok X G (c.t.d.fact 6 (f := .glo "look_wish") rfl)) F_look_wish.kp b_look_wish
  have Hbooking := fc_mk (x := "is_booking") (ok_is_booking (P := P) (w := w) (mg := mg) (base := base) F_is_booking B Cc Hwithin) (He.glo_ok X G (c.t.d.fact 7 (f := .glo "is_booking") rfl)) F_is_booking.kp b_is_booking
  have Hfact := fc_mk (x := "is_fact") (ok_is_fact (P := P) (w := w) (mg := mg) (base := base) F_is_fact B Cc Hwithin Hbooking Hwish Hplace) (He.glo_ok X G (c.t.d.fact 8 (f := .glo "is_fact") rfl)) F_is_fact.kp b_is_fact
  have Hlookfacts := fc_mk (x := "look_facts") (ok_look_facts (P := P) (w := w) (mg := mg) (base := base) F_look_facts B Hfact TBadFacts) (He.glo_ok X G (c.t.d.fact 9 (f := .glo "look_facts") rfl)) F_look_facts.kp b_look_facts
  have Hmake : FkCopy P w K mg base (He.ga K "Copy") (He.ga K "BadWorld") (He.ga K "BadCopy") := ⟨_, _, _, ok_init (P := P) (w := w) (mg := mg) (base := base) F_Copy_init T Hlookworld Hwithin TBadCopy, He.mkr_ok (c.t.d.fact 51 (f := .mkr "Copy") rfl), b_Copy_init, (He.glo_ok X G (c.t.d.fact 49 (f := .glo "Copy") rfl))⟩
  have Hput : Fm P w K mg base _ (He.ga K "Copy") "put" _ := ⟨_, _, _, ok_put (P := P) (w := w) (mg := mg) (base := base) F_Copy_put T, He.meth_ok (c.t.d.fact 58 (f := .meth "Copy" "put") rfl), b_Copy_put⟩
  have Htick : Fm P w K mg base _ (He.ga K "Copy") "tick" _ := ⟨_, _, _, ok_tick (P := P) (w := w) (mg := mg) (base := base) F_Copy_tick T, He.meth_ok (c.t.d.fact 59 (f := .meth "Copy" "tick") rfl), b_Copy_tick⟩
  have Hmwish : Fm P w K mg base _ (He.ga K "Copy") "wish" _ := ⟨_, _, _, ok_wish (P := P) (w := w) (mg := mg) (base := base) F_Copy_wish T Cc Hlookwish Hput Htick TFull, He.meth_ok (c.t.d.fact 60 (f := .meth "Copy" "wish") rfl), b_Copy_wish⟩
  have Htold : Fm P w K mg base _ (He.ga K "Copy") "told" _ := ⟨_, _, _, ok_told1 (P := P) (w := w) (mg := mg) (base := base) F_Copy_told B T, He.meth_ok (c.t.d.fact 61 (f := .meth "Copy" "told") rfl), b_Copy_told⟩
  have Hheard : Fm P w K mg base _ (He.ga K "Copy") "heard" _ := ⟨_, _, _, ok_heard (P := P) (w := w) (mg := mg) (base := base) F_Copy_heard B T Hlookfacts Hput, He.meth_ok (c.t.d.fact 62 (f := .meth "Copy" "heard") rfl), b_Copy_heard⟩
  have Lcell := fc_mk (x := "_law_cell") (ok_cell (P := P) (w := w) (mg := mg) (base := base) F_law_cell B) (He.glo_ok X G (c.t.d.fact 10 (f := .glo "_law_cell") rfl)) F_law_cell.kp b_law_cell
  have Lseed := fc_mk (x := "_law_seed") (ok_seed (P := P) (w := w) (mg := mg) (base := base) F_law_seed ) (He.glo_ok X G (c.t.d.fact 11 (f := .glo "_law_seed") rfl)) F_law_seed.kp b_law_seed
  have Lpick := fc_mk (x := "_law_pick") (ok_pick (P := P) (w := w) (mg := mg) (base := base) F_law_pick ) (He.glo_ok X G (c.t.d.fact 12 (f := .glo "_law_pick") rfl)) F_law_pick.kp b_law_pick
  have Lworld := fc_mk (x := "_law_world") (ok_lworld (P := P) (w := w) (mg := mg) (base := base) F_law_world B Lseed Lpick) (He.glo_ok X G (c.t.d.fact 13 (f := .glo "_law_world") rfl)) F_law_world.kp b_law_world
  have Lwish := fc_mk (x := "_law_wish") (ok_lwish (P := P) (w := w) (mg := mg) (base := base) F_law_wish B Lseed Lpick) (He.glo_ok X G (c.t.d.fact 14 (f := .glo "_law_wish") rfl)) F_law_wish.kp b_law_wish
  have Las := fc_mk (x := "_law_as") (ok_las (P := P) (w := w) (mg := mg) (base := base) F_law_as B) (He.glo_ok X G (c.t.d.fact 15 (f := .glo "_law_as") rfl)) F_law_as.kp b_law_as
  have Lin := fc_mk (x := "_law_in") (ok_lin (P := P) (w := w) (mg := mg) (base := base) F_law_in B) (He.glo_ok X G (c.t.d.fact 16 (f := .glo "_law_in") rfl)) F_law_in.kp b_law_in
  have Lpair := fc_mk (x := "_law_is_pair") (ok_lpair (P := P) (w := w) (mg := mg) (base := base) F_law_is_pair B Lin) (He.glo_ok X G (c.t.d.fact 19 (f := .glo "_law_is_pair") rfl)) F_law_is_pair.kp b_law_is_pair
  have Lisworld := fc_mk (x := "_law_is_world") (ok_lisworld (P := P) (w := w) (mg := mg) (base := base) F_law_is_world B Lin) (He.glo_ok X G (c.t.d.fact 17 (f := .glo "_law_is_world") rfl)) F_law_is_world.kp b_law_is_world
  have Liswish := fc_mk (x := "_law_is_wish") (ok_liswish (P := P) (w := w) (mg := mg) (base := base) F_law_is_wish B Lin) (He.glo_ok X G (c.t.d.fact 18 (f := .glo "_law_is_wish") rfl)) F_law_is_wish.kp b_law_is_wish
  have Lisfact := fc_mk (x := "_law_is_fact") (ok_lisfact (P := P) (w := w) (mg := mg) (base := base) F_law_is_fact B Lpair Liswish) (He.glo_ok X G (c.t.d.fact 20 (f := .glo "_law_is_fact") rfl)) F_law_is_fact.kp b_law_is_fact
  have Lref0 := fc_mk (x := "_law_refusal") (ok_ref0 (P := P) (w := w) (mg := mg) (base := base) F_law_refusal Hmake TBadWorld TBadCopy TBadWish TBadFacts TNoBooking M) (He.glo_ok X G (c.t.d.fact 21 (f := .glo "_law_refusal") rfl)) F_law_refusal.kp b_law_refusal
  have Lref1 := fc_mk (x := "_law_refusal") (ok_ref1 (P := P) (w := w) (mg := mg) (base := base) F_law_refusal T Hmwish TBadWorld TBadCopy TBadWish TBadFacts TNoBooking M) (He.glo_ok X G (c.t.d.fact 21 (f := .glo "_law_refusal") rfl)) F_law_refusal.kp b_law_refusal
  have Lref2 := fc_mk (x := "_law_refusal") (ok_ref2 (P := P) (w := w) (mg := mg) (base := base) F_law_refusal T Hheard TBadWorld TBadCopy TBadWish TBadFacts TNoBooking M) (He.glo_ok X G (c.t.d.fact 21 (f := .glo "_law_refusal") rfl)) F_law_refusal.kp b_law_refusal
  exact ok_law (P := P) (w := w) (mg := mg) (base := base) F_law ⟨B, T, Lcell, Lseed, Lworld, Lwish, Las, Lisworld, Liswish, Lisfact, Hisworld, Lref0, Lref1, Lref2, Hmake, Htold⟩
end Fb
open PySem PySem.W PySem.Calls PyProof.Rows in
set_option maxRecDepth 100000 in
set_option maxHeartbeats 0 in
theorem PySem.Challenge.cw_farbook_k02_worlds_holds : PySem.Challenge.rw_farbook_k02_worlds.Holds := by
  w_on; o_law
  refine HandSHeadRun.head_any (r := OpenLaw.row PySem.Challenge.rw_farbook_k02_worlds) (q := view (OpenLaw.row PySem.Challenge.rw_farbook_k02_worlds).prog [53]) (H := Fb.hk) (ob := Fb.ob) (M := 20000) (loose := Fb.looseL) (d := HandSHeadRun.topDef (OpenLaw.row PySem.Challenge.rw_farbook_k02_worlds).prog 53) (kwd := []) Fb.ob_eq
    (by kernel_rfl) (fun s => by kernel_rfl) Fb.run (by kernel_rfl) (by kernel_rfl) (by kernel_rfl) (by rfl) (by first | assumption | decide +kernel) (by decide +kernel) ⟨rfl, rfl, rfl, rfl, rfl, by decide +kernel⟩ ?hw ?hc
  case hw => w_witness2
  case hc =>
    refine Fb.walkF (l := PySem.Challenge.rw_farbook_k02_worlds) (n := 63) (k := 8) (x := "script") rfl (by decide) (by kernel_rfl) ⟨rfl, by decide, by decide⟩ ?F
    intro w mg fa h Y G hmg0
    obtain ⟨K, KX, c⟩ := Y
    have hmg : mg ("law" : PySem.Str) = some (.ref fa) := by
      have e : (HandSHeadRun.topDef (OpenLaw.row PySem.Challenge.rw_farbook_k02_worlds).prog 53).name = ("law" : PySem.Str) := by kernel_rfl
      rw [← e]
      exact hmg0
    obtain ⟨fd, hb, hF⟩ := Fb.facts (P := (PySem.Challenge.rw_farbook_k02_worlds).prog) (w := w) KX G hmg c
    exact ⟨K, fd, Fb.spLaw K, KX, hb, fun H a ns hl _ hS => ⟨a, ns, rfl, hS, fun _ => rfl⟩, hF⟩
