import PyProof.Rows.All
import Wide.All
import OpenK.AllK
import Wide.FinOn
import HandS.ForMost
import HandS.TupAny
import HandS.Wide
import HandS.WideMore
import HandS.Flow
import HandS.Small
import HandS.SortInts
import HandS.WordsDict
import HandS.RaiseMore
import HandS.More
import HandS.Iter
import HandS.Text
import HandS.DictComp
import HandS.Style
import HandS.Zip
import HandS.Ends
import HandS.EndOwn
import HandS.SetFor
import HandS.Strs
import HandS.DictTup
import HandS.SortRule
import KE.KDictPairs
import KE.GoesEnum
import HandS.TupMul
import PySem.Challenge.RW_nocyclemore_k51_whole_caches_with_more_w
set_option Elab.async false
set_option linter.all false
set_option maxRecDepth 100000
set_option autoImplicit false
set_option maxHeartbeats 8000000
/-! FL0: tuples whose object is known to have no dict: the rules that make them. -/
namespace FL
open PySem PySem.Spec PyProof.Rows L2
/-- a tuple whose object is at hand and has no dict -/
def TupP (K : PySem.W.Frag) (H : Hp) (a : Addr) (xs : List V) : Prop :=
  (∃ o, H a = some (.frz o (.tup xs)) ∧ o.dict = none) ∨ ∃ (o : Obj) (its : Array Value) (n : Nat), K.lookup a = some o ∧ o.cls = .type "tuple" ∧ o.dict = none ∧ o.data = .seq its n ∧ its.size ≤ sizeLine ∧ Vals xs its.toList
theorem TupP.sq {K : PySem.W.Frag} {H : Hp} {a : Addr} {xs : List V} (h : TupP K H a xs) : SqT K H a xs :=
  h.elim (fun ⟨o, h, _⟩ => .inl (.inr ⟨o, h⟩)) fun ⟨o, its, n, h1, h2, _, h4⟩ => .inr ⟨o, its, n, h1, h2, h4⟩
def newT (its : List Value) : Obj := { cls := .type "tuple", data := .seq its.toArray }
section
variable {X : Cx} {pins : List (Addr × Obj)} {σ : L2.St} {H : Hp} {s : Shared}
theorem lay_tup {xs : List V} {its : List Value} (I : Inv X pins σ H s) (hz : xs.length ≤ sizeLine) (r : Vals xs its) :
    Inv X pins σ (upd H s.heap.objs.size (.frz (newT its) (.tup xs))) { s with heap := s.heap.push (newT its) } :=
  I.laid (t' := s.toks) (o := .frz (newT its) (.tup xs)) (fun b u e => Heap.get?_push_of_some _ e) (Nat.le_refl _) ⟨Heap.get?_push_size _ rfl, hz, its, r, IsTup.new _ _⟩
/-- what is asked of a place for the new tuple xs -/
def NewT (H : Hp) (xs : List V) (Q : VK) : Prop := ∀ (p : Addr) (o : Obj), H p = none → o.dict = none → Q (.ref p) (upd H p (.frz o (.tup xs)))
theorem NewT.go {xs : List V} {its : List Value} {Q : VK} (h : NewT H xs Q) (I : Inv X pins σ H s) (hz : xs.length ≤ sizeLine) (r : Vals xs its) : EP X pins σ Q (.ref s.heap.objs.size) { s with heap := s.heap.push (newT its) } :=
  ⟨.ref s.heap.objs.size, _, lay_tup I hz r, rfl, h _ _ (I.hok.fresh (Nat.le_refl _)) rfl⟩
def tTupF (t : TA) : TE := fun σ H Q => t σ H fun xs H1 => xs.length ≤ sizeLine ∧ NewT H1 xs Q
theorem pe_tupF {es : List Expr} {t : TA} {k : Nat} {pos : Pos} (h : PA X es t) : PE X (.Tuple es k pos) (tTupF t) := by
  refine ⟨fun pins s σ H Q I hq => ?_⟩
  refine wpAny_Tuple_spliced (thn (h.run pos pins s σ H _ I hq) fun us s1 ⟨xs, H1, I1, r, z, q⟩ => ⟨by rw [← r.length]; exact z, ?_⟩)
  exact q.go I1 z r
def rCatF (K : PySem.W.Frag) : R2 := fun x y H Q => ∃ a b xs ys, x = .ref a ∧ y = .ref b ∧ SqT K H a xs ∧ SqT K H b ys ∧ xs.length + ys.length ≤ sizeLine ∧ (xs = [] → Q (.ref b) H) ∧ (xs ≠ [] → ys = [] → Q (.ref a) H) ∧ (xs ≠ [] → ys ≠ [] → NewT H (xs ++ ys) Q)
theorem op_catF : OpR X (binaryOp .Add) (rCatF X.K) := by
  intro pins s σ H x y v u Q I rx ry h
  obtain ⟨a, b, xs, ys, rfl, rfl, ha, hb, hz, q0, q1, q2⟩ := h
  cases rx
  cases ry
  obtain ⟨i1, r1, p1, _⟩ := I.tuple ha
  obtain ⟨i2, r2, p2, _⟩ := I.tuple hb
  by_cases hx : xs = []
  · subst hx
    cases r1
    exact cat_tup0 p1 p2 ⟨.ref b, H, I, rfl, q0 rfl⟩
  · refine HT.cat_tup p1 p2 (fun z => hx (r1.nil_iff.mp z)) (fun z => ⟨.ref a, H, I, rfl, q1 hx (r2.nil_iff.mp z)⟩) (fun z => ?_) (by rw [← r1.length, ← r2.length]; exact hz)
    exact (q2 hx fun w => z (r2.nil_iff.mpr w)).go I (by rw [List.length_append]; exact hz) (r1.append r2)
def rSlF (K : PySem.W.Frag) : V → Option Int → Option Int → Hp → VK → Prop := fun x lo hi H Q => ∃ a xs, x = .ref a ∧ SqT K H a xs ∧
  (HT.sIx xs.length 0 lo = 0 ∧ HT.sIx xs.length xs.length hi = xs.length → Q (.ref a) H) ∧ (¬ (HT.sIx xs.length 0 lo = 0 ∧ HT.sIx xs.length xs.length hi = xs.length) → NewT H (cutV xs lo hi) Q)
theorem sl_tupF : SlR X (rSlF X.K) := by
  intro pins s σ H x v vl vu lo hi sl Q I rx hs pl pu h
  obtain ⟨a, xs, rfl, hx, q1, q2⟩ := h
  cases rx
  obtain ⟨its, r, ht, hz⟩ := I.tuple hx
  have same : its.toArray.size = xs.length := by rw [List.size_toArray]; exact r.length.symm
  refine ⟨"tuple", _, PyProof.Rows.slot_tuple_getitem.lookup, ht.typeIs, ?_⟩
  by_cases hw : HT.sIx xs.length 0 lo = 0 ∧ HT.sIx xs.length xs.length hi = xs.length
  · exact getItem_tuple_whole ht hs pl pu (by rw [same]; exact hw) ⟨.ref a, H, I, rfl, q1 hw⟩
  · refine HT.getItem_tuple_cut ht hs pl pu (by rw [same]; exact hw) ?_ (by rw [same]; exact hz)
    rw [same]
    exact (q2 hw).go I (Nat.le_trans (cutV_length xs lo hi) hz) ((r.drop _).take _)
theorem call_tupF : CallR X (.type "tuple") (fun xs H Q => ∃ p ys, xs = [.ref p] ∧ ((SqL X.K H p ys ∧ NewT H ys Q) ∨ (SqT X.K H p ys ∧ Q (.ref p) H))) := by
  intro pins s σ H xs us Q I r h
  obtain ⟨p, ys, rfl, h⟩ := h
  obtain ⟨u, rfl, rx⟩ := vals1 r
  cases rx
  rcases h with ⟨hq, q⟩ | ⟨hq, q⟩
  · obtain ⟨its, rv, pl, hz⟩ := I.list hq
    have hlen := rv.length
    refine call_tuple_list pl.isList (fun h2 kp => ?_) (by simp only [List.size_toArray] <;> omega)
    have I1 : Inv X pins σ H { s with heap := h2 } := I.kept (t' := s.toks) kp
    exact q.go I1 hz rv
  · obtain ⟨its, rv, pl, hz⟩ := I.tuple hq
    exact call_tuple_same pl ⟨.ref p, H, I, rfl, q⟩
end
end FL
/-! FL1: a functional layer over the hand layer: data (D), stores (Sto), how they stand in the abstract heap. -/
namespace FL
open PySem PySem.Spec PyProof.Rows L2

/-- data: tuples by value, what can change by its place in the store; pr: a tuple that a loop has just made, to be taken apart -/
inductive D where
  | non | bl (b : Bool) | int (i : Int) | str (x : Str) | tup (ds : List D) | ref (n : Nat) | pr (ds : List D)
/-- what stands at a place of the store; ro: a list that is read alone; lck: a dict that a loop walks -/
inductive O where
  | lst (ds : List D) | ro (ds : List D) | dic (kvs : List (Key × D)) | lck (kvs : List (Key × D)) | ins (k : Str) (fs : List (Str × D)) | gone
abbrev Sto := List O
abbrev Env := List (Option D)
structure FC where
  K : PySem.W.Frag
  ct : Str → Addr

mutual
def Rep (c : FC) (μ : List Addr) (H : Hp) : D → V → Prop
  | .non, v => v = .non
  | .bl b, v => v = .bl b
  | .int i, v => v = .int i
  | .str x, v => v = .str x
  | .tup ds, v => ∃ a xs, v = .ref a ∧ TupP c.K H a xs ∧ Reps c μ H ds xs
  | .pr ds, v => ∃ a xs, v = .ref a ∧ SqT c.K H a xs ∧ Reps c μ H ds xs
  | .ref n, v => ∃ a, μ[n]? = some a ∧ v = .ref a
def Reps (c : FC) (μ : List Addr) (H : Hp) : List D → List V → Prop
  | [], xs => xs = []
  | d :: ds, xs => ∃ v vs, xs = v :: vs ∧ Rep c μ H d v ∧ Reps c μ H ds vs
end

def RepKV {κ : Type} (c : FC) (μ : List Addr) (H : Hp) (kvs : List (κ × D)) (ys : List (κ × V)) : Prop := kvs.map (·.1) = ys.map (·.1) ∧ Reps c μ H (kvs.map (·.2)) (ys.map (·.2))

def RepO (c : FC) (μ : List Addr) (H : Hp) (a : Addr) : O → Prop
  | .lst ds => ∃ xs, H a = some (.lst xs) ∧ Reps c μ H ds xs
  | .ro ds => ∃ xs, ((∃ o, H a = some (.frz o (.lst xs))) ∨ (∃ (o : Obj) (its : Array Value) (n : Nat), c.K.lookup a = some o ∧ o.cls = .type "list" ∧ o.dict = none ∧ o.data = .seq its n ∧ its.size ≤ sizeLine ∧ Vals xs its.toList)) ∧ Reps c μ H ds xs
  | .dic kvs => ∃ ys, H a = some (.dK ys) ∧ RepKV c μ H kvs ys
  | .lck kvs => ∃ o ys, H a = some (.frz o (.dK ys)) ∧ RepKV c μ H kvs ys
  | .ins k fs => ∃ dx ys, H a = some (.ins (c.ct k) dx ys) ∧ RepKV c μ H fs ys
  | .gone => True

/-- objects whose place is theirs alone -/
def own : O → Bool
  | .ro _ => false
  | .gone => false
  | _ => true

structure Ext (c : FC) (μ : List Addr) (H : Hp) (μ' : List Addr) (H' : Hp) : Prop where
  pre : ∀ (n : Nat) (a : Addr), μ[n]? = some a → μ'[n]? = some a
  tup : ∀ (a : Addr) (xs : List V), SqT c.K H a xs → SqT c.K H' a xs
  frz : ∀ (a : Addr) (o : Obj) (u : HO), H a = some (.frz o u) → H' a = some (.frz o u)
theorem Ext.refl {c : FC} {μ : List Addr} {H : Hp} : Ext c μ H μ H := ⟨fun _ _ h => h, fun _ _ h => h, fun _ _ _ h => h⟩
theorem Ext.trans {c : FC} {μ μ1 μ2 : List Addr} {H H1 H2 : Hp} (a : Ext c μ H μ1 H1) (b : Ext c μ1 H1 μ2 H2) : Ext c μ H μ2 H2 :=
  ⟨fun n x h => b.pre n x (a.pre n x h), fun p xs h => b.tup p xs (a.tup p xs h), fun p o u h => b.frz p o u (a.frz p o u h)⟩

theorem TupP.mono {c : FC} {μ μ' : List Addr} {H H' : Hp} {a : Addr} {xs : List V} (e : Ext c μ H μ' H') (h : TupP c.K H a xs) : TupP c.K H' a xs := h.imp (fun ⟨o, h, d⟩ => ⟨o, e.frz _ _ _ h, d⟩) id
mutual
theorem Rep.mono {c : FC} {μ μ' : List Addr} {H H' : Hp} (e : Ext c μ H μ' H') : ∀ (d : D) (v : V), Rep c μ H d v → Rep c μ' H' d v
  | .non, _, h => h
  | .bl _, _, h => h
  | .int _, _, h => h
  | .str _, _, h => h
  | .tup ds, v, h => by
    obtain ⟨a, xs, ev, hs, hr⟩ := h
    exact ⟨a, xs, ev, hs.mono e, Reps.mono e ds xs hr⟩
  | .pr ds, v, h => by
    obtain ⟨a, xs, ev, hs, hr⟩ := h
    exact ⟨a, xs, ev, e.tup a xs hs, Reps.mono e ds xs hr⟩
  | .ref n, v, h => by
    obtain ⟨a, ha, ev⟩ := h
    exact ⟨a, e.pre n a ha, ev⟩
theorem Reps.mono {c : FC} {μ μ' : List Addr} {H H' : Hp} (e : Ext c μ H μ' H') : ∀ (ds : List D) (xs : List V), Reps c μ H ds xs → Reps c μ' H' ds xs
  | [], _, h => h
  | d :: ds, _, h => by
    obtain ⟨v, vs, ev, h1, h2⟩ := h
    exact ⟨v, vs, ev, Rep.mono e d v h1, Reps.mono e ds vs h2⟩
end

theorem Reps.len {c : FC} {μ : List Addr} {H : Hp} : ∀ {ds : List D} {xs : List V}, Reps c μ H ds xs → xs.length = ds.length
  | [], _, h => by
    have e : _ = [] := h
    rw [e]
    rfl
  | d :: ds, _, h => by
    obtain ⟨v, vs, ev, _, h2⟩ := h
    rw [ev, List.length_cons, List.length_cons, Reps.len h2]
theorem Reps.get {c : FC} {μ : List Addr} {H : Hp} : ∀ {ds : List D} {xs : List V} {i : Nat} {d : D}, Reps c μ H ds xs → ds[i]? = some d → ∃ v, xs[i]? = some v ∧ Rep c μ H d v
  | [], _, _, _, _, e => by simp at e
  | x :: ds, _, 0, d, h, e => by
    obtain ⟨v, vs, ev, h1, _⟩ := h
    have e' : x = d := by simpa using e
    subst e'
    exact ⟨v, by rw [ev]; rfl, h1⟩
  | x :: ds, _, i + 1, d, h, e => by
    obtain ⟨v, vs, ev, _, h2⟩ := h
    obtain ⟨w, e1, e2⟩ := Reps.get (i := i) h2 (by simpa using e)
    exact ⟨w, by rw [ev]; simpa using e1, e2⟩
theorem Reps.app {c : FC} {μ : List Addr} {H : Hp} : ∀ {ds es : List D} {xs ys : List V}, Reps c μ H ds xs → Reps c μ H es ys → Reps c μ H (ds ++ es) (xs ++ ys)
  | [], _, _, _, h, k => by
    have e : _ = [] := h
    rw [e]
    exact k
  | d :: ds, _, _, _, h, k => by
    obtain ⟨v, vs, ev, h1, h2⟩ := h
    exact ⟨v, vs ++ _, by rw [ev]; rfl, h1, Reps.app h2 k⟩
theorem Reps.one {c : FC} {μ : List Addr} {H : Hp} {d : D} {v : V} (h : Rep c μ H d v) : Reps c μ H [d] [v] := ⟨v, [], rfl, h, rfl⟩
theorem Reps.drop {c : FC} {μ : List Addr} {H : Hp} : ∀ (n : Nat) {ds : List D} {xs : List V}, Reps c μ H ds xs → Reps c μ H (ds.drop n) (xs.drop n)
  | 0, _, _, h => h
  | n + 1, [], _, h => by
    have e : _ = [] := h
    rw [e]
    exact rfl
  | n + 1, d :: ds, _, h => by
    obtain ⟨v, vs, ev, _, h2⟩ := h
    rw [ev]
    exact Reps.drop n h2
theorem Reps.take {c : FC} {μ : List Addr} {H : Hp} : ∀ (n : Nat) {ds : List D} {xs : List V}, Reps c μ H ds xs → Reps c μ H (ds.take n) (xs.take n)
  | 0, _, _, _ => by
    rw [List.take_zero, List.take_zero]
    exact rfl
  | n + 1, [], _, h => by
    have e : _ = [] := h
    rw [e]
    exact rfl
  | n + 1, d :: ds, _, h => by
    obtain ⟨v, vs, ev, h1, h2⟩ := h
    rw [ev]
    exact ⟨v, vs.take n, rfl, h1, Reps.take n h2⟩
theorem Reps.set {c : FC} {μ : List Addr} {H : Hp} {d : D} {v : V} (hd : Rep c μ H d v) : ∀ (n : Nat) {ds : List D} {xs : List V}, Reps c μ H ds xs → Reps c μ H (ds.set n d) (xs.set n v)
  | _, [], _, h => by
    have e : _ = [] := h
    rw [e]
    exact rfl
  | 0, x :: ds, _, h => by
    obtain ⟨w, vs, ev, _, h2⟩ := h
    rw [ev]
    exact ⟨v, vs, rfl, hd, h2⟩
  | n + 1, x :: ds, _, h => by
    obtain ⟨w, vs, ev, h1, h2⟩ := h
    rw [ev]
    exact ⟨w, vs.set n v, rfl, h1, Reps.set hd n h2⟩
theorem Reps.rev {c : FC} {μ : List Addr} {H : Hp} : ∀ {ds : List D} {xs : List V}, Reps c μ H ds xs → Reps c μ H ds.reverse xs.reverse
  | [], _, h => by
    have e : _ = [] := h
    rw [e]
    exact rfl
  | d :: ds, _, h => by
    obtain ⟨v, vs, ev, h1, h2⟩ := h
    rw [ev, List.reverse_cons, List.reverse_cons]
    exact Reps.app (Reps.rev h2) (Reps.one h1)
theorem Reps.dropLast {c : FC} {μ : List Addr} {H : Hp} : ∀ {ds : List D} {xs : List V}, Reps c μ H ds xs → Reps c μ H ds.dropLast xs.dropLast := fun {ds xs} h => by
  rw [List.dropLast_eq_take, List.dropLast_eq_take, Reps.len h]
  exact Reps.take _ h
theorem Reps.erase {c : FC} {μ : List Addr} {H : Hp} : ∀ (n : Nat) {ds : List D} {xs : List V}, Reps c μ H ds xs → Reps c μ H (ds.eraseIdx n) (xs.eraseIdx n)
  | _, [], _, h => by
    have e : _ = [] := h
    rw [e]
    exact rfl
  | 0, x :: ds, _, h => by
    obtain ⟨w, vs, ev, _, h2⟩ := h
    rw [ev]
    exact h2
  | n + 1, x :: ds, _, h => by
    obtain ⟨w, vs, ev, h1, h2⟩ := h
    rw [ev]
    exact ⟨w, vs.eraseIdx n, rfl, h1, Reps.erase n h2⟩

structure StoOk (c : FC) (μ : List Addr) (S : Sto) (H : Hp) : Prop where
  len : μ.length = S.length
  stands : ∀ (n : Nat) (o : O), S[n]? = some o → ∃ a, μ[n]? = some a ∧ RepO c μ H a o
  inj : ∀ (n m : Nat) (a : Addr) (o o' : O), S[n]? = some o → S[m]? = some o' → own o = true → own o' = true → μ[n]? = some a → μ[m]? = some a → n = m
def EnvOk (c : FC) (μ : List Addr) (H : Hp) (env : Env) (σ : L2.St) : Prop := env.length = σ.length ∧ ∀ (i : Nat) (d : D), env[i]? = some (some d) → ∃ v, σ[i]? = some (some v) ∧ Rep c μ H d v

theorem RepKV.mono {κ : Type} {c : FC} {μ μ' : List Addr} {H H' : Hp} {kvs : List (κ × D)} {ys : List (κ × V)} (e : Ext c μ H μ' H') (h : RepKV c μ H kvs ys) : RepKV c μ' H' kvs ys := ⟨h.1, Reps.mono e _ _ h.2⟩
/-- an object stays where its place stays and tuples do -/
theorem RepO.mono {c : FC} {μ μ' : List Addr} {H H' : Hp} {a : Addr} (e : Ext c μ H μ' H') : ∀ {o : O}, (∀ u, H a = some u → H' a = some u) → RepO c μ H a o → RepO c μ' H' a o
  | .lst _, k, ⟨xs, h, r⟩ => ⟨xs, k _ h, Reps.mono e _ _ r⟩
  | .ro _, k, ⟨xs, h, r⟩ => ⟨xs, h.imp (fun ⟨o, q⟩ => ⟨o, k _ q⟩) id, Reps.mono e _ _ r⟩
  | .dic _, k, ⟨ys, h, r⟩ => ⟨ys, k _ h, r.mono e⟩
  | .lck _, k, ⟨o, ys, h, r⟩ => ⟨o, ys, k _ h, r.mono e⟩
  | .ins _ _, k, ⟨dx, ys, h, r⟩ => ⟨dx, ys, k _ h, r.mono e⟩
  | .gone, _, _ => trivial
theorem EnvOk.mono {c : FC} {μ μ' : List Addr} {H H' : Hp} {env : Env} {σ : L2.St} (e : Ext c μ H μ' H') (h : EnvOk c μ H env σ) : EnvOk c μ' H' env σ :=
  ⟨h.1, fun i d q => let ⟨v, h1, h2⟩ := h.2 i d q; ⟨v, h1, Rep.mono e d v h2⟩⟩
theorem EnvOk.set {c : FC} {μ : List Addr} {H : Hp} {env : Env} {σ : L2.St} {d : D} {v : V} (i : Nat) (h : EnvOk c μ H env σ) (r : Rep c μ H d v) : EnvOk c μ H (env.set i (some d)) (σ.set i (some v)) := by
  refine ⟨by rw [List.length_set, List.length_set, h.1], fun j e q => ?_⟩
  by_cases hj : i = j
  · subst hj
    by_cases hl : i < env.length
    · rw [List.getElem?_set_self hl] at q
      have q' : d = e := Option.some.inj (Option.some.inj q)
      subst q'
      exact ⟨v, List.getElem?_set_self (by rw [← h.1]; exact hl), r⟩
    · rw [List.getElem?_eq_none (by rw [List.length_set]; omega)] at q
      cases q
  · rw [List.getElem?_set_ne hj] at q ⊢
    exact h.2 j e q

theorem sqT_upd {K : PySem.W.Frag} {H : Hp} {p : Addr} {u : HO} (h : H p = none ∨ ∃ w, H p = some w ∧ Mut (some w)) {a : Addr} {xs : List V} (q : SqT K H a xs) : SqT K (upd H p u) a xs := by
  rcases q with q | q
  · have ne : ∀ w, H a = some w → ¬ Mut (some w) → a ≠ p := fun w e nm z => by
      rw [← z] at h
      rcases h with h | ⟨w', h, m⟩
      · rw [h] at e; cases e
      · rw [h] at e; cases e; exact nm m
    rcases q with q | ⟨o, q⟩
    · exact .inl (.inl (by rw [upd_ne (ne _ q fun z => z)]; exact q))
    · exact .inl (.inr ⟨o, by rw [upd_ne (ne _ q fun z => z)]; exact q⟩)
  · exact .inr q
theorem frz_upd {H : Hp} {p : Addr} {u : HO} (h : H p = none ∨ ∃ w, H p = some w ∧ Mut (some w)) {a : Addr} {o : Obj} {v : HO} (q : H a = some (.frz o v)) : (upd H p u) a = some (.frz o v) := by
  rw [upd_ne]
  · exact q
  · intro z
    rw [← z] at h
    rcases h with h | ⟨w', h, m⟩
    · rw [h] at q; cases q
    · rw [h] at q; cases q; exact m
theorem Ext.upd {c : FC} {μ : List Addr} {H : Hp} {p : Addr} {u : HO} (h : H p = none ∨ ∃ w, H p = some w ∧ Mut (some w)) : Ext c μ H μ (upd H p u) := ⟨fun _ _ e => e, fun _ _ q => sqT_upd h q, fun _ _ _ q => frz_upd h q⟩
theorem Ext.new {c : FC} {μ : List Addr} {H : Hp} {p : Addr} {u : HO} (h : H p = none) : Ext c μ H (μ ++ [p]) (L2.upd H p u) :=
  ⟨fun n a e => by
    have hn : n < μ.length := (List.getElem?_eq_some_iff.mp e).1
    rw [List.getElem?_append_left hn]
    exact e, fun _ _ q => sqT_upd (.inl h) q, fun _ _ _ q => frz_upd (.inl h) q⟩

/-- a place with an object of its own is tracked, and not free -/
theorem RepO.tracked {c : FC} {μ : List Addr} {H : Hp} {a : Addr} : ∀ {o : O}, own o = true → RepO c μ H a o → ∃ u, H a = some u
  | .lst _, _, ⟨_, h, _⟩ => ⟨_, h⟩
  | .dic _, _, ⟨_, h, _⟩ => ⟨_, h⟩
  | .lck _, _, ⟨_, _, h, _⟩ => ⟨_, h⟩
  | .ins _ _, _, ⟨_, _, h, _⟩ => ⟨_, h⟩

theorem RepO.notRo {c : FC} {μ : List Addr} {H : Hp} {a : Addr} {ob : Obj} {xs : List V} : ∀ {o : O}, own o = true → RepO c μ H a o → ¬ H a = some (.frz ob (.lst xs))
  | .lst _, _, ⟨_, h, _⟩, q => by rw [h] at q; cases q
  | .dic _, _, ⟨_, h, _⟩, q => by rw [h] at q; cases q
  | .lck _, _, ⟨_, _, h, _⟩, q => by rw [h] at q; cases q
  | .ins _ _, _, ⟨_, _, h, _⟩, q => by rw [h] at q; cases q

/-- a tuple (nothing of the store) is made -/
theorem StoOk.same {c : FC} {μ : List Addr} {S : Sto} {H : Hp} {p : Addr} {u : HO} (h : StoOk c μ S H) (hp : H p = none) : StoOk c μ S (upd H p u) := by
  refine ⟨h.len, fun n o e => ?_, h.inj⟩
  obtain ⟨a, e1, r⟩ := h.stands n o e
  exact ⟨a, e1, r.mono (Ext.upd (.inl hp)) fun w q => by rw [upd_ne (ne_of_none q hp)]; exact q⟩
/-- a new object -/
theorem StoOk.alloc {c : FC} {μ : List Addr} {S : Sto} {H : Hp} {p : Addr} {u : HO} {o : O} (h : StoOk c μ S H) (hp : H p = none) (new : RepO c (μ ++ [p]) (upd H p u) p o) : StoOk c (μ ++ [p]) (S ++ [o]) (upd H p u) := by
  have old : ∀ n a, n < S.length → ((μ ++ [p])[n]? = some a ↔ μ[n]? = some a) := fun n a hn => by
    rw [List.getElem?_append_left (by rw [h.len]; exact hn)]
  have key : ∀ n a o', S[n]? = some o' → own o' = true → μ[n]? = some a → a ≠ p := fun n a o' e ow e1 z => by
    obtain ⟨b, e2, r⟩ := h.stands n o' e
    rw [e1] at e2
    cases e2
    obtain ⟨w, q⟩ := r.tracked ow
    rw [z, hp] at q
    cases q
  refine ⟨by simp [h.len], fun n o' e => ?_, fun n m a o1 o2 e1 e2 w1 w2 a1 a2 => ?_⟩
  · by_cases hn : n < S.length
    · rw [List.getElem?_append_left hn] at e
      obtain ⟨a, e1, r⟩ := h.stands n o' e
      exact ⟨a, (old n a hn).mpr e1, r.mono (Ext.new hp) fun w q => by rw [upd_ne (ne_of_none q hp)]; exact q⟩
    · have hlt : n < S.length + 1 := by
        have := (List.getElem?_eq_some_iff.mp e).1
        simpa using this
      have en : n = S.length := by omega
      subst en
      rw [List.getElem?_append_right (Nat.le_refl _), Nat.sub_self] at e
      have e' : o = o' := by simpa using e
      subst e'
      refine ⟨p, ?_, new⟩
      rw [← h.len, List.getElem?_append_right (Nat.le_refl _), Nat.sub_self]
      rfl
  · by_cases hn : n < S.length
    · by_cases hm : m < S.length
      · rw [List.getElem?_append_left hn] at e1
        rw [List.getElem?_append_left hm] at e2
        exact h.inj n m a o1 o2 e1 e2 w1 w2 ((old n a hn).mp a1) ((old m a hm).mp a2)
      · have em : m = S.length := by
          have := (List.getElem?_eq_some_iff.mp e2).1
          simp at this
          omega
        subst em
        rw [List.getElem?_append_left hn] at e1
        rw [← h.len, List.getElem?_append_right (Nat.le_refl _), Nat.sub_self] at a2
        have a2' : p = a := by simpa using a2
        exact absurd a2'.symm (key n a o1 e1 w1 ((old n a hn).mp a1))
    · have en : n = S.length := by
        have := (List.getElem?_eq_some_iff.mp e1).1
        simp at this
        omega
      by_cases hm : m < S.length
      · subst en
        rw [List.getElem?_append_left hm] at e2
        rw [← h.len, List.getElem?_append_right (Nat.le_refl _), Nat.sub_self] at a1
        have a1' : p = a := by simpa using a1
        exact absurd a1'.symm (key m a o2 e2 w2 ((old m a hm).mp a2))
      · have em : m = S.length := by
          have := (List.getElem?_eq_some_iff.mp e2).1
          simp at this
          omega
        omega
/-- an object changed -/
theorem StoOk.write {c : FC} {μ : List Addr} {S : Sto} {H : Hp} {n : Nat} {a : Addr} {u : HO} {o0 o : O} (h : StoOk c μ S H) (hn : S[n]? = some o0) (how : own o0 = true) (ha : μ[n]? = some a) (he : Ext c μ H μ (upd H a u)) (new : RepO c μ (upd H a u) a o) : StoOk c μ (S.set n o) (upd H a u) := by
  have hlt : n < S.length := (List.getElem?_eq_some_iff.mp hn).1
  refine ⟨by rw [List.length_set]; exact h.len, fun m o' e => ?_, fun m k b o1 o2 e1 e2 w1 w2 a1 a2 => ?_⟩
  · by_cases hk : n = m
    · subst hk
      rw [List.getElem?_set_self hlt] at e
      cases e
      exact ⟨a, ha, new⟩
    · rw [List.getElem?_set_ne hk] at e
      obtain ⟨b, e1, r⟩ := h.stands m o' e
      refine ⟨b, e1, ?_⟩
      by_cases hb : b = a
      · -- only what is read alone can stand at the same place
        subst hb
        cases hw : own o' with
        | true => exact absurd (h.inj n m b o0 o' hn e how hw ha e1) hk
        | false =>
          cases o' with
          | ro ds =>
            obtain ⟨xs, q, rr⟩ := r
            rcases q with ⟨ob, q⟩ | q
            · obtain ⟨b', e2, r2⟩ := h.stands n o0 hn
              rw [ha] at e2
              cases e2
              exact absurd q (RepO.notRo how r2)
            · exact ⟨xs, .inr q, Reps.mono he _ _ rr⟩
          | gone => trivial
          | lst _ => cases hw
          | dic _ => cases hw
          | lck _ => cases hw
          | ins _ _ => cases hw
      · exact r.mono he fun w q => by rw [upd_ne hb]; exact q
  · have back : ∀ (m : Nat) (o' : O) (b : Addr), (S.set n o)[m]? = some o' → own o' = true → μ[m]? = some b → ∃ o'', S[m]? = some o'' ∧ own o'' = true := fun m o' b e w _ => by
      by_cases hk : n = m
      · subst hk
        exact ⟨o0, hn, how⟩
      · rw [List.getElem?_set_ne hk] at e
        exact ⟨o', e, w⟩
    obtain ⟨p1, q1, v1⟩ := back m o1 b e1 w1 a1
    obtain ⟨p2, q2, v2⟩ := back k o2 b e2 w2 a2
    exact h.inj m k b p1 p2 q1 q2 v1 v2 a1 a2
end FL
/-! FL2: readings by functions: expressions, tests, argument lists, operators, calls. -/
namespace FL
open PySem PySem.Spec PyProof.Rows L2

def th {α β : Type} (r : Option (α × Sto)) (k : α → Sto → Option β) : Option β := match r with
  | some (x, S) => k x S
  | none => none
@[simp] theorem th_some {α β : Type} (x : α) (S : Sto) (k : α → Sto → Option β) : th (some (x, S)) k = k x S := rfl
@[simp] theorem th_none {α β : Type} (k : α → Sto → Option β) : th (none : Option (α × Sto)) k = none := rfl
theorem th_inv {α β : Type} {r : Option (α × Sto)} {k : α → Sto → Option β} {z : β} (h : th r k = some z) : ∃ x S, r = some (x, S) ∧ k x S = some z := by
  cases r with
  | none => cases h
  | some p => exact ⟨p.1, p.2, rfl, h⟩

abbrev FE := Env → Sto → Option (D × Sto)
abbrev FT := Env → Sto → Option (Bool × Sto)
abbrev FA := Env → Sto → Option (List D × Sto)
inductive Out where
  | nx (e : Env) | rt (d : D) | bk (e : Env) | ct (e : Env)
abbrev FS := Env → Sto → Option (Out × Sto)
abbrev FF := List D → Sto → Option (D × Sto)
abbrev F2 := D → D → Sto → Option (D × Sto)
abbrev F1 := D → Sto → Option (D × Sto)
def cap : Nat := 10000000
theorem cap_le {n : Nat} (h : n ≤ cap) : n ≤ sizeLine := by
  rw [sizeLine_eq]
  unfold cap at h
  omega

/-! ### readings -/
def After (c : FC) (μ : List Addr) (H : Hp) (S' : Sto) (d : D) (Q : VK) : Prop := ∀ (μ' : List Addr) (H' : Hp) (v : V), Ext c μ H μ' H' → StoOk c μ' S' H' → Rep c μ' H' d v → Q v H'
def tE (c : FC) (f : FE) : TE := fun σ H Q => ∃ μ env S d S', EnvOk c μ H env σ ∧ StoOk c μ S H ∧ f env S = some (d, S') ∧ After c μ H S' d Q
def tT (c : FC) (f : FT) : TT := fun σ H Q => ∃ μ env S b S', EnvOk c μ H env σ ∧ StoOk c μ S H ∧ f env S = some (b, S') ∧ ∀ μ' H', Ext c μ H μ' H' → StoOk c μ' S' H' → Q b H'
def tA (c : FC) (f : FA) : TA := fun σ H Q => ∃ μ env S ds S', EnvOk c μ H env σ ∧ StoOk c μ S H ∧ f env S = some (ds, S') ∧ ∀ μ' H' vs, Ext c μ H μ' H' → StoOk c μ' S' H' → Reps c μ' H' ds vs → Q vs H'
def r2 (c : FC) (r : F2) : R2 := fun x y H Q => ∃ μ S dx dy d S', StoOk c μ S H ∧ Rep c μ H dx x ∧ Rep c μ H dy y ∧ r dx dy S = some (d, S') ∧ After c μ H S' d Q
def r1 (c : FC) (r : F1) : V → Hp → VK → Prop := fun x H Q => ∃ μ S dx d S', StoOk c μ S H ∧ Rep c μ H dx x ∧ r dx S = some (d, S') ∧ After c μ H S' d Q
def rA (c : FC) (r : FF) : List V → Hp → VK → Prop := fun xs H Q => ∃ μ S ds d S', StoOk c μ S H ∧ Reps c μ H ds xs ∧ r ds S = some (d, S') ∧ After c μ H S' d Q
def rM (c : FC) (r : D → FF) : V → List V → Hp → VK → Prop := fun x xs H Q => ∃ μ S dx ds d S', StoOk c μ S H ∧ Rep c μ H dx x ∧ Reps c μ H ds xs ∧ r dx ds S = some (d, S') ∧ After c μ H S' d Q

theorem PE.w {X : Cx} {e : Expr} {t t' : TE} (h : PE X e t) (w : ∀ σ H Q, t' σ H Q → t σ H Q) : PE X e t' := ⟨fun pins s σ H Q I q => h.run pins s σ H Q I (w σ H Q q)⟩
theorem PT.w {X : Cx} {e : Expr} {t t' : TT} (h : PT X e t) (w : ∀ σ H Q, t' σ H Q → t σ H Q) : PT X e t' := ⟨fun pins s σ H Q I q => h.run pins s σ H Q I (w σ H Q q)⟩
theorem PW.w {X : Cx} {e : Expr} {t t' : TT} (h : PW X e t) (w : ∀ σ H Q, t' σ H Q → t σ H Q) : PW X e t' := ⟨fun wh pins s σ H Q I q => h.run wh pins s σ H Q I (w σ H Q q)⟩
theorem PA.w {X : Cx} {es : List Expr} {t t' : TA} (h : PA X es t) (w : ∀ σ H Q, t' σ H Q → t σ H Q) : PA X es t' := ⟨fun pos pins s σ H Q I q => h.run pos pins s σ H Q I (w σ H Q q)⟩
theorem OpR.w {X : Cx} {f : Value → Value → Sem Value} {r r' : R2} (h : OpR X f r) (w : ∀ x y H Q, r' x y H Q → r x y H Q) : OpR X f r' := fun pins s σ H x y v u Q I r1 r2 q => h pins s σ H x y v u Q I r1 r2 (w x y H Q q)
theorem UnR.w {X : Cx} {f : Value → Sem Value} {r r' : V → Hp → VK → Prop} (h : UnR X f r) (w : ∀ x H Q, r' x H Q → r x H Q) : UnR X f r' := fun pins s σ H x v Q I r1 q => h pins s σ H x v Q I r1 (w x H Q q)
theorem CallR.w {X : Cx} {f : Value} {r r' : List V → Hp → VK → Prop} (h : CallR X f r) (w : ∀ xs H Q, r' xs H Q → r xs H Q) : CallR X f r' := fun pins s σ H xs us Q I r1 q => h pins s σ H xs us Q I r1 (w xs H Q q)
theorem IxR.w {X : Cx} {r r' : R2} (h : IxR X r) (w : ∀ x y H Q, r' x y H Q → r x y H Q) : IxR X r' := fun va sl pins s σ H x y v u Q I r1 r2 q hs => h va sl pins s σ H x y v u Q I r1 r2 (w x y H Q q) hs
theorem MtR.w {X : Cx} {id : String} {r r' : V → List V → Hp → VK → Prop} (h : MtR X id r) (w : ∀ x xs H Q, r' x xs H Q → r x xs H Q) : MtR X id r' := fun pins s σ H x xs v us Q I r1 r2 q => h pins s σ H x xs v us Q I r1 r2 (w x xs H Q q)

theorem After.ext {c : FC} {μ μ1 : List Addr} {H H1 : Hp} {S' : Sto} {d : D} {Q : VK} (h : After c μ H S' d Q) (e : Ext c μ H μ1 H1) : After c μ1 H1 S' d Q := fun μ' H' v e' k r => h μ' H' v (e.trans e') k r
theorem After.now {c : FC} {μ : List Addr} {H : Hp} {S' : Sto} {d : D} {Q : VK} {v : V} (h : After c μ H S' d Q) (k : StoOk c μ S' H) (r : Rep c μ H d v) : Q v H := h μ H v Ext.refl k r

/-! ### names, constants -/
def eVar (i : Nat) : FE := fun env S => match env[i]? with
  | some (some d) => some (d, S)
  | _ => none
def eC (d : D) : FE := fun _ S => some (d, S)
section
variable {c : FC} {X : Cx}
theorem q_var (i : Nat) {x : Str} {pos : Pos} (hN : X.N[i]? = some x := by rfl) (hv : Vis X.env.scope x := by first | exact Or.inl rfl | exact Or.inr (Or.inl rfl) | exact Or.inr (Or.inr rfl)) (hd : (x == ("__debug__" : Str)) = false := by decide)
    (hcd : (x == ("__classdict__" : Str)) = false := by decide) : PE X (.Name x pos) (tE c (eVar i)) := by
  refine PE.w (pe_var hN hv hd hcd) fun σ H Q h => ?_
  obtain ⟨μ, env, S, d, S', he, hs, hf, ha⟩ := h
  unfold eVar at hf
  split at hf
  · rename_i d' e
    cases hf
    obtain ⟨v, e1, r⟩ := he.2 i d e
    exact ⟨v, e1, ha.now hs r⟩
  · cases hf
theorem q_con {e : Expr} {v : V} {d : D} (h : PE X e (tC v)) (r : ∀ μ H, Rep c μ H d v) : PE X e (tE c (eC d)) := by
  refine PE.w h fun σ H Q h => ?_
  obtain ⟨μ, env, S, d', S', he, hs, hf, ha⟩ := h
  have e' : (d, S) = (d', S') := Option.some.inj hf
  cases e'
  exact ha.now hs (r μ H)
theorem q_int {i : Int} {j pos} : PE X (.Constant (.int i) j pos) (tE c (eC (.int i))) := q_con pe_int fun _ _ => rfl
theorem q_bl {b : Bool} {j pos} : PE X (.Constant (.bool b) j pos) (tE c (eC (.bl b))) := q_con pe_bl fun _ _ => rfl
theorem q_non {j pos} : PE X (.Constant .none j pos) (tE c (eC .non)) := q_con pe_non fun _ _ => rfl
theorem q_str {x : Str} {j pos} : PE X (.Constant (.str x) j pos) (tE c (eC (.str x))) := q_con pe_str fun _ _ => rfl
/-- a constant of the module -/
def Cst (c : FC) (u : Value) (d : D) : Prop := ∃ v, RelV v u ∧ ∀ μ H, Rep c μ H d v
theorem q_glob {x : Str} {u : Value} {d : D} {pos : Pos} (hg : Gl X x) (hm : X.mg x = some u) (h : Cst c u d) (hd : (x == ("__debug__" : Str)) = false := by decide) : PE X (.Name x pos) (tE c (eC d)) :=
  let ⟨_, r, k⟩ := h
  q_con (pe_glob hg hm r hd) k

/-! ### two operands, one -/
def eBin (r : F2) (fa fb : FE) : FE := fun env S => th (fa env S) fun x S1 => th (fb env S1) fun y S2 => r x y S2
def eUn (r : F1) (fa : FE) : FE := fun env S => th (fa env S) fun x S1 => r x S1
variable {a b cc e : Expr} {fa fb fc : FE} {pos : Pos} {r : F2}
theorem bin_red {σ : L2.St} {H : Hp} {Q : VK} (h : tE c (eBin r fa fb) σ H Q) : tOp (r2 c r) (tE c fa) (tE c fb) σ H Q := by
  obtain ⟨μ, env, S, d, S', he, hs, hf, ha⟩ := h
  obtain ⟨x, S1, h1, hf⟩ := th_inv hf
  obtain ⟨y, S2, h2, hf⟩ := th_inv hf
  refine ⟨μ, env, S, x, S1, he, hs, h1, fun μ1 H1 v e1 k1 r1 => ?_⟩
  refine ⟨μ1, env, S1, y, S2, he.mono e1, k1, h2, fun μ2 H2 w e2 k2 q2 => ?_⟩
  exact ⟨μ2, S2, x, y, d, S', k2, Rep.mono e2 _ _ r1, q2, hf, (ha.ext e1).ext e2⟩
theorem q_bin {op : Operator} (ho : OpR X (binaryOp op) (r2 c r)) (ha : PE X a (tE c fa)) (hb : PE X b (tE c fb)) : PE X (.BinOp a op b pos) (tE c (eBin r fa fb)) := PE.w (pe_op ho ha hb) fun _ _ _ => bin_red
theorem q_cmp {op : CmpOp} (ho : OpR X (compareOp op) (r2 c r)) (ha : PE X a (tE c fa)) (hb : PE X b (tE c fb)) (hm : behindInMarks op b = false := by rfl) : PE X (.Compare a [op] [b] pos) (tE c (eBin r fa fb)) := PE.w (pe_cmpR ho ha hb hm) fun _ _ _ => bin_red
theorem q_un {op : UnaryOp} {r : F1} (ho : UnR X (unaryOp op) (r1 c r)) (ha : PE X a (tE c fa)) : PE X (.UnaryOp op a pos) (tE c (eUn r fa)) := by
  refine PE.w (pe_un ho ha) fun σ H Q h => ?_
  obtain ⟨μ, env, S, d, S', he, hs, hf, ha⟩ := h
  obtain ⟨x, S1, h1, hf⟩ := th_inv hf
  exact ⟨μ, env, S, x, S1, he, hs, h1, fun μ1 H1 v e1 k1 q1 => ⟨μ1, S1, x, d, S', k1, q1, hf, ha.ext e1⟩⟩
theorem q_ix (hr : IxR X (r2 c r)) (ha : PE X a (tE c fa)) (hb : PE X b (tE c fb)) (hs : PlainIx b := by exact fun _ _ => rfl) : PE X (.Subscript a b pos) (tE c (eBin r fa fb)) := PE.w (pe_ix hr ha hb hs) fun _ _ _ => bin_red

/-! ### argument lists, displays -/
def aNil : FA := fun _ S => some ([], S)
def aCons (fa : FE) (fr : FA) : FA := fun env S => th (fa env S) fun x S1 => th (fr env S1) fun xs S2 => some (x :: xs, S2)
def eTup (fr : FA) : FE := fun env S => th (fr env S) fun ds S1 => if ds.length ≤ cap then some (.tup ds, S1) else none
def eLst (fr : FA) : FE := fun env S => th (fr env S) fun ds S1 => if ds.length ≤ cap then some (.ref S1.length, S1 ++ [.lst ds]) else none
variable {es : List Expr} {fr : FA}
theorem q_nil : PA X [] (tA c aNil) := by
  refine PA.w pa_nil fun σ H Q h => ?_
  obtain ⟨μ, env, S, ds, S', he, hs, hf, ha⟩ := h
  have e' : (([] : List D), S) = (ds, S') := Option.some.inj hf
  cases e'
  exact ha μ H [] Ext.refl hs rfl
theorem q_cons (ha : PE X e (tE c fa)) (hr : PA X es (tA c fr)) (hs : starEach (e :: es) X.env = (false, eval e X.env) :: starEach es X.env := by rfl) : PA X (e :: es) (tA c (aCons fa fr)) := by
  refine PA.w (pa_cons ha hr hs) fun σ H Q h => ?_
  obtain ⟨μ, env, S, ds, S', he, hs, hf, ha⟩ := h
  obtain ⟨x, S1, h1, hf⟩ := th_inv hf
  obtain ⟨xs, S2, h2, hf⟩ := th_inv hf
  cases hf
  refine ⟨μ, env, S, x, S1, he, hs, h1, fun μ1 H1 v e1 k1 q1 => ?_⟩
  refine ⟨μ1, env, S1, xs, _, he.mono e1, k1, h2, fun μ2 H2 vs e2 k2 q2 => ?_⟩
  exact ha μ2 H2 (v :: vs) (e1.trans e2) k2 ⟨v, vs, rfl, Rep.mono e2 _ _ q1, q2⟩
theorem tup_new {μ : List Addr} {S : Sto} {H : Hp} {ds : List D} {vs : List V} {p : Addr} {o : Obj} (hs : StoOk c μ S H) (r : Reps c μ H ds vs) (hp : H p = none) (hd : o.dict = none) :
    Ext c μ H μ (upd H p (.frz o (.tup vs))) ∧ StoOk c μ S (upd H p (.frz o (.tup vs))) ∧ Rep c μ (upd H p (.frz o (.tup vs))) (.tup ds) (.ref p) :=
  ⟨Ext.upd (.inl hp), hs.same hp, p, vs, rfl, .inl ⟨o, upd_same, hd⟩, Reps.mono (Ext.upd (.inl hp)) _ _ r⟩
/-- a tuple that a loop makes -/
theorem pr_new {μ : List Addr} {S : Sto} {H : Hp} {ds : List D} {vs : List V} {p : Addr} (hs : StoOk c μ S H) (r : Reps c μ H ds vs) (hp : H p = none) :
    Ext c μ H μ (upd H p (.tup vs)) ∧ StoOk c μ S (upd H p (.tup vs)) ∧ Rep c μ (upd H p (.tup vs)) (.pr ds) (.ref p) :=
  ⟨Ext.upd (.inl hp), hs.same hp, p, vs, rfl, SqT.of upd_same, Reps.mono (Ext.upd (.inl hp)) _ _ r⟩
theorem lst_new {μ : List Addr} {S : Sto} {H : Hp} {ds : List D} {vs : List V} {p : Addr} (hs : StoOk c μ S H) (r : Reps c μ H ds vs) (hp : H p = none) :
    Ext c μ H (μ ++ [p]) (upd H p (.lst vs)) ∧ StoOk c (μ ++ [p]) (S ++ [.lst ds]) (upd H p (.lst vs)) ∧ Rep c (μ ++ [p]) (upd H p (.lst vs)) (.ref S.length) (.ref p) := by
  have e : Ext c μ H (μ ++ [p]) (upd H p (.lst vs)) := Ext.new hp
  refine ⟨e, hs.alloc hp ⟨vs, upd_same, Reps.mono e _ _ r⟩, p, ?_, rfl⟩
  rw [← hs.len, List.getElem?_append_right (Nat.le_refl _), Nat.sub_self]
  rfl
theorem q_tup {k : Nat} (hr : PA X es (tA c fr)) : PE X (.Tuple es k pos) (tE c (eTup fr)) := by
  refine PE.w (pe_tupF hr) fun σ H Q h => ?_
  obtain ⟨μ, env, S, d, S', he, hs, hf, ha⟩ := h
  obtain ⟨ds, S1, h1, hf⟩ := th_inv hf
  refine ⟨μ, env, S, ds, S1, he, hs, h1, fun μ1 H1 vs e1 k1 q1 => ?_⟩
  split at hf
  · rename_i hz
    cases hf
    refine ⟨by rw [q1.len]; exact cap_le hz, fun p ob hp hd => ?_⟩
    obtain ⟨x1, x2, x3⟩ := tup_new k1 q1 hp hd
    exact ha _ _ _ (e1.trans x1) x2 x3
  · cases hf
theorem q_lst (hr : PA X es (tA c fr)) : PE X (.List es pos) (tE c (eLst fr)) := by
  refine PE.w (pe_lst hr) fun σ H Q h => ?_
  obtain ⟨μ, env, S, d, S', he, hs, hf, ha⟩ := h
  obtain ⟨ds, S1, h1, hf⟩ := th_inv hf
  refine ⟨μ, env, S, ds, S1, he, hs, h1, fun μ1 H1 vs e1 k1 q1 => ?_⟩
  split at hf
  · rename_i hz
    cases hf
    refine ⟨by rw [q1.len]; exact cap_le hz, fun p hp => ?_⟩
    obtain ⟨x1, x2, x3⟩ := lst_new k1 q1 hp
    exact ha _ _ _ (e1.trans x1) x2 x3
  · cases hf

/-! ### calls: built-ins, types, methods of built-in types, defs -/
def eCall (F : FF) (fr : FA) : FE := fun env S => th (fr env S) fun ds S1 => F ds S1
def eMt (F : D → FF) (fo : FE) (fr : FA) : FE := fun env S => th (fo env S) fun x S1 => th (fr env S1) fun ds S2 => F x ds S2
theorem callB_red {F : FF} {σ : L2.St} {H : Hp} {Q : VK} (h : tE c (eCall F fr) σ H Q) : tCB (rA c F) (tA c fr) σ H Q := by
  obtain ⟨μ, env, S, d, S', he, hs, hf, ha⟩ := h
  obtain ⟨ds, S1, h1, hf⟩ := th_inv hf
  exact ⟨μ, env, S, ds, S1, he, hs, h1, fun μ1 H1 vs e1 k1 q1 => ⟨μ1, S1, ds, d, S', k1, q1, hf, ha.ext e1⟩⟩
theorem q_cb {F : FF} (h : PE X e (tCB (rA c F) (tA c fr))) : PE X e (tE c (eCall F fr)) := PE.w h fun _ _ _ => callB_red

/-- the promise of a def that is the function F -/
def spF (c : FC) (n : Nat) (F : FF) : Sp := fun vs H Q _ => vs.length = n ∧ rA c F vs H Q
theorem q_fn {n : Nat} {F : FF} {E : XK} (h : PE X e (tCall (spF c n F) [] E (tA c fr))) (hl : ∀ (env : Env) (S : Sto) (ds : List D) (S' : Sto), fr env S = some (ds, S') → ds.length = n) : PE X e (tE c (eCall F fr)) := by
  refine PE.w h fun σ H Q h => ?_
  obtain ⟨μ, env, S, d, S', he, hs, hf, ha⟩ := h
  obtain ⟨ds, S1, h1, hf⟩ := th_inv hf
  refine ⟨μ, env, S, ds, S1, he, hs, h1, fun μ1 H1 vs e1 k1 q1 => ?_⟩
  show spF c n F (vs ++ []) H1 Q E
  rw [List.append_nil]
  exact ⟨by rw [q1.len]; exact hl _ _ _ _ h1, μ1, S1, ds, d, S', k1, q1, hf, ha.ext e1⟩
end
theorem len0 : ∀ (env : Env) (S : Sto) (ds : List D) (S' : Sto), aNil env S = some (ds, S') → ds.length = 0 := fun _ _ _ _ h => by
  cases h
  rfl
theorem lenS {fa : FE} {fr : FA} {n : Nat} (h : ∀ (env : Env) (S : Sto) (ds : List D) (S' : Sto), fr env S = some (ds, S') → ds.length = n) : ∀ (env : Env) (S : Sto) (ds : List D) (S' : Sto), aCons fa fr env S = some (ds, S') → ds.length = n + 1 := fun env S ds S' q => by
  obtain ⟨x, S1, h1, q⟩ := th_inv q
  obtain ⟨xs, S2, h2, q⟩ := th_inv q
  cases q
  rw [List.length_cons, h env S1 xs _ h2]
end FL
/-! FL3: tests, and, or, not, conditional expressions, chains; the operators by data. -/
namespace FL
open PySem PySem.Spec PyProof.Rows L2

def getL (S : Sto) (n : Nat) : Option (List D) := match S[n]? with
  | some (.lst ds) => some ds
  | some (.ro ds) => some ds
  | _ => none
def getD (S : Sto) (n : Nat) : Option (List (Key × D)) := match S[n]? with
  | some (.dic kvs) => some kvs
  | some (.lck kvs) => some kvs
  | _ => none
def tru (d : D) (S : Sto) : Option Bool := match d with
  | .non => some false
  | .bl b => some b
  | .int i => some (i != 0)
  | .str x => if x.length ≤ cap then some ((x.length : Int) != 0) else none
  | .tup ds => some (!ds.isEmpty)
  | .pr _ => none
  | .ref n => match S[n]? with
    | some (.lst ds) => some (!ds.isEmpty)
    | some (.ro ds) => some (!ds.isEmpty)
    | some (.dic kvs) => some (!kvs.isEmpty)
    | _ => none
theorem ro_sq {c : FC} {μ : List Addr} {H : Hp} {a : Addr} {ds : List D} (h : RepO c μ H a (.ro ds)) : ∃ xs, SqL c.K H a xs ∧ Reps c μ H ds xs := by
  obtain ⟨xs, h, r⟩ := h
  exact ⟨xs, h.elim (fun ⟨o, q⟩ => .inl (.inr ⟨o, q⟩)) .inr, r⟩
theorem getL_sq {c : FC} {μ : List Addr} {S : Sto} {H : Hp} {n : Nat} {ds : List D} (hs : StoOk c μ S H) (h : getL S n = some ds) : ∃ a xs, μ[n]? = some a ∧ SqL c.K H a xs ∧ Reps c μ H ds xs := by
  unfold getL at h
  split at h
  · rename_i e
    cases h
    obtain ⟨a, e1, xs, q, r⟩ := hs.stands n _ e
    exact ⟨a, xs, e1, SqL.of q, r⟩
  · rename_i e
    cases h
    obtain ⟨a, e1, r⟩ := hs.stands n _ e
    obtain ⟨xs, q, r⟩ := ro_sq r
    exact ⟨a, xs, e1, q, r⟩
  · cases h
theorem isEmpty_reps {c : FC} {μ : List Addr} {H : Hp} {ds : List D} {xs : List V} (r : Reps c μ H ds xs) : ds.isEmpty = xs.isEmpty := by
  have h := r.len
  cases ds <;> cases xs <;> first | rfl | (simp at h)
theorem tru_ok {c : FC} {μ : List Addr} {S : Sto} {H : Hp} {d : D} {v : V} {b : Bool} (hs : StoOk c μ S H) (r : Rep c μ H d v) (h : tru d S = some b) : TruV c.K v H b := by
  cases d with
  | non =>
    cases h
    obtain rfl : v = .non := r
    exact rfl
  | bl k =>
    cases h
    obtain rfl : v = .bl b := r
    exact rfl
  | int i =>
    cases h
    obtain rfl : v = .int i := r
    exact rfl
  | str x =>
    obtain rfl : v = .str x := r
    have h' : (if x.length ≤ cap then some ((x.length : Int) != 0) else none) = some b := h
    by_cases hz : x.length ≤ cap
    · rw [if_pos hz] at h'
      cases h'
      exact ⟨cap_le hz, rfl⟩
    · rw [if_neg hz] at h'
      cases h'
  | pr ds => cases h
  | tup ds =>
    cases h
    obtain ⟨a, xs, rfl, q, r⟩ := r
    exact .inr (.inl ⟨xs, q.sq, by rw [isEmpty_reps r]⟩)
  | ref n =>
    obtain ⟨a, ha, rfl⟩ := r
    unfold tru at h
    simp only at h
    split at h
    · rename_i ds e
      cases h
      obtain ⟨b', e1, xs, q, rr⟩ := hs.stands n _ e
      rw [ha] at e1
      cases e1
      exact .inl ⟨xs, SqL.of q, by rw [isEmpty_reps rr]⟩
    · rename_i ds e
      cases h
      obtain ⟨b', e1, rr⟩ := hs.stands n _ e
      rw [ha] at e1
      cases e1
      obtain ⟨xs, q, rr⟩ := ro_sq rr
      exact .inl ⟨xs, q, by rw [isEmpty_reps rr]⟩
    · rename_i kvs e
      cases h
      obtain ⟨b', e1, ys, q, rr⟩ := hs.stands n _ e
      rw [ha] at e1
      cases e1
      refine .inr (.inr ⟨ys, q, ?_⟩)
      have hl := congrArg List.length rr.1
      rw [List.length_map, List.length_map] at hl
      cases kvs <;> cases ys <;> first | rfl | (simp at hl)
    · cases h

def tB (fe : FE) : FT := fun env S => th (fe env S) fun d S1 => match d with
  | .bl b => some (b, S1)
  | _ => none
def tTru (fe : FE) : FT := fun env S => th (fe env S) fun d S1 => (tru d S1).map fun b => (b, S1)
def tNot (ft : FT) : FT := fun env S => th (ft env S) fun b S1 => some (!b, S1)
def tAnd (fa fb : FT) : FT := fun env S => th (fa env S) fun b S1 => if b = true then fb env S1 else some (false, S1)
def tOr (fa fb : FT) : FT := fun env S => th (fa env S) fun b S1 => if b = true then some (true, S1) else fb env S1
def eIf (ft : FT) (fa fb : FE) : FE := fun env S => th (ft env S) fun b S1 => if b = true then fa env S1 else fb env S1
def eAnd (fa fb : FE) : FE := fun env S => th (fa env S) fun x S1 => match tru x S1 with
  | some true => fb env S1
  | some false => some (x, S1)
  | none => none
def eOr (fa fb : FE) : FE := fun env S => th (fa env S) fun x S1 => match tru x S1 with
  | some true => some (x, S1)
  | some false => fb env S1
  | none => none
def eNot (fa : FE) : FE := fun env S => th (fa env S) fun x S1 => match tru x S1 with
  | some b => some (.bl (!b), S1)
  | none => none

section
variable {c : FC} {X : Cx} {a b e cc : Expr} {fa fb fe : FE} {ft fu : FT} {pos : Pos} {rest : List Expr}
theorem tB_red {σ : L2.St} {H : Hp} {Q : Bool → Hp → Prop} {t : TE} (h : tT c (tB fe) σ H Q) (w : ∀ Q, tE c fe σ H Q → t σ H Q) : t σ H fun x H1 => ∃ k, x = .bl k ∧ Q k H1 := by
  obtain ⟨μ, env, S, b, S', he, hs, hf, ha⟩ := h
  obtain ⟨d, S1, h1, hf⟩ := th_inv hf
  refine w _ ⟨μ, env, S, d, S1, he, hs, h1, fun μ1 H1 v e1 k1 r => ?_⟩
  cases d with
  | bl k =>
    cases hf
    obtain rfl : v = .bl b := r
    exact ⟨b, rfl, ha _ _ e1 k1⟩
  | _ => cases hf
theorem q_tcmp {op : CmpOp} {r : F2} (ho : OpR X (compareOp op) (r2 c r)) (ha : PE X a (tE c fa)) (hb : PE X b (tE c fb)) (hm : behindInMarks op b = false := by rfl) : PT X (.Compare a [op] [b] pos) (tT c (tB (eBin r fa fb))) :=
  PT.w (pt_cmpR ho ha hb hm) fun _ _ _ h => tB_red h fun _ => bin_red
theorem q_tru (hK : c.K = X.K) (h : PE X e (tE c fe)) (he : ∀ whole, isTrue e X.env whole = (do let v ← whole; standAt e.pos; holding [v] (truthy v)) := by intro _; rfl) : PT X e (tT c (tTru fe)) := by
  refine PT.w (pt_truth h he) fun σ H Q h => ?_
  obtain ⟨μ, env, S, b, S', he, hs, hf, ha⟩ := h
  obtain ⟨d, S1, h1, hf⟩ := th_inv hf
  refine ⟨μ, env, S, d, S1, he, hs, h1, fun μ1 H1 v e1 k1 r => ?_⟩
  obtain ⟨k, ek, e2⟩ := Option.map_eq_some_iff.mp hf
  cases e2
  exact ⟨b, by rw [← hK]; exact tru_ok k1 r ek, ha _ _ e1 k1⟩
theorem q_tnot (h : PT X a (tT c ft)) : PT X (.UnaryOp .Not a pos) (tT c (tNot ft)) := by
  refine PT.w (pt_not h) fun σ H Q h => ?_
  obtain ⟨μ, env, S, b, S', he, hs, hf, ha⟩ := h
  obtain ⟨d, S1, h1, hf⟩ := th_inv hf
  cases hf
  exact ⟨μ, env, S, d, _, he, hs, h1, fun μ1 H1 e1 k1 => ha _ _ e1 k1⟩
theorem q_wand1 (h : PT X a (tT c ft)) : PW X (.BoolOp .And [a] pos) (tT c ft) := pw_and1 h
theorem q_wor1 (h : PT X a (tT c ft)) : PW X (.BoolOp .Or [a] pos) (tT c ft) := pw_or1 h
theorem q_wand (h : PT X a (tT c ft)) (k : PW X (.BoolOp .And (b :: rest) pos) (tT c fu)) : PW X (.BoolOp .And (a :: b :: rest) pos) (tT c (tAnd ft fu)) := by
  refine PW.w (pw_and h k) fun σ H Q h => ?_
  obtain ⟨μ, env, S, b, S', he, hs, hf, ha⟩ := h
  obtain ⟨d, S1, h1, hf⟩ := th_inv hf
  refine ⟨μ, env, S, d, _, he, hs, h1, fun μ1 H1 e1 k1 => ?_⟩
  cases d with
  | true => exact ⟨μ1, env, S1, b, S', he.mono e1, k1, hf, fun μ2 H2 e2 k2 => ha _ _ (e1.trans e2) k2⟩
  | false =>
    cases hf
    exact ha _ _ e1 k1
theorem q_wor (h : PT X a (tT c ft)) (k : PW X (.BoolOp .Or (b :: rest) pos) (tT c fu)) : PW X (.BoolOp .Or (a :: b :: rest) pos) (tT c (tOr ft fu)) := by
  refine PW.w (pw_or h k) fun σ H Q h => ?_
  obtain ⟨μ, env, S, b, S', he, hs, hf, ha⟩ := h
  obtain ⟨d, S1, h1, hf⟩ := th_inv hf
  refine ⟨μ, env, S, d, _, he, hs, h1, fun μ1 H1 e1 k1 => ?_⟩
  cases d with
  | false => exact ⟨μ1, env, S1, b, S', he.mono e1, k1, hf, fun μ2 H2 e2 k2 => ha _ _ (e1.trans e2) k2⟩
  | true =>
    cases hf
    exact ha _ _ e1 k1
theorem q_if (h : PT X cc (tT c ft)) (ha : PE X a (tE c fa)) (hb : PE X b (tE c fb)) : PE X (.IfExp cc a b pos) (tE c (eIf ft fa fb)) := by
  refine PE.w (pe_ifExp h ha hb) fun σ H Q h => ?_
  obtain ⟨μ, env, S, d, S', he, hs, hf, ha⟩ := h
  obtain ⟨k, S1, h1, hf⟩ := th_inv hf
  refine ⟨μ, env, S, k, _, he, hs, h1, fun μ1 H1 e1 k1 => ?_⟩
  cases k with
  | true => exact ⟨μ1, env, S1, d, S', he.mono e1, k1, hf, ha.ext e1⟩
  | false => exact ⟨μ1, env, S1, d, S', he.mono e1, k1, hf, ha.ext e1⟩
theorem q_one {op : BoolOp} (h : PE X a (tE c fa)) : PE X (.BoolOp op [a] pos) (tE c fa) := pe_one h
theorem q_and (hK : c.K = X.K) (h : PE X a (tE c fa)) (k : PE X (.BoolOp .And (b :: rest) pos) (tE c fb)) : PE X (.BoolOp .And (a :: b :: rest) pos) (tE c (eAnd fa fb)) := by
  refine PE.w (pe_andT h k) fun σ H Q h => ?_
  obtain ⟨μ, env, S, d, S', he, hs, hf, ha⟩ := h
  obtain ⟨x, S1, h1, hf⟩ := th_inv hf
  refine ⟨μ, env, S, x, _, he, hs, h1, fun μ1 H1 v e1 k1 r1 => ?_⟩
  split at hf
  · rename_i q
    exact ⟨true, by rw [← hK]; exact tru_ok k1 r1 q, ⟨μ1, env, S1, d, S', he.mono e1, k1, hf, ha.ext e1⟩⟩
  · rename_i q
    cases hf
    exact ⟨false, by rw [← hK]; exact tru_ok k1 r1 q, ha _ _ _ e1 k1 r1⟩
  · cases hf
theorem q_or (hK : c.K = X.K) (h : PE X a (tE c fa)) (k : PE X (.BoolOp .Or (b :: rest) pos) (tE c fb)) : PE X (.BoolOp .Or (a :: b :: rest) pos) (tE c (eOr fa fb)) := by
  refine PE.w (pe_orT h k) fun σ H Q h => ?_
  obtain ⟨μ, env, S, d, S', he, hs, hf, ha⟩ := h
  obtain ⟨x, S1, h1, hf⟩ := th_inv hf
  refine ⟨μ, env, S, x, _, he, hs, h1, fun μ1 H1 v e1 k1 r1 => ?_⟩
  split at hf
  · rename_i q
    cases hf
    exact ⟨true, by rw [← hK]; exact tru_ok k1 r1 q, ha _ _ _ e1 k1 r1⟩
  · rename_i q
    exact ⟨false, by rw [← hK]; exact tru_ok k1 r1 q, ⟨μ1, env, S1, d, S', he.mono e1, k1, hf, ha.ext e1⟩⟩
  · cases hf
theorem q_not (hK : c.K = X.K) (h : PE X a (tE c fa)) : PE X (.UnaryOp .Not a pos) (tE c (eNot fa)) := by
  refine PE.w (pe_notT h) fun σ H Q h => ?_
  obtain ⟨μ, env, S, d, S', he, hs, hf, ha⟩ := h
  obtain ⟨x, S1, h1, hf⟩ := th_inv hf
  refine ⟨μ, env, S, x, _, he, hs, h1, fun μ1 H1 v e1 k1 r1 => ?_⟩
  split at hf
  · rename_i k q
    cases hf
    exact ⟨k, by rw [← hK]; exact tru_ok k1 r1 q, ha _ _ _ e1 k1 rfl⟩
  · cases hf
/-- is None, is not None -/
def eIsN (fa : FE) : FE := fun env S => th (fa env S) fun x S1 => match x with
  | .non => some (.bl true, S1)
  | _ => some (.bl false, S1)
def eNotN (fa : FE) : FE := fun env S => th (fa env S) fun x S1 => match x with
  | .non => some (.bl false, S1)
  | _ => some (.bl true, S1)
theorem Rep.isN {μ : List Addr} {H : Hp} : ∀ {d : D} {v : V}, Rep c μ H d v → (decide (v = .non) = match d with | .non => true | _ => false)
  | .non, _, h => by
    obtain rfl := h
    rfl
  | .bl _, _, h => by
    obtain rfl := h
    rfl
  | .int _, _, h => by
    obtain rfl := h
    rfl
  | .str _, _, h => by
    obtain rfl := h
    rfl
  | .tup _, _, h => by
    obtain ⟨_, _, rfl, _⟩ := h
    rfl
  | .pr _, _, h => by
    obtain ⟨_, _, rfl, _⟩ := h
    rfl
  | .ref _, _, h => by
    obtain ⟨_, _, rfl⟩ := h
    rfl
theorem isN_red {σ : L2.St} {H : Hp} {Q : VK} (h : tE c (eIsN fa) σ H Q) : tIsN (tE c fa) σ H Q := by
  obtain ⟨μ, env, S, d, S', he, hs, hf, ha⟩ := h
  obtain ⟨x, S1, h1, hf⟩ := th_inv hf
  refine ⟨μ, env, S, x, _, he, hs, h1, fun μ1 H1 v e1 k1 r1 => ?_⟩
  show Q (.bl (decide (v = .non))) H1
  rw [r1.isN]
  cases x <;> (cases hf; exact ha _ _ _ e1 k1 rfl)
theorem notN_red {σ : L2.St} {H : Hp} {Q : VK} (h : tE c (eNotN fa) σ H Q) : tNotN (tE c fa) σ H Q := by
  obtain ⟨μ, env, S, d, S', he, hs, hf, ha⟩ := h
  obtain ⟨x, S1, h1, hf⟩ := th_inv hf
  refine ⟨μ, env, S, x, _, he, hs, h1, fun μ1 H1 v e1 k1 r1 => ?_⟩
  show Q (.bl (!decide (v = .non))) H1
  rw [r1.isN]
  cases x <;> (cases hf; exact ha _ _ _ e1 k1 rfl)
theorem q_isN {j pos'} (h : PE X a (tE c fa)) : PE X (.Compare a [.Is] [.Constant .none j pos'] pos) (tE c (eIsN fa)) := PE.w (pe_cmp (pc_isN h)) fun _ _ _ => isN_red
theorem q_notN {j pos'} (h : PE X a (tE c fa)) : PE X (.Compare a [.IsNot] [.Constant .none j pos'] pos) (tE c (eNotN fa)) := PE.w (pe_cmp (pc_notN h)) fun _ _ _ => notN_red
theorem q_tisN {j pos'} (h : PE X a (tE c fa)) : PT X (.Compare a [.Is] [.Constant .none j pos'] pos) (tT c (tB (eIsN fa))) := PT.w (pt_cmp (pc_isN h)) fun _ _ _ h => tB_red h fun _ => isN_red
theorem q_tnotN {j pos'} (h : PE X a (tE c fa)) : PT X (.Compare a [.IsNot] [.Constant .none j pos'] pos) (tT c (tB (eNotN fa))) := PT.w (pt_cmp (pc_notN h)) fun _ _ _ h => tB_red h fun _ => notN_red
end

/-! ### chains of comparisons -/
abbrev FC2 := D → Env → Sto → Option (D × Sto)
def chL (r : F2) (fb : FE) : FC2 := fun x env S => th (fb env S) fun y S1 => r x y S1
def chK (r : F2) (fb : FE) (t : FC2) : FC2 := fun x env S => th (fb env S) fun y S1 => th (r x y S1) fun k S2 => match k with
  | .bl true => t y env S2
  | .bl false => some (.bl false, S2)
  | _ => none
def eCh (fa : FE) (t : FC2) : FE := fun env S => th (fa env S) fun x S1 => t x env S1
structure PCh (c : FC) (X : Cx) (ops : List CmpOp) (es : List Expr) (t : FC2) : Prop where
  val : ∀ (pos : Pos) (pins : List (Addr × Obj)) (s : Shared) (σ : L2.St) (H : Hp) (v : V) (u : Value) (Q : VK) (μ : List Addr) (env : Env) (S : Sto) (x d : D) (S' : Sto), Inv X pins σ H s → RelV v u → EnvOk c μ H env σ → StoOk c μ S H → Rep c μ H x v → t x env S = some (d, S') → After c μ H S' d Q →
    wpAny (model X.prog X.w) X.A (compareChain pos u ops (evalEach es X.env)) (EP X pins σ Q) X.xe s
  test : ∀ (pos : Pos) (pins : List (Addr × Obj)) (s : Shared) (σ : L2.St) (H : Hp) (v : V) (u : Value) (Q : Bool → Hp → Prop) (μ : List Addr) (env : Env) (S : Sto) (x : D) (k : Bool) (S' : Sto), Inv X pins σ H s → RelV v u → EnvOk c μ H env σ → StoOk c μ S H → Rep c μ H x v → t x env S = some (.bl k, S') →
    (∀ μ' H', Ext c μ H μ' H' → StoOk c μ' S' H' → Q k H') → wpAny (model X.prog X.w) X.A (testChain pos u ops (evalEach es X.env)) (TP X pins σ Q) X.xe s
section
variable {c : FC} {X : Cx} {a b : Expr} {fa fb : FE} {pos : Pos} {op op' : CmpOp} {ops : List CmpOp} {es : List Expr} {r : F2} {t : FC2}
theorem q_chL (ho : OpR X (compareOp op) (r2 c r)) (hb : PE X b (tE c fb)) : PCh c X [op] [b] (chL r fb) := by
  refine ⟨fun pos pins s σ H v u Q μ env S x d S' I rv he hs rx hf ha => ?_, fun pos pins s σ H v u Q μ env S x k S' I rv he hs rx hf ha => ?_⟩
  · obtain ⟨y, S1, h1, hf⟩ := th_inv hf
    exact chain_last (thn (hb.run pins s σ H (fun w H1 => ∃ μ1, Ext c μ H μ1 H1 ∧ StoOk c μ1 S1 H1 ∧ Rep c μ1 H1 y w) I ⟨μ, env, S, y, S1, he, hs, h1, fun μ1 H1 w e1 k1 r1 => ⟨μ1, e1, k1, r1⟩⟩) fun w' s1 ⟨w, H1, I1, rw1, μ1, e1, k1, r1⟩ =>
      ho pins s1 σ H1 v w u w' Q I1 rv rw1 ⟨μ1, S1, x, y, d, S', k1, Rep.mono e1 _ _ rx, r1, hf, ha.ext e1⟩)
  · obtain ⟨y, S1, h1, hf⟩ := th_inv hf
    exact test_last (thn (hb.run pins s σ H (fun w H1 => ∃ μ1, Ext c μ H μ1 H1 ∧ StoOk c μ1 S1 H1 ∧ Rep c μ1 H1 y w) I ⟨μ, env, S, y, S1, he, hs, h1, fun μ1 H1 w e1 k1 r1 => ⟨μ1, e1, k1, r1⟩⟩) fun w' s1 ⟨w, H1, I1, rw1, μ1, e1, k1, r1⟩ =>
      thn (ho pins s1 σ H1 v w u w' (fun z H2 => z = .bl k ∧ Q k H2) I1 rv rw1 ⟨μ1, S1, x, y, _, S', k1, Rep.mono e1 _ _ rx, r1, hf, fun μ2 H2 z e2 k2 r2 => ⟨r2, ha _ _ (e1.trans e2) k2⟩⟩) fun z' s2 ⟨z, H2, I2, rz, ez, q2⟩ => by
        subst ez
        cases rz
        exact wpAny_truthy_bool ⟨H2, I2, q2⟩)
theorem q_chK (ho : OpR X (compareOp op) (r2 c r)) (hb : PE X b (tE c fb)) {b' : Expr} (hr : PCh c X (op' :: ops) (b' :: es) t) : PCh c X (op :: op' :: ops) (b :: b' :: es) (chK r fb t) := by
  refine ⟨fun pos pins s σ H v u Q μ env S x d S' I rv he hs rx hf ha => ?_, fun pos pins s σ H v u Q μ env S x k S' I rv he hs rx hf ha => ?_⟩
  · obtain ⟨y, S1, h1, hf⟩ := th_inv hf
    obtain ⟨z, S2, h2, hf⟩ := th_inv hf
    refine chain_link (thn (hb.run pins s σ H (fun w H1 => ∃ μ1, Ext c μ H μ1 H1 ∧ StoOk c μ1 S1 H1 ∧ Rep c μ1 H1 y w) I ⟨μ, env, S, y, S1, he, hs, h1, fun μ1 H1 w e1 k1 r1 => ⟨μ1, e1, k1, r1⟩⟩) fun w' s1 ⟨w, H1, I1, rw1, μ1, e1, k1, r1⟩ => ?_)
    refine thn (ho pins s1 σ H1 v w u w' (fun z' H2 => ∃ μ2, Ext c μ1 H1 μ2 H2 ∧ StoOk c μ2 S2 H2 ∧ Rep c μ2 H2 z z') I1 rv rw1 ⟨μ1, S1, x, y, z, S2, k1, Rep.mono e1 _ _ rx, r1, h2, fun μ2 H2 z' e2 k2 r2 => ⟨μ2, e2, k2, r2⟩⟩) fun z' s2 ⟨zv, H2, I2, rz, μ2, e2, k2, r2⟩ => ?_
    cases z with
    | bl k =>
      obtain rfl : zv = .bl k := r2
      cases rz
      refine wpAny_truthy_bool ?_
      cases k with
      | true => exact ite_tt (hr.val pos pins s2 σ H2 w w' Q μ2 env S2 y d S' I2 rw1 ((he.mono e1).mono e2) k2 (Rep.mono e2 _ _ r1) hf ((ha.ext e1).ext e2))
      | false =>
        cases hf
        exact ite_ff ⟨.bl false, H2, I2, rfl, ha _ _ _ (e1.trans e2) k2 rfl⟩
    | _ => cases hf
  · obtain ⟨y, S1, h1, hf⟩ := th_inv hf
    obtain ⟨z, S2, h2, hf⟩ := th_inv hf
    refine test_link (thn (hb.run pins s σ H (fun w H1 => ∃ μ1, Ext c μ H μ1 H1 ∧ StoOk c μ1 S1 H1 ∧ Rep c μ1 H1 y w) I ⟨μ, env, S, y, S1, he, hs, h1, fun μ1 H1 w e1 k1 r1 => ⟨μ1, e1, k1, r1⟩⟩) fun w' s1 ⟨w, H1, I1, rw1, μ1, e1, k1, r1⟩ => ?_)
    refine thn (ho pins s1 σ H1 v w u w' (fun z' H2 => ∃ μ2, Ext c μ1 H1 μ2 H2 ∧ StoOk c μ2 S2 H2 ∧ Rep c μ2 H2 z z') I1 rv rw1 ⟨μ1, S1, x, y, z, S2, k1, Rep.mono e1 _ _ rx, r1, h2, fun μ2 H2 z' e2 k2 r2 => ⟨μ2, e2, k2, r2⟩⟩) fun z' s2 ⟨zv, H2, I2, rz, μ2, e2, k2, r2⟩ => ?_
    cases z with
    | bl k' =>
      obtain rfl : zv = .bl k' := r2
      cases rz
      refine wpAny_truthy_bool ?_
      cases k' with
      | true => exact ite_tt (hr.test pos pins s2 σ H2 w w' Q μ2 env S2 y k S' I2 rw1 ((he.mono e1).mono e2) k2 (Rep.mono e2 _ _ r1) hf fun μ3 H3 e3 k3 => ha _ _ ((e1.trans e2).trans e3) k3)
      | false =>
        cases hf
        exact ite_ff ⟨H2, I2, ha _ _ (e1.trans e2) k2⟩
    | _ => cases hf
theorem q_ch {op'' : CmpOp} {b' : Expr} (ha : PE X a (tE c fa)) (hr : PCh c X (op :: op'' :: ops) (b :: b' :: es) t) (hm : lastMarks (op :: op'' :: ops) (b :: b' :: es) = false := by with_unfolding_all rfl) : PE X (.Compare a (op :: op'' :: ops) (b :: b' :: es) pos) (tE c (eCh fa t)) := by
  refine ⟨fun pins s σ H Q I h => ?_⟩
  obtain ⟨μ, env, S, d, S', he, hs, hf, hq⟩ := h
  obtain ⟨x, S1, h1, hf⟩ := th_inv hf
  refine Compare_chain (thn (ha.run pins s σ H (fun w H1 => ∃ μ1, Ext c μ H μ1 H1 ∧ StoOk c μ1 S1 H1 ∧ Rep c μ1 H1 x w) I ⟨μ, env, S, x, S1, he, hs, h1, fun μ1 H1 w e1 k1 r1 => ⟨μ1, e1, k1, r1⟩⟩) fun w' s1 ⟨w, H1, I1, rw1, μ1, e1, k1, r1⟩ => ?_) hm
  exact hr.val pos pins s1 σ H1 w w' Q μ1 env S1 x d S' I1 rw1 (he.mono e1) k1 r1 hf (hq.ext e1)
theorem q_tch {op'' : CmpOp} {b' : Expr} (ha : PE X a (tE c fa)) (hr : PCh c X (op :: op'' :: ops) (b :: b' :: es) t) (hm : lastMarks (op :: op'' :: ops) (b :: b' :: es) = false := by with_unfolding_all rfl) : PT X (.Compare a (op :: op'' :: ops) (b :: b' :: es) pos) (tT c (tB (eCh fa t))) := by
  refine ⟨fun pins s σ H Q I h => ?_⟩
  obtain ⟨μ, env, S, k, S', he, hs, hf, hq⟩ := h
  obtain ⟨d, S2, h2, hf⟩ := th_inv hf
  obtain ⟨x, S1, h1, h2⟩ := th_inv h2
  cases d with
  | bl k' =>
    cases hf
    refine isTrue_chain (thn (ha.run pins s σ H (fun w H1 => ∃ μ1, Ext c μ H μ1 H1 ∧ StoOk c μ1 S1 H1 ∧ Rep c μ1 H1 x w) I ⟨μ, env, S, x, S1, he, hs, h1, fun μ1 H1 w e1 k1 r1 => ⟨μ1, e1, k1, r1⟩⟩) fun w' s1 ⟨w, H1, I1, rw1, μ1, e1, k1, r1⟩ => ?_) hm
    exact hr.test pos pins s1 σ H1 w w' Q μ1 env S1 x _ S' I1 rw1 (he.mono e1) k1 r1 h2 fun μ2 H2 e2 k2 => hq _ _ (e1.trans e2) k2
  | _ => cases hf
end
end FL
/-! FL4: operators, subscripts, slices, built-ins and methods by data. -/
namespace FL
open PySem PySem.Spec PyProof.Rows L2

/-! ### dicts as lists of pairs -/
section
variable {κ : Type} [DecidableEq κ] {β : Type}
def valG (kvs : List (κ × β)) (k : κ) : Option β := (kvs.find? fun kv => decide (kv.1 = k)).map (·.2)
def putG (kvs : List (κ × β)) (k : κ) (v : β) : List (κ × β) := if (kvs.any fun kv => decide (kv.1 = k)) = true then kvs.map (fun kv => if kv.1 = k then (kv.1, v) else kv) else kvs ++ [(k, v)]
def dropG (kvs : List (κ × β)) (k : κ) : List (κ × β) := kvs.filter fun kv => decide (kv.1 ≠ k)
variable {c : FC} {μ : List Addr} {H : Hp}
theorem RepKV.nil : RepKV c μ H ([] : List (κ × D)) [] := ⟨rfl, rfl⟩
theorem RepKV.cons {k : κ} {d : D} {v : V} {kvs : List (κ × D)} {ys : List (κ × V)} (r : Rep c μ H d v) (h : RepKV c μ H kvs ys) : RepKV c μ H ((k, d) :: kvs) ((k, v) :: ys) := ⟨by rw [List.map_cons, List.map_cons, h.1], v, _, rfl, r, h.2⟩
theorem RepKV.inv {k : κ} {d : D} {kvs : List (κ × D)} {ys : List (κ × V)} (h : RepKV c μ H ((k, d) :: kvs) ys) : ∃ v ys', ys = (k, v) :: ys' ∧ Rep c μ H d v ∧ RepKV c μ H kvs ys' := by
  obtain ⟨h1, v, vs, h2, r, rr⟩ := h
  cases ys with
  | nil => simp at h1
  | cons y ys' =>
    rw [List.map_cons, List.map_cons] at h1
    rw [List.map_cons] at h2
    injection h1 with e1 e2
    injection h2 with e3 e4
    obtain ⟨y1, y2⟩ := y
    simp only at e1 e3
    subst e1
    subst e3
    exact ⟨y2, ys', rfl, r, e2, by rw [e4]; exact rr⟩
theorem RepKV.inv0 {ys : List (κ × V)} (h : RepKV c μ H ([] : List (κ × D)) ys) : ys = [] := by
  obtain ⟨h1, _⟩ := h
  cases ys with
  | nil => rfl
  | cons _ _ => simp at h1
theorem RepKV.len {kvs : List (κ × D)} {ys : List (κ × V)} (h : RepKV c μ H kvs ys) : ys.length = kvs.length := by
  have q := congrArg List.length h.1
  rw [List.length_map, List.length_map] at q
  exact q.symm
theorem RepKV.val : ∀ {kvs : List (κ × D)} {ys : List (κ × V)} (k : κ), RepKV c μ H kvs ys → (∀ d, valG kvs k = some d → ∃ v, valV ys k = some v ∧ Rep c μ H d v) ∧ (valG kvs k = none → valV ys k = none)
  | [], ys, k, h => by
    rw [h.inv0]
    exact ⟨(fun _ e => nomatch e), fun _ => rfl⟩
  | (k', d') :: kvs, ys, k, h => by
    obtain ⟨v, ys', rfl, r, h2⟩ := h.inv
    obtain ⟨i1, i2⟩ := RepKV.val k h2
    by_cases e : k' = k
    · have e1 : valG ((k', d') :: kvs) k = some d' := by simp [valG, List.find?_cons, e]
      rw [e1, valV_pos (p := (k', v)) e]
      exact ⟨(fun d q => by cases q; exact ⟨v, rfl, r⟩), (fun q => nomatch q)⟩
    · have e1 : valG ((k', d') :: kvs) k = valG kvs k := by simp [valG, List.find?_cons, e]
      rw [e1, valV_neg (p := (k', v)) e]
      exact ⟨i1, i2⟩
theorem RepKV.any : ∀ {kvs : List (κ × D)} {ys : List (κ × V)} (k : κ), RepKV c μ H kvs ys → (ys.any fun kv => decide (kv.1 = k)) = kvs.any fun kv => decide (kv.1 = k)
  | [], ys, k, h => by rw [h.inv0]; rfl
  | (k', d') :: kvs, ys, k, h => by
    obtain ⟨v, ys', rfl, r, h2⟩ := h.inv
    rw [List.any_cons, List.any_cons, RepKV.any k h2]
theorem RepKV.app : ∀ {kvs : List (κ × D)} {ys : List (κ × V)} {more : List (κ × D)} {zs : List (κ × V)}, RepKV c μ H kvs ys → RepKV c μ H more zs → RepKV c μ H (kvs ++ more) (ys ++ zs)
  | [], ys, _, _, h, k => by rw [h.inv0]; exact k
  | (k', d') :: kvs, ys, _, _, h, k => by
    obtain ⟨v, ys', rfl, r, h2⟩ := h.inv
    exact RepKV.cons r (RepKV.app h2 k)
theorem RepKV.map {k : κ} {d : D} {v : V} (r : Rep c μ H d v) : ∀ {kvs : List (κ × D)} {ys : List (κ × V)}, RepKV c μ H kvs ys → RepKV c μ H (kvs.map fun kv => if kv.1 = k then (kv.1, d) else kv) (ys.map fun kv => if kv.1 = k then (kv.1, v) else kv)
  | [], ys, h => by rw [h.inv0]; exact RepKV.nil
  | (k', d') :: kvs, ys, h => by
    obtain ⟨v', ys', rfl, r', h2⟩ := h.inv
    rw [List.map_cons, List.map_cons]
    by_cases e : k' = k
    · rw [if_pos e, if_pos e]
      exact RepKV.cons r (RepKV.map r h2)
    · rw [if_neg e, if_neg e]
      exact RepKV.cons r' (RepKV.map r h2)
theorem RepKV.put {k : κ} {d : D} {v : V} (r : Rep c μ H d v) {kvs : List (κ × D)} {ys : List (κ × V)} (h : RepKV c μ H kvs ys) : RepKV c μ H (putG kvs k d) (putK ys k v) := by
  unfold putG putK
  rw [h.any k]
  split
  · exact RepKV.map r h
  · exact h.app (RepKV.cons r RepKV.nil)
theorem RepKV.drop {k : κ} : ∀ {kvs : List (κ × D)} {ys : List (κ × V)}, RepKV c μ H kvs ys → RepKV c μ H (dropG kvs k) (dropK ys k)
  | [], ys, h => by rw [h.inv0]; exact RepKV.nil
  | (k', d') :: kvs, ys, h => by
    obtain ⟨v', ys', rfl, r', h2⟩ := h.inv
    have ih := RepKV.drop (k := k) h2
    unfold dropG dropK at ih ⊢
    rw [List.filter_cons, List.filter_cons]
    by_cases e : k' = k
    · rw [if_neg (by simp [e]), if_neg (by simp [e])]
      exact ih
    · rw [if_pos (by simp [e]), if_pos (by simp [e])]
      exact RepKV.cons r' ih
end
def keyD : D → Option Key
  | .int i => some (.inl i)
  | .str x => some (.inr x)
  | _ => none
def dKey : Key → D
  | .inl i => .int i
  | .inr x => .str x
theorem keyD_rep {c : FC} {μ : List Addr} {H : Hp} {d : D} {v : V} {k : Key} (r : Rep c μ H d v) (h : keyD d = some k) : v = kV k := by
  cases d with
  | int i =>
    cases h
    exact r
  | str x =>
    cases h
    exact r
  | _ => cases h
theorem dKey_rep {c : FC} {μ : List Addr} {H : Hp} (k : Key) : Rep c μ H (dKey k) (kV k) := by cases k <;> exact rfl
theorem getD_rd {c : FC} {μ : List Addr} {S : Sto} {H : Hp} {n : Nat} {kvs : List (Key × D)} (hs : StoOk c μ S H) (h : getD S n = some kvs) : ∃ a ys, μ[n]? = some a ∧ Rd H a (.dK ys) ∧ RepKV c μ H kvs ys := by
  unfold getD at h
  split at h
  · rename_i e
    cases h
    obtain ⟨a, e1, ys, q, r⟩ := hs.stands n _ e
    exact ⟨a, ys, e1, .inl q, r⟩
  · rename_i e
    cases h
    obtain ⟨a, e1, o, ys, q, r⟩ := hs.stands n _ e
    exact ⟨a, ys, e1, .inr ⟨o, q⟩, r⟩
  · cases h

/-! ### data that can be compared -/
mutual
def toPyG (g : Nat → Option PyData) : D → Option PyData
  | .non => some .none
  | .bl b => some (.bool b)
  | .int i => some (.int i)
  | .str x => some (.str x)
  | .tup ds => (toPysG g ds).map .tuple
  | .pr _ => none
  | .ref n => g n
def toPysG (g : Nat → Option PyData) : List D → Option (List PyData)
  | [] => some []
  | d :: ds => (toPyG g d).bind fun p => (toPysG g ds).map fun ps => p :: ps
end
def refPy (S : Sto) : Nat → Nat → Option PyData
  | 0, _ => none
  | k + 1, n => (getL S n).bind fun ds => (toPysG (refPy S k) ds).map .list
def toPy (S : Sto) (d : D) : Option PyData := toPyG (refPy S 4) d
section
variable {c : FC} {μ : List Addr} {S : Sto} {H : Hp}
mutual
theorem toPyG_dp {g : Nat → Option PyData} (hg : ∀ n a p, g n = some p → μ[n]? = some a → Dp c.K H (.ref a) p) : ∀ (d : D) (p : PyData) (v : V), toPyG g d = some p → Rep c μ H d v → Dp c.K H v p
  | .non, p, v, h, r => by
    cases h
    obtain rfl : v = .non := r
    exact .non
  | .bl b, p, v, h, r => by
    cases h
    obtain rfl : v = .bl b := r
    exact .bl b
  | .int i, p, v, h, r => by
    cases h
    obtain rfl : v = .int i := r
    exact .int i
  | .str x, p, v, h, r => by
    cases h
    obtain rfl : v = .str x := r
    exact .str x
  | .tup ds, p, v, h, r => by
    obtain ⟨a, xs, rfl, q, rr⟩ := r
    obtain ⟨ps, e1, e2⟩ := Option.map_eq_some_iff.mp h
    subst e2
    exact .tup q.sq (toPysG_dp hg ds ps xs e1 rr)
  | .pr _, p, v, h, r => nomatch h
  | .ref n, p, v, h, r => by
    obtain ⟨a, ha, rfl⟩ := r
    exact hg n a p h ha
theorem toPysG_dp {g : Nat → Option PyData} (hg : ∀ n a p, g n = some p → μ[n]? = some a → Dp c.K H (.ref a) p) : ∀ (ds : List D) (ps : List PyData) (xs : List V), toPysG g ds = some ps → Reps c μ H ds xs → DpAll c.K H xs ps
  | [], ps, xs, h, r => by
    cases h
    obtain rfl : xs = [] := r
    exact .nil
  | d :: ds, ps, xs, h, r => by
    obtain ⟨v, vs, rfl, r1, r2⟩ := r
    obtain ⟨p, e1, e2⟩ := Option.bind_eq_some_iff.mp h
    obtain ⟨qs, e3, e4⟩ := Option.map_eq_some_iff.mp e2
    subst e4
    exact .cons (toPyG_dp hg d p v e1 r1) (toPysG_dp hg ds qs vs e3 r2)
end
theorem refPy_dp (hs : StoOk c μ S H) : ∀ (k n : Nat) (a : Addr) (p : PyData), refPy S k n = some p → μ[n]? = some a → Dp c.K H (.ref a) p
  | 0, _, _, _, h, _ => nomatch h
  | k + 1, n, a, p, h, ha => by
    obtain ⟨ds, e1, e2⟩ := Option.bind_eq_some_iff.mp h
    obtain ⟨ps, e3, e4⟩ := Option.map_eq_some_iff.mp e2
    subst e4
    obtain ⟨a', xs, e5, q, r⟩ := getL_sq hs e1
    rw [ha] at e5
    cases e5
    exact .lst q (toPysG_dp (fun n a p => refPy_dp hs k n a p) ds ps xs e3 r)
theorem toPy_dp (hs : StoOk c μ S H) {d : D} {p : PyData} {v : V} (h : toPy S d = some p) (r : Rep c μ H d v) : Dp c.K H v p := toPyG_dp (fun n a p => refPy_dp hs 4 n a p) d p v h r
end
def oEq : F2 := fun x y S => match toPy S x, toPy S y with
  | some p, some q => if (SeqAt.shaped p && SeqAt.shaped q) = true then some (.bl (PyData.eqv p q), S) else none
  | _, _ => none
def oNe : F2 := fun x y S => match toPy S x, toPy S y with
  | some p, some q => if (SeqAt.shaped p && SeqAt.shaped q) = true then some (.bl (!PyData.eqv p q), S) else none
  | _, _ => none

/-! ### flat values -/
def flatD : D → Bool
  | .non => true
  | .bl _ => true
  | .int _ => true
  | .str _ => true
  | _ => false
def eqD : D → D → Bool
  | .non, .non => true
  | .bl a, .bl b => a == b
  | .bl a, .int b => (if a then 1 else 0) == b
  | .int a, .bl b => a == (if b then 1 else 0)
  | .int a, .int b => a == b
  | .str a, .str b => a == b
  | _, _ => false
def inD (x : D) (ds : List D) : Bool := ds.any fun y => eqD y x
section
variable {c : FC} {μ : List Addr} {H : Hp}
theorem flat_rep {d : D} {v : V} (h : flatD d = true) (r : Rep c μ H d v) : flatV v = true := by
  cases d with
  | non => obtain rfl : v = .non := r; rfl
  | bl b => obtain rfl : v = .bl b := r; rfl
  | int b => obtain rfl : v = .int b := r; rfl
  | str b => obtain rfl : v = .str b := r; rfl
  | _ => cases h
theorem eq_rep {d e : D} {v w : V} (h : flatD d = true) (k : flatD e = true) (r : Rep c μ H d v) (q : Rep c μ H e w) : eqV v w = eqD d e := by
  cases d with
  | non =>
    obtain rfl : v = .non := r
    cases e with
    | non => obtain rfl : w = .non := q; rfl
    | bl b => obtain rfl : w = .bl b := q; rfl
    | int b => obtain rfl : w = .int b := q; rfl
    | str b => obtain rfl : w = .str b := q; rfl
    | _ => cases k
  | bl a =>
    obtain rfl : v = .bl a := r
    cases e with
    | non => obtain rfl : w = .non := q; rfl
    | bl b => obtain rfl : w = .bl b := q; rfl
    | int b => obtain rfl : w = .int b := q; rfl
    | str b => obtain rfl : w = .str b := q; rfl
    | _ => cases k
  | int a =>
    obtain rfl : v = .int a := r
    cases e with
    | non => obtain rfl : w = .non := q; rfl
    | bl b => obtain rfl : w = .bl b := q; rfl
    | int b => obtain rfl : w = .int b := q; rfl
    | str b => obtain rfl : w = .str b := q; rfl
    | _ => cases k
  | str a =>
    obtain rfl : v = .str a := r
    cases e with
    | non => obtain rfl : w = .non := q; rfl
    | bl b => obtain rfl : w = .bl b := q; rfl
    | int b => obtain rfl : w = .int b := q; rfl
    | str b => obtain rfl : w = .str b := q; rfl
    | _ => cases k
  | _ => cases h
theorem flats_rep : ∀ {ds : List D} {xs : List V}, ds.all flatD = true → Reps c μ H ds xs → xs.all flatV = true
  | [], _, _, r => by
    obtain rfl := (show _ = [] from r)
    rfl
  | d :: ds, _, h, r => by
    obtain ⟨v, vs, rfl, r1, r2⟩ := r
    rw [List.all_cons, Bool.and_eq_true] at h
    rw [List.all_cons, flat_rep h.1 r1, flats_rep h.2 r2]
    rfl
theorem in_rep {x : D} {v : V} (hx : flatD x = true) (rx : Rep c μ H x v) : ∀ {ds : List D} {xs : List V}, ds.all flatD = true → Reps c μ H ds xs → inV v xs = inD x ds
  | [], _, _, r => by
    obtain rfl := (show _ = [] from r)
    rfl
  | d :: ds, _, h, r => by
    obtain ⟨w, vs, rfl, r1, r2⟩ := r
    rw [List.all_cons, Bool.and_eq_true] at h
    have ih := in_rep hx rx h.2 r2
    unfold inV inD at ih ⊢
    rw [List.any_cons, List.any_cons, eq_rep h.1 hx r1 rx, ih]
end
def signD : D → Option Nat
  | .str z => match z.cps.toList with
    | [k] => some k
    | _ => none
  | _ => none
def oInB (x y : D) (S : Sto) : Option Bool := match y with
  | .tup ds => if (flatD x && ds.all flatD) = true then some (inD x ds) else none
  | .str z => match signD x with
    | some k => some (decide (k ∈ z.cps.toList))
    | none => none
  | .ref n => match getL S n with
    | some ds => if (flatD x && ds.all flatD) = true then some (inD x ds) else none
    | none => match getD S n, keyD x with
      | some kvs, some k => some (valG kvs k).isSome
      | _, _ => none
  | _ => none
def oIn : F2 := fun x y S => (oInB x y S).map fun b => (.bl b, S)
def oNotIn : F2 := fun x y S => (oInB x y S).map fun b => (.bl (!b), S)

/-! ### arithmetic -/
def oAdd : F2 := fun x y S => match x, y with
  | .int i, .int j => some (.int (i + j), S)
  | .str a, .str b => if a.length + b.length ≤ cap then some (.str (a ++ b), S) else none
  | .tup xs, .tup ys => if xs.length + ys.length ≤ cap then some (.tup (xs ++ ys), S) else none
  | .ref n, .ref m => match S[n]?, S[m]? with
    | some (.lst xs), some (.lst ys) => if xs.length + ys.length ≤ cap then some (.ref S.length, S ++ [.lst (xs ++ ys)]) else none
    | _, _ => none
  | _, _ => none
def oSub : F2 := fun x y S => match x, y with
  | .int i, .int j => some (.int (i - j), S)
  | _, _ => none
def okMul (i j : Int) : Bool := (decide (-18446744073709551616 < i) && decide (i < 18446744073709551616)) || (decide (-18446744073709551616 < j) && decide (j < 18446744073709551616))
def oMul : F2 := fun x y S => match x, y with
  | .int i, .int j => if okMul i j = true then some (.int (i * j), S) else none
  | .ref n, .int k => match S[n]? with
    | some (.lst xs) => if (decide (0 ≤ k) && decide (k < 1000000) && decide (xs.length * k.toNat ≤ cap)) = true then some (.ref S.length, S ++ [.lst (List.replicate k.toNat xs).flatten]) else none
    | _ => none
  | _, _ => none
def okDiv (j : Int) : Bool := decide (0 < j) && decide (j < 18446744073709551616)
def oDiv : F2 := fun x y S => match x, y with
  | .int i, .int j => if okDiv j = true then some (.int (i / j), S) else none
  | _, _ => none
def oMod : F2 := fun x y S => match x, y with
  | .int i, .int j => if 0 < j then some (.int (i % j), S) else none
  | _, _ => none
def oPow : F2 := fun x y S => match x, y with
  | .int i, .int j => if (decide (0 ≤ j) && decide (j ≤ 1000) && decide (i.natAbs < 18446744073709551616)) = true then some (.int (i ^ j.toNat), S) else none
  | _, _ => none
def oNeg : F1 := fun x S => match x with
  | .int i => some (.int (-i), S)
  | _ => none
def oLt : F2 := fun x y S => match x, y with
  | .int i, .int j => some (.bl (decide (i < j)), S)
  | _, _ => none
def oLe : F2 := fun x y S => match x, y with
  | .int i, .int j => some (.bl (decide (i ≤ j)), S)
  | _, _ => none
def oGt : F2 := fun x y S => match x, y with
  | .int i, .int j => some (.bl (decide (j < i)), S)
  | _, _ => none
def oGe : F2 := fun x y S => match x, y with
  | .int i, .int j => some (.bl (decide (j ≤ i)), S)
  | _, _ => none

section
variable {c : FC} {X : Cx}
theorem dEq (hK : c.K = X.K) (hu : X.A.units + 64 < cLine) : OpR X (compareOp .Eq) (r2 c oEq) := by
  refine OpR.w (op_eqD hu) fun x y H Q h => ?_
  obtain ⟨μ, S, dx, dy, d, S', hs, rx, ry, hf, ha⟩ := h
  unfold oEq at hf
  split at hf
  · rename_i p q e1 e2
    split at hf
    · rename_i hz
      cases hf
      rw [Bool.and_eq_true] at hz
      exact ⟨p, q, by rw [← hK]; exact toPy_dp hs e1 rx, by rw [← hK]; exact toPy_dp hs e2 ry, hz.1, hz.2, ha.now hs rfl⟩
    · cases hf
  · cases hf
theorem dNe (hK : c.K = X.K) (hu : X.A.units + 64 < cLine) : OpR X (compareOp .NotEq) (r2 c oNe) := by
  refine OpR.w (op_neD hu) fun x y H Q h => ?_
  obtain ⟨μ, S, dx, dy, d, S', hs, rx, ry, hf, ha⟩ := h
  unfold oNe at hf
  split at hf
  · rename_i p q e1 e2
    split at hf
    · rename_i hz
      cases hf
      rw [Bool.and_eq_true] at hz
      exact ⟨p, q, by rw [← hK]; exact toPy_dp hs e1 rx, by rw [← hK]; exact toPy_dp hs e2 ry, hz.1, hz.2, ha.now hs rfl⟩
    · cases hf
  · cases hf
theorem op_inDict (hu : X.A.units + 1 < cLine) : OpR X (compareOp .In) (fun y x H Q => ∃ a o, x = .ref a ∧ DGet H a y o ∧ Q (.bl o.isSome) H) := by
  intro pins s σ H y x iv u Q I ry rx h
  obtain ⟨a, ov, ex, g, q⟩ := h
  subst ex
  obtain rfl : u = Value.ref a := rx
  exact d_in hu I g ry fun s3 I3 => ⟨.bl ov.isSome, H, I3, rfl, q⟩
theorem op_notInDict (hu : X.A.units + 1 < cLine) : OpR X (compareOp .NotIn) (fun y x H Q => ∃ a o, x = .ref a ∧ DGet H a y o ∧ Q (.bl (!o.isSome)) H) := by
  intro pins s σ H y x iv u Q I ry rx h
  obtain ⟨a, ov, ex, g, q⟩ := h
  subst ex
  obtain rfl : u = Value.ref a := rx
  exact d_notIn hu I g ry fun s3 I3 => ⟨.bl (!ov.isSome), H, I3, rfl, q⟩
theorem sign_rep {μ : List Addr} {H : Hp} {x : D} {v : V} {k : Nat} (h : signD x = some k) (r : Rep c μ H x v) : v = .str ⟨#[k]⟩ := by
  cases x with
  | str z =>
    obtain rfl : v = .str z := r
    unfold signD at h
    simp only at h
    split at h
    · rename_i k' e
      cases h
      have : z = ⟨#[k]⟩ := by
        obtain ⟨⟨l⟩⟩ := z
        simp at e
        rw [e]
      rw [this]
    · cases h
  | _ => cases h
theorem inB_red (neg : Bool) (hK : c.K = X.K) {x y : V} {H : Hp} {Q : VK} {μ : List Addr} {S : Sto} {dx dy : D} {b : Bool} (hs : StoOk c μ S H) (rx : Rep c μ H dx x) (ry : Rep c μ H dy y) (hf : oInB dx dy S = some b) (q : Q (.bl (if neg then !b else b)) H) :
    rIn X.K neg x y H Q ∨ (∃ (k : Nat) (z : Str), x = .str ⟨#[k]⟩ ∧ y = .str z ∧ Q (.bl (if neg then !decide (k ∈ z.cps.toList) else decide (k ∈ z.cps.toList))) H) ∨ ∃ a o, y = .ref a ∧ DGet H a x o ∧ Q (.bl (if neg then !o.isSome else o.isSome)) H := by
  cases dy with
  | tup ds =>
    obtain ⟨a, xs, rfl, hq, r⟩ := ry
    unfold oInB at hf
    simp only at hf
    split at hf
    · rename_i hz
      cases hf
      rw [Bool.and_eq_true] at hz
      exact .inl ⟨a, xs, rfl, .inr (by rw [← hK]; exact hq.sq), flat_rep hz.1 rx, flats_rep hz.2 r, by rw [in_rep hz.1 rx hz.2 r]; exact q⟩
    · cases hf
  | str z =>
    obtain rfl : y = .str z := ry
    unfold oInB at hf
    simp only at hf
    split at hf
    · rename_i k e
      cases hf
      exact .inr (.inl ⟨k, z, sign_rep e rx, rfl, q⟩)
    · cases hf
  | ref n =>
    obtain ⟨a, ha, rfl⟩ := ry
    unfold oInB at hf
    simp only at hf
    split at hf
    · rename_i ds e
      split at hf
      · rename_i hz
        cases hf
        rw [Bool.and_eq_true] at hz
        obtain ⟨a', xs, e1, hq, r⟩ := getL_sq hs e
        rw [ha] at e1
        cases e1
        exact .inl ⟨a, xs, rfl, .inl (by rw [← hK]; exact hq), flat_rep hz.1 rx, flats_rep hz.2 r, by rw [in_rep hz.1 rx hz.2 r]; exact q⟩
      · cases hf
    · split at hf
      · rename_i kvs k e1 e2
        cases hf
        obtain ⟨a', ys, e3, hq, r⟩ := getD_rd hs e1
        rw [ha] at e3
        cases e3
        refine .inr (.inr ⟨a, valV ys k, rfl, .inl ⟨ys, k, hq, keyD_rep rx e2, rfl⟩, ?_⟩)
        have ei : (valV ys k).isSome = (valG kvs k).isSome := by
          obtain ⟨i1, i2⟩ := r.val k
          cases hv : valG kvs k with
          | none => rw [i2 hv]; rfl
          | some d =>
            obtain ⟨v, e, _⟩ := i1 d hv
            rw [e]
            rfl
        rw [ei]
        exact q
      · cases hf
  | _ => cases hf
theorem dIn (hK : c.K = X.K) (hu : X.A.units + 64 < cLine) : OpR X (compareOp .In) (r2 c oIn) := by
  refine OpR.w (op_in_seq.or (op_in_sign.or (op_inDict (by omega)))) fun x y H Q h => ?_
  obtain ⟨μ, S, dx, dy, d, S', hs, rx, ry, hf, ha⟩ := h
  obtain ⟨b, e1, e2⟩ := Option.map_eq_some_iff.mp hf
  cases e2
  exact inB_red false hK hs rx ry e1 (ha.now hs rfl)
theorem dNotIn (hK : c.K = X.K) (hu : X.A.units + 64 < cLine) : OpR X (compareOp .NotIn) (r2 c oNotIn) := by
  refine OpR.w (op_notIn_seq.or (op_notIn_sign.or (op_notInDict (by omega)))) fun x y H Q h => ?_
  obtain ⟨μ, S, dx, dy, d, S', hs, rx, ry, hf, ha⟩ := h
  obtain ⟨b, e1, e2⟩ := Option.map_eq_some_iff.mp hf
  cases e2
  exact inB_red true hK hs rx ry e1 (ha.now hs rfl)
theorem dAdd (hK : c.K = X.K) : OpR X (binaryOp .Add) (r2 c oAdd) := by
  refine OpR.w (op_add.or (op_add_str.or (op_catF.or op_cat))) fun x y H Q h => ?_
  obtain ⟨μ, S, dx, dy, d, S', hs, rx, ry, hf, ha⟩ := h
  unfold oAdd at hf
  split at hf
  · cases hf
    obtain rfl := (show x = .int _ from rx)
    obtain rfl := (show y = .int _ from ry)
    exact .inl ⟨_, _, rfl, rfl, ha.now hs rfl⟩
  · split at hf
    · rename_i hz
      cases hf
      obtain rfl := (show x = .str _ from rx)
      obtain rfl := (show y = .str _ from ry)
      exact .inr (.inl ⟨_, _, rfl, rfl, cap_le hz, ha.now hs rfl⟩)
    · cases hf
  · split at hf
    · rename_i us ws hz
      cases hf
      obtain ⟨a, xs, rfl, q1, r1⟩ := rx
      obtain ⟨b, ys, rfl, q2, r2⟩ := ry
      refine .inr (.inr (.inl ⟨a, b, xs, ys, rfl, rfl, by rw [← hK]; exact q1.sq, by rw [← hK]; exact q2.sq, by rw [r1.len, r2.len]; exact cap_le hz, fun ex => ?_, fun _ ey => ?_, fun _ _ p ob hp hd => ?_⟩))
      · refine ha.now hs ⟨b, ys, rfl, q2, ?_⟩
        have : us = [] := by
          have := r1.len
          rw [ex] at this
          exact List.length_eq_zero_iff.mp this.symm
        rw [this]
        exact r2
      · refine ha.now hs ⟨a, xs, rfl, q1, ?_⟩
        have : ws = [] := by
          have := r2.len
          rw [ey] at this
          exact List.length_eq_zero_iff.mp this.symm
        rw [this, List.append_nil]
        exact r1
      · obtain ⟨x1, x2, x3⟩ := tup_new hs (r1.app r2) hp hd
        exact ha _ _ _ x1 x2 x3
    · cases hf
  · split at hf
    · rename_i n m us ws e1 e2
      split at hf
      · rename_i hz
        cases hf
        obtain ⟨a, ha1, rfl⟩ := rx
        obtain ⟨b, hb1, rfl⟩ := ry
        obtain ⟨a', g1, xs, q1, r1⟩ := hs.stands _ _ e1
        rw [ha1] at g1
        cases g1
        obtain ⟨b', g2, ys, q2, r2⟩ := hs.stands _ _ e2
        rw [hb1] at g2
        cases g2
        refine .inr (.inr (.inr ⟨a, b, xs, ys, rfl, rfl, q1, q2, by rw [r1.len, r2.len]; exact cap_le hz, fun p hp => ?_⟩))
        obtain ⟨x1, x2, x3⟩ := lst_new hs (r1.app r2) hp
        exact ha _ _ _ x1 x2 x3
      · cases hf
    · cases hf
  · cases hf
theorem dSub : OpR X (binaryOp .Sub) (r2 c oSub) := by
  refine OpR.w op_sub fun x y H Q h => ?_
  obtain ⟨μ, S, dx, dy, d, S', hs, rx, ry, hf, ha⟩ := h
  unfold oSub at hf
  split at hf
  · cases hf
    obtain rfl := (show x = .int _ from rx)
    obtain rfl := (show y = .int _ from ry)
    exact ⟨_, _, rfl, rfl, ha.now hs rfl⟩
  · cases hf
theorem okMul_c {i j : Int} (h : okMul i j = true) : CMul i j := by
  unfold okMul at h
  rw [Bool.or_eq_true, Bool.and_eq_true, Bool.and_eq_true] at h
  rcases h with h | h
  · exact .inl ⟨of_decide_eq_true h.1, of_decide_eq_true h.2⟩
  · exact .inr ⟨of_decide_eq_true h.1, of_decide_eq_true h.2⟩
theorem Reps.rep {μ : List Addr} {H : Hp} {ds : List D} {xs : List V} (r : Reps c μ H ds xs) : ∀ k : Nat, Reps c μ H (List.replicate k ds).flatten (List.replicate k xs).flatten
  | 0 => rfl
  | k + 1 => by
    rw [List.replicate_succ, List.replicate_succ, List.flatten_cons, List.flatten_cons]
    exact r.app (Reps.rep r k)
theorem dMul : OpR X (binaryOp .Mult) (r2 c oMul) := by
  refine OpR.w (op_mul.or op_rep) fun x y H Q h => ?_
  obtain ⟨μ, S, dx, dy, d, S', hs, rx, ry, hf, ha⟩ := h
  unfold oMul at hf
  split at hf
  · split at hf
    · rename_i hz
      cases hf
      obtain rfl := (show x = .int _ from rx)
      obtain rfl := (show y = .int _ from ry)
      exact .inl ⟨_, _, rfl, rfl, okMul_c hz, ha.now hs rfl⟩
    · cases hf
  · split at hf
    · rename_i n k us e1
      split at hf
      · rename_i hz
        cases hf
        obtain ⟨a, ha1, rfl⟩ := rx
        obtain rfl := (show y = .int _ from ry)
        obtain ⟨a', g1, xs, q1, r1⟩ := hs.stands _ _ e1
        rw [ha1] at g1
        cases g1
        rw [Bool.and_eq_true, Bool.and_eq_true] at hz
        obtain ⟨⟨z1, z2⟩, z3⟩ := hz
        have z1 := of_decide_eq_true z1
        have z2 := of_decide_eq_true z2
        have z3 := of_decide_eq_true z3
        refine .inr ⟨a, _, xs, rfl, rfl, q1, by omega, by omega, by rw [r1.len]; exact cap_le z3, fun p hp => ?_⟩
        obtain ⟨x1, x2, x3⟩ := lst_new hs (r1.rep _) hp
        exact ha _ _ _ x1 x2 x3
      · cases hf
    · cases hf
  · cases hf
theorem okDiv_c {i j : Int} (h : okDiv j = true) : CDivW i j := by
  unfold okDiv at h
  rw [Bool.and_eq_true] at h
  have h1 := of_decide_eq_true h.1
  have h2 := of_decide_eq_true h.2
  exact wide_div (b := 64) h1 (by omega) (by decide) (by decide)
theorem dDiv : OpR X (binaryOp .FloorDiv) (r2 c oDiv) := by
  refine OpR.w op_fdivW fun x y H Q h => ?_
  obtain ⟨μ, S, dx, dy, d, S', hs, rx, ry, hf, ha⟩ := h
  unfold oDiv at hf
  split at hf
  · split at hf
    · rename_i hz
      cases hf
      obtain rfl := (show x = .int _ from rx)
      obtain rfl := (show y = .int _ from ry)
      exact ⟨_, _, rfl, rfl, okDiv_c hz, ha.now hs rfl⟩
    · cases hf
  · cases hf
theorem dMod : OpR X (binaryOp .Mod) (r2 c oMod) := by
  refine OpR.w op_mod fun x y H Q h => ?_
  obtain ⟨μ, S, dx, dy, d, S', hs, rx, ry, hf, ha⟩ := h
  unfold oMod at hf
  split at hf
  · split at hf
    · rename_i hz
      cases hf
      obtain rfl := (show x = .int _ from rx)
      obtain rfl := (show y = .int _ from ry)
      exact ⟨_, _, rfl, rfl, hz, ha.now hs rfl⟩
    · cases hf
  · cases hf
theorem dPow : OpR X (binaryOp .Pow) (r2 c oPow) := by
  refine OpR.w op_pow fun x y H Q h => ?_
  obtain ⟨μ, S, dx, dy, d, S', hs, rx, ry, hf, ha⟩ := h
  unfold oPow at hf
  split at hf
  · split at hf
    · rename_i i j hz
      cases hf
      obtain rfl := (show x = .int _ from rx)
      obtain rfl := (show y = .int _ from ry)
      rw [Bool.and_eq_true, Bool.and_eq_true] at hz
      obtain ⟨⟨z1, z2⟩, z3⟩ := hz
      have z1 := of_decide_eq_true z1
      have z2 := of_decide_eq_true z2
      have z3 := of_decide_eq_true z3
      exact ⟨_, _, rfl, rfl, ⟨z1, by omega, by omega⟩, ha.now hs rfl⟩
    · cases hf
  · cases hf
theorem dNeg : UnR X (unaryOp .USub) (r1 c oNeg) := by
  refine UnR.w un_neg fun x H Q h => ?_
  obtain ⟨μ, S, dx, d, S', hs, rx, hf, ha⟩ := h
  unfold oNeg at hf
  split at hf
  · cases hf
    obtain rfl := (show x = .int _ from rx)
    exact ⟨_, rfl, ha.now hs rfl⟩
  · cases hf
theorem dLt : OpR X (compareOp .Lt) (r2 c oLt) := by
  refine OpR.w op_lt fun x y H Q h => ?_
  obtain ⟨μ, S, dx, dy, d, S', hs, rx, ry, hf, ha⟩ := h
  unfold oLt at hf
  split at hf
  · cases hf
    obtain rfl := (show x = .int _ from rx)
    obtain rfl := (show y = .int _ from ry)
    exact ⟨_, _, rfl, rfl, ha.now hs rfl⟩
  · cases hf
theorem dLe : OpR X (compareOp .LtE) (r2 c oLe) := by
  refine OpR.w op_le fun x y H Q h => ?_
  obtain ⟨μ, S, dx, dy, d, S', hs, rx, ry, hf, ha⟩ := h
  unfold oLe at hf
  split at hf
  · cases hf
    obtain rfl := (show x = .int _ from rx)
    obtain rfl := (show y = .int _ from ry)
    exact ⟨_, _, rfl, rfl, ha.now hs rfl⟩
  · cases hf
theorem dGt : OpR X (compareOp .Gt) (r2 c oGt) := by
  refine OpR.w op_gt fun x y H Q h => ?_
  obtain ⟨μ, S, dx, dy, d, S', hs, rx, ry, hf, ha⟩ := h
  unfold oGt at hf
  split at hf
  · cases hf
    obtain rfl := (show x = .int _ from rx)
    obtain rfl := (show y = .int _ from ry)
    exact ⟨_, _, rfl, rfl, ha.now hs rfl⟩
  · cases hf
theorem dGe : OpR X (compareOp .GtE) (r2 c oGe) := by
  refine OpR.w op_ge fun x y H Q h => ?_
  obtain ⟨μ, S, dx, dy, d, S', hs, rx, ry, hf, ha⟩ := h
  unfold oGe at hf
  split at hf
  · cases hf
    obtain rfl := (show x = .int _ from rx)
    obtain rfl := (show y = .int _ from ry)
    exact ⟨_, _, rfl, rfl, ha.now hs rfl⟩
  · cases hf
end
end FL
/-! FL5: subscripts, slices, built-ins, methods, dict displays, fields, instances. -/
namespace FL
open PySem PySem.Spec PyProof.Rows L2

/-! ### subscripts -/
def oIx : F2 := fun x y S => match x with
  | .tup ds => match y with
    | .int i => (atI ds i).map fun d => (d, S)
    | _ => none
  | .str z => match y with
    | .int i => if z.length ≤ cap then (atI z.cps.toList i).map fun k => (.str ⟨#[k]⟩, S) else none
    | _ => none
  | .ref n => match getL S n with
    | some ds => match y with
      | .int i => (atI ds i).map fun d => (d, S)
      | _ => none
    | none => match getD S n, keyD y with
      | some kvs, some k => (valG kvs k).map fun d => (d, S)
      | _, _ => none
  | _ => none
section
variable {c : FC} {X : Cx}
theorem ix_dict (hu : X.A.units + 1 < cLine) : IxR X (fun x y H Q => ∃ a v, x = .ref a ∧ DGet H a y (some v) ∧ Q v H) := by
  intro value slice pins s σ H x y v u Q I rx ry h hs
  obtain ⟨a, w', ex, g, q⟩ := h
  subst ex
  obtain rfl : v = Value.ref a := rx
  have hT := dict_typeIs I g
  unfold subscriptTail
  refine wpAny_bind ?_
  rw [getitemInPython_of_ne hT.not_modules]
  refine wpAny_bind (wpAny_specialOf hT PySem.F.slot_dict_getitem.lookup ?_)
  have fin : wpAny (model X.prog X.w) X.A (subscripted slice false (.ref a) u) (fun r s₃ => wpAny (model X.prog X.w) X.A (letTemporaryGo value (.ref a) r >>= fun _ => pure r) (EP X pins σ Q) X.xe s₃) X.xe s := by
    rw [hs]
    exact wpAny_operating (d_getItem hu I g ry fun w3 s3 I3 rw3 => wpAny_bind (wpAny_letTemporaryGo (wpAny_pure ⟨w', H, I3, rw3, q⟩)))
  first
    | exact wpAny_pure (wpAny_bind fin)
    | exact wpAny_bind (wpAny_pure (wpAny_bind fin))
    | exact wpAny_bind fin
theorem atI_rep {μ : List Addr} {H : Hp} {ds : List D} {xs : List V} {i : Int} {d : D} (r : Reps c μ H ds xs) (h : atI ds i = some d) : ∃ v, atI xs i = some v ∧ Rep c μ H d v := by
  unfold atI at h ⊢
  obtain ⟨j, e1, e2⟩ := Option.bind_eq_some_iff.mp h
  obtain ⟨v, e3, e4⟩ := r.get e2
  exact ⟨v, by rw [r.len, e1]; exact e3, e4⟩
theorem dIx (hK : c.K = X.K) (hu : X.A.units + 64 < cLine) : IxR X (r2 c oIx) := by
  refine IxR.w (ix_seq.or (ix_dict (by omega))) fun x y H Q h => ?_
  obtain ⟨μ, S, dx, dy, d, S', hs, rx, ry, hf, ha⟩ := h
  unfold oIx at hf
  cases dx with
  | tup ds =>
    obtain ⟨a, xs, rfl, q1, r1⟩ := rx
    cases dy with
    | int i =>
      obtain rfl := (show y = .int _ from ry)
      obtain ⟨d', e1, e2⟩ := Option.map_eq_some_iff.mp hf
      cases e2
      obtain ⟨v, e3, e4⟩ := atI_rep r1 e1
      exact .inl (.inr (.inl ⟨a, xs, i, v, rfl, rfl, by rw [← hK]; exact q1.sq, e3, ha.now hs e4⟩))
    | _ => cases hf
  | str z =>
    obtain rfl := (show x = .str _ from rx)
    cases dy with
    | int i =>
      obtain rfl := (show y = .int _ from ry)
      simp only at hf
      split at hf
      · rename_i hz
        obtain ⟨d', e1, e2⟩ := Option.map_eq_some_iff.mp hf
        cases e2
        exact .inl (.inr (.inr ⟨z, i, d', rfl, rfl, cap_le hz, e1, ha.now hs rfl⟩))
      · cases hf
    | _ => cases hf
  | ref n =>
    obtain ⟨a, ha1, rfl⟩ := rx
    simp only at hf
    split at hf
    · rename_i ds e
      obtain ⟨a', xs, g1, q1, r1⟩ := getL_sq hs e
      rw [ha1] at g1
      cases g1
      cases dy with
      | int i =>
        obtain rfl := (show y = .int _ from ry)
        obtain ⟨d', e1, e2⟩ := Option.map_eq_some_iff.mp hf
        cases e2
        obtain ⟨v, e3, e4⟩ := atI_rep r1 e1
        exact .inl (.inl ⟨a, xs, i, v, rfl, rfl, by rw [← hK]; exact q1, e3, ha.now hs e4⟩)
      | _ => cases hf
    · split at hf
      · rename_i kvs k e1 e2
        obtain ⟨d', e3, e4⟩ := Option.map_eq_some_iff.mp hf
        cases e4
        obtain ⟨a', ys, g1, q1, r1⟩ := getD_rd hs e1
        rw [ha1] at g1
        cases g1
        obtain ⟨v, e5, e6⟩ := (r1.val k).1 _ e3
        exact .inr ⟨a, v, rfl, .inl ⟨ys, k, q1, keyD_rep ry e2, e5.symm⟩, ha.now hs e6⟩
      · cases hf
  | _ => cases hf

/-! ### slices -/
def cutG {α : Type} (xs : List α) (lo hi : Option Int) : List α := (xs.drop (HT.sIx xs.length 0 lo)).take (HT.sIx xs.length xs.length hi - HT.sIx xs.length 0 lo)
def oSl (x : D) (lo hi : Option Int) (S : Sto) : Option (D × Sto) := match x with
  | .tup ds => some (.tup (cutG ds lo hi), S)
  | .str z => if z.length ≤ cap then some (.str (cutS z lo hi), S) else none
  | .ref n => match getL S n with
    | some ds => some (.ref S.length, S ++ [.lst (cutG ds lo hi)])
    | none => none
  | _ => none
abbrev FO := Env → Sto → Option (Option Int × Sto)
def pNo : FO := fun _ S => some (none, S)
def pPart (fe : FE) : FO := fun env S => th (fe env S) fun d S1 => match d with
  | .int i => some (some i, S1)
  | _ => none
def tO (c : FC) (f : FO) : TO := fun σ H Q => ∃ μ env S o S', EnvOk c μ H env σ ∧ StoOk c μ S H ∧ f env S = some (o, S') ∧ ∀ μ' H', Ext c μ H μ' H' → StoOk c μ' S' H' → Q o H'
def eSl (fe : FE) (fl fh : FO) : FE := fun env S => th (fe env S) fun x S1 => th (fl env S1) fun l S2 => th (fh env S2) fun h S3 => oSl x l h S3
theorem PO.w {e : Option Expr} {t t' : TO} (h : PO X e t) (w : ∀ σ H Q, t' σ H Q → t σ H Q) : PO X e t' := ⟨fun pins s σ H Q I q => h.run pins s σ H Q I (w σ H Q q)⟩
theorem q_pno : PO X none (tO c pNo) := by
  refine PO.w po_none fun σ H Q h => ?_
  obtain ⟨μ, env, S, o, S', he, hs, hf, ha⟩ := h
  cases hf
  exact ha μ H Ext.refl hs
theorem q_ppart {e : Expr} {fe : FE} (h : PE X e (tE c fe)) : PO X (some e) (tO c (pPart fe)) := by
  refine PO.w (po_some h) fun σ H Q h => ?_
  obtain ⟨μ, env, S, o, S', he, hs, hf, ha⟩ := h
  obtain ⟨d, S1, h1, hf⟩ := th_inv hf
  refine ⟨μ, env, S, d, S1, he, hs, h1, fun μ1 H1 v e1 k1 r1 => ?_⟩
  cases d with
  | int i =>
    cases hf
    exact ⟨i, r1, ha _ _ e1 k1⟩
  | _ => cases hf
theorem cut_rep {μ : List Addr} {H : Hp} {ds : List D} {xs : List V} (r : Reps c μ H ds xs) (lo hi : Option Int) : Reps c μ H (cutG ds lo hi) (cutV xs lo hi) := by
  unfold cutG cutV
  rw [r.len]
  exact (r.drop _).take _
theorem cut_whole {α : Type} {xs : List α} {lo hi : Option Int} (h : HT.sIx xs.length 0 lo = 0 ∧ HT.sIx xs.length xs.length hi = xs.length) : cutG xs lo hi = xs := by
  unfold cutG
  rw [h.1, h.2]
  simp
theorem q_sl (hK : c.K = X.K) {e : Expr} {lo hi : Option Expr} {p2 pos : Pos} {fe : FE} {fl fh : FO} (he : PE X e (tE c fe)) (hl : PO X lo (tO c fl)) (hh : PO X hi (tO c fh)) : PE X (.Subscript e (.Slice lo hi none p2) pos) (tE c (eSl fe fl fh)) := by
  refine PE.w (pe_slice (sl_list.or (sl_tupF.or sl_str)) he hl hh) fun σ H Q h => ?_
  obtain ⟨μ, env, S, d, S', he, hs, hf, ha⟩ := h
  obtain ⟨x, S1, h1, hf⟩ := th_inv hf
  obtain ⟨l, S2, h2, hf⟩ := th_inv hf
  obtain ⟨u, S3, h3, hf⟩ := th_inv hf
  refine ⟨μ, env, S, x, S1, he, hs, h1, fun μ1 H1 v e1 k1 r1 => ?_⟩
  refine ⟨μ1, env, S1, l, S2, he.mono e1, k1, h2, fun μ2 H2 e2 k2 => ?_⟩
  refine ⟨μ2, env, S2, u, S3, (he.mono e1).mono e2, k2, h3, fun μ3 H3 e3 k3 => ?_⟩
  have r3 : Rep c μ3 H3 x v := Rep.mono e3 _ _ (Rep.mono e2 _ _ r1)
  have ha3 := ((ha.ext e1).ext e2).ext e3
  unfold oSl at hf
  cases x with
  | tup ds =>
    cases hf
    obtain ⟨a, xs, rfl, q, rr⟩ := r3
    refine .inr (.inl ⟨a, xs, rfl, by rw [← hK]; exact q.sq, fun hw => ?_, fun _ p ob hp hd => ?_⟩)
    · refine ha3.now k3 ?_
      rw [cut_whole (by rw [← rr.len]; exact hw)]
      exact ⟨a, xs, rfl, q, rr⟩
    · obtain ⟨x1, x2, x3⟩ := tup_new k3 (cut_rep rr l u) hp hd
      exact ha3 _ _ _ x1 x2 x3
  | str z =>
    simp only at hf
    split at hf
    · rename_i hz
      cases hf
      obtain rfl := (show v = .str z from r3)
      exact .inr (.inr ⟨z, rfl, cap_le hz, ha3.now k3 rfl⟩)
    · cases hf
  | ref n =>
    obtain ⟨a, ha1, rfl⟩ := r3
    simp only at hf
    split at hf
    · rename_i ds e
      cases hf
      obtain ⟨a', xs, g1, q1, rr⟩ := getL_sq k3 e
      rw [ha1] at g1
      cases g1
      refine .inl ⟨a, xs, rfl, by rw [← hK]; exact q1, fun p hp => ?_⟩
      obtain ⟨x1, x2, x3⟩ := lst_new k3 (cut_rep rr l u) hp
      exact ha3 _ _ _ x1 x2 x3
    · cases hf
  | _ => cases hf

/-! ### built-ins -/
def fLen : FF := fun ds S => match ds with
  | [.str z] => if z.length ≤ cap then some (.int z.length, S) else none
  | [.tup xs] => some (.int xs.length, S)
  | [.ref n] => match getL S n with
    | some xs => some (.int xs.length, S)
    | none => match S[n]? with
      | some (.dic kvs) => some (.int kvs.length, S)
      | _ => none
  | _ => none
theorem Reps.one_inv {μ : List Addr} {H : Hp} {d : D} {xs : List V} (r : Reps c μ H [d] xs) : ∃ v, xs = [v] ∧ Rep c μ H d v := by
  obtain ⟨v, vs, rfl, h, k⟩ := r
  obtain rfl : vs = [] := k
  exact ⟨v, rfl, h⟩
theorem Reps.two_inv {μ : List Addr} {H : Hp} {d e : D} {xs : List V} (r : Reps c μ H [d, e] xs) : ∃ v w, xs = [v, w] ∧ Rep c μ H d v ∧ Rep c μ H e w := by
  obtain ⟨v, vs, rfl, h, k⟩ := r
  obtain ⟨w, rfl, k'⟩ := k.one_inv
  exact ⟨v, w, rfl, h, k'⟩
theorem cLen (hK : c.K = X.K) : CallR X (.builtin "len") (rA c fLen) := by
  refine CallR.w (call_len_str.or (call_len_seq.or call_lenD)) fun xs H Q h => ?_
  obtain ⟨μ, S, ds, d, S', hs, rs, hf, ha⟩ := h
  unfold fLen at hf
  split at hf
  · split at hf
    · rename_i z hz
      cases hf
      obtain ⟨v, rfl, r⟩ := rs.one_inv
      obtain rfl := (show v = .str z from r)
      exact .inl ⟨z, rfl, cap_le hz, ha.now hs rfl⟩
    · cases hf
  · cases hf
    obtain ⟨v, rfl, a, ys, rfl, q, rr⟩ := rs.one_inv
    refine .inr (.inl ⟨a, ys, rfl, .inr (by rw [← hK]; exact q.sq), ?_⟩)
    rw [rr.len]
    exact ha.now hs rfl
  · obtain ⟨v, rfl, a, ha1, rfl⟩ := rs.one_inv
    split at hf
    · rename_i us e
      cases hf
      obtain ⟨a', ys, g1, q1, rr⟩ := getL_sq hs e
      rw [ha1] at g1
      cases g1
      refine .inr (.inl ⟨a, ys, rfl, .inl (by rw [← hK]; exact q1), ?_⟩)
      rw [rr.len]
      exact ha.now hs rfl
    · split at hf
      · rename_i kvs e
        cases hf
        obtain ⟨a', g1, ys, q1, rr⟩ := hs.stands _ _ e
        rw [ha1] at g1
        cases g1
        refine .inr (.inr ⟨a, ys, rfl, q1, ?_⟩)
        rw [rr.len]
        exact ha.now hs rfl
      · cases hf
  · cases hf
def fAbs : FF := fun ds S => match ds with
  | [.int i] => some (.int (if i < 0 then -i else i), S)
  | _ => none
theorem cAbs : CallR X (.builtin "abs") (rA c fAbs) := by
  refine CallR.w call_abs fun xs H Q h => ?_
  obtain ⟨μ, S, ds, d, S', hs, rs, hf, ha⟩ := h
  unfold fAbs at hf
  split at hf
  · cases hf
    obtain ⟨v, rfl, r⟩ := rs.one_inv
    obtain rfl := (show v = .int _ from r)
    exact ⟨_, rfl, ha.now hs rfl⟩
  · cases hf
def fInt : FF := fun ds S => match ds with
  | [.int i] => some (.int i, S)
  | [.bl b] => some (.int (if b = true then 1 else 0), S)
  | [.str z] => if z.length ≤ 640 then (PySem.intText? z).map fun n => (.int n, S) else none
  | _ => none
theorem cInt : CallR X (.type "int") (rA c fInt) := by
  refine CallR.w (call_int1.or call_int_str) fun xs H Q h => ?_
  obtain ⟨μ, S, ds, d, S', hs, rs, hf, ha⟩ := h
  unfold fInt at hf
  split at hf
  · cases hf
    obtain ⟨v, rfl, r⟩ := rs.one_inv
    obtain rfl := (show v = .int _ from r)
    exact .inl (.inl ⟨_, rfl, ha.now hs rfl⟩)
  · cases hf
    obtain ⟨v, rfl, r⟩ := rs.one_inv
    obtain rfl := (show v = .bl _ from r)
    exact .inl (.inr ⟨_, rfl, ha.now hs rfl⟩)
  · split at hf
    · rename_i z hz
      obtain ⟨n, e1, e2⟩ := Option.map_eq_some_iff.mp hf
      cases e2
      obtain ⟨v, rfl, r⟩ := rs.one_inv
      obtain rfl := (show v = .str _ from r)
      exact .inr ⟨z, n, rfl, e1, hz, ha.now hs rfl⟩
    · cases hf
  · cases hf
def fBool : FF := fun ds S => match ds with
  | [.int i] => some (.bl (i != 0), S)
  | [.bl b] => some (.bl b, S)
  | [.ref n] => (getL S n).map fun xs => (.bl (!xs.isEmpty), S)
  | _ => none
theorem cBool (hK : c.K = X.K) : CallR X (.type "bool") (rA c fBool) := by
  refine CallR.w (call_bool1.or call_boolL) fun xs H Q h => ?_
  obtain ⟨μ, S, ds, d, S', hs, rs, hf, ha⟩ := h
  unfold fBool at hf
  split at hf
  · cases hf
    obtain ⟨v, rfl, r⟩ := rs.one_inv
    obtain rfl := (show v = .int _ from r)
    exact .inl (.inl ⟨_, rfl, ha.now hs rfl⟩)
  · cases hf
    obtain ⟨v, rfl, r⟩ := rs.one_inv
    obtain rfl := (show v = .bl _ from r)
    exact .inl (.inr ⟨_, rfl, ha.now hs rfl⟩)
  · obtain ⟨us, e1, e2⟩ := Option.map_eq_some_iff.mp hf
    cases e2
    obtain ⟨v, rfl, a, ha1, rfl⟩ := rs.one_inv
    obtain ⟨a', ys, g1, q1, rr⟩ := getL_sq hs e1
    rw [ha1] at g1
    cases g1
    refine .inr ⟨a, ys, rfl, by rw [← hK]; exact q1, ?_⟩
    rw [← isEmpty_reps rr]
    exact ha.now hs rfl
  · cases hf
def fStr : FF := fun ds S => match ds with
  | [.int i] => if i.natAbs < 1000000000000000000000 then some (.str (toString i), S) else none
  | [.str z] => some (.str z, S)
  | _ => none
theorem cStr : CallR X (.type "str") (rA c fStr) := by
  refine CallR.w (call_str_int.or SkE.call_str_str) fun xs H Q h => ?_
  obtain ⟨μ, S, ds, d, S', hs, rs, hf, ha⟩ := h
  unfold fStr at hf
  split at hf
  · split at hf
    · rename_i i hz
      cases hf
      obtain ⟨v, rfl, r⟩ := rs.one_inv
      obtain rfl := (show v = .int _ from r)
      refine .inl ⟨_, rfl, ?_, ha.now hs rfl⟩
      have h1 : i.natAbs < 2 ^ 70 := by omega
      have := PySem.Flt.log2_lt_of (by decide : 0 < 70) h1
      omega
    · cases hf
  · cases hf
    obtain ⟨v, rfl, r⟩ := rs.one_inv
    obtain rfl := (show v = .str _ from r)
    exact .inr ⟨_, rfl, ha.now hs rfl⟩
  · cases hf

/-! lists of ints, of bools -/
def intsD : List D → Option (List Int)
  | [] => some []
  | .int i :: ds => (intsD ds).map fun ns => i :: ns
  | _ :: _ => none
def boolsD : List D → Option (List Bool)
  | [] => some []
  | .bl i :: ds => (boolsD ds).map fun ns => i :: ns
  | _ :: _ => none
theorem intsD_rep {μ : List Addr} {H : Hp} : ∀ {ds : List D} {ns : List Int} {xs : List V}, intsD ds = some ns → Reps c μ H ds xs → xs = ns.map V.int
  | [], _, _, h, r => by
    cases h
    exact r
  | .int i :: ds, ns, xs, h, r => by
    obtain ⟨ms, e1, e2⟩ := Option.map_eq_some_iff.mp h
    subst e2
    obtain ⟨v, vs, rfl, r1, r2⟩ := r
    obtain rfl := (show v = .int i from r1)
    rw [intsD_rep e1 r2]
    rfl
theorem boolsD_rep {μ : List Addr} {H : Hp} : ∀ {ds : List D} {ns : List Bool} {xs : List V}, boolsD ds = some ns → Reps c μ H ds xs → xs = ns.map V.bl
  | [], _, _, h, r => by
    cases h
    exact r
  | .bl i :: ds, ns, xs, h, r => by
    obtain ⟨ms, e1, e2⟩ := Option.map_eq_some_iff.mp h
    subst e2
    obtain ⟨v, vs, rfl, r1, r2⟩ := r
    obtain rfl := (show v = .bl i from r1)
    rw [boolsD_rep e1 r2]
    rfl
theorem ints_rep {μ : List Addr} {H : Hp} : ∀ (ns : List Int), Reps c μ H (ns.map D.int) (ns.map V.int)
  | [] => rfl
  | i :: ns => ⟨_, _, rfl, rfl, ints_rep ns⟩
def ints1 (ds : List D) (S : Sto) : Option (List Int) := match ds with
  | [.ref n] => (getL S n).bind intsD
  | _ => none
theorem ints1_rep {μ : List Addr} {S : Sto} {H : Hp} {ds : List D} {ns : List Int} {xs : List V} (hs : StoOk c μ S H) (h : ints1 ds S = some ns) (r : Reps c μ H ds xs) : ∃ a, xs = [.ref a] ∧ SqL c.K H a (ns.map V.int) := by
  unfold ints1 at h
  split at h
  · obtain ⟨us, e1, e2⟩ := Option.bind_eq_some_iff.mp h
    obtain ⟨v, rfl, a, ha1, rfl⟩ := r.one_inv
    obtain ⟨a', ys, g1, q1, rr⟩ := getL_sq hs e1
    rw [ha1] at g1
    cases g1
    rw [intsD_rep e2 rr] at q1
    exact ⟨a, rfl, q1⟩
  · cases h
def maxL : List Int → Int
  | [] => 0
  | [x] => x
  | x :: y :: r => max x (maxL (y :: r))
def minL : List Int → Int
  | [] => 0
  | [x] => x
  | x :: y :: r => min x (minL (y :: r))
theorem maxL_mem : ∀ (l : List Int), l ≠ [] → maxL l ∈ l ∧ ∀ y ∈ l, y ≤ maxL l
  | [], h => absurd rfl h
  | [x], _ => by simp [maxL]
  | x :: y :: r, _ => by
    obtain ⟨h1, h2⟩ := maxL_mem (y :: r) (by simp)
    have e : maxL (x :: y :: r) = max x (maxL (y :: r)) := rfl
    rw [e]
    refine ⟨?_, fun z hz => ?_⟩
    · by_cases q : x ≤ maxL (y :: r)
      · rw [Int.max_eq_right q]
        exact List.mem_cons_of_mem _ h1
      · rw [Int.max_eq_left (by omega)]
        exact List.mem_cons_self
    · rcases List.mem_cons.mp hz with rfl | hz
      · exact Int.le_max_left _ _
      · exact Int.le_trans (h2 z hz) (Int.le_max_right _ _)
theorem minL_mem : ∀ (l : List Int), l ≠ [] → minL l ∈ l ∧ ∀ y ∈ l, minL l ≤ y
  | [], h => absurd rfl h
  | [x], _ => by simp [minL]
  | x :: y :: r, _ => by
    obtain ⟨h1, h2⟩ := minL_mem (y :: r) (by simp)
    have e : minL (x :: y :: r) = min x (minL (y :: r)) := rfl
    rw [e]
    refine ⟨?_, fun z hz => ?_⟩
    · by_cases q : x ≤ minL (y :: r)
      · rw [Int.min_eq_left q]
        exact List.mem_cons_self
      · rw [Int.min_eq_right (by omega)]
        exact List.mem_cons_of_mem _ h1
    · rcases List.mem_cons.mp hz with rfl | hz
      · exact Int.min_le_left _ _
      · exact Int.le_trans (Int.min_le_right _ _) (h2 z hz)
def fMax : FF := fun ds S => match ds with
  | [.int i, .int j] => some (.int (if j > i then j else i), S)
  | _ => match ints1 ds S with
    | some ns => if ns ≠ [] then some (.int (maxL ns), S) else none
    | none => none
def fMin : FF := fun ds S => match ds with
  | [.int i, .int j] => some (.int (if j < i then j else i), S)
  | _ => match ints1 ds S with
    | some ns => if ns ≠ [] then some (.int (minL ns), S) else none
    | none => none
theorem cMax (hK : c.K = X.K) (hc : X.calm = true) : CallR X (.builtin "max") (rA c fMax) := by
  refine CallR.w ((call_max2 hc).or (cr_max hc)) fun xs H Q h => ?_
  obtain ⟨μ, S, ds, d, S', hs, rs, hf, ha⟩ := h
  unfold fMax at hf
  split at hf
  · cases hf
    obtain ⟨v, w, rfl, r1, r2⟩ := rs.two_inv
    obtain rfl := (show v = .int _ from r1)
    obtain rfl := (show w = .int _ from r2)
    exact .inl ⟨_, _, rfl, ha.now hs rfl⟩
  · split at hf
    · rename_i ns e
      split at hf
      · rename_i hne
        cases hf
        obtain ⟨a, rfl, q⟩ := ints1_rep hs e rs
        obtain ⟨m1, m2⟩ := maxL_mem ns hne
        refine .inr ⟨a, ns, rfl, by rw [← hK]; exact q, List.length_pos_iff.mpr hne, fun m h1 h2 => ?_⟩
        have em : m = maxL ns := Int.le_antisymm (m2 m h1) (h2 _ m1)
        rw [em]
        exact ha.now hs rfl
      · cases hf
    · cases hf
theorem cMin (hK : c.K = X.K) (hc : X.calm = true) : CallR X (.builtin "min") (rA c fMin) := by
  refine CallR.w ((call_min2 hc).or (cr_min hc)) fun xs H Q h => ?_
  obtain ⟨μ, S, ds, d, S', hs, rs, hf, ha⟩ := h
  unfold fMin at hf
  split at hf
  · cases hf
    obtain ⟨v, w, rfl, r1, r2⟩ := rs.two_inv
    obtain rfl := (show v = .int _ from r1)
    obtain rfl := (show w = .int _ from r2)
    exact .inl ⟨_, _, rfl, ha.now hs rfl⟩
  · split at hf
    · rename_i ns e
      split at hf
      · rename_i hne
        cases hf
        obtain ⟨a, rfl, q⟩ := ints1_rep hs e rs
        obtain ⟨m1, m2⟩ := minL_mem ns hne
        refine .inr ⟨a, ns, rfl, by rw [← hK]; exact q, List.length_pos_iff.mpr hne, fun m h1 h2 => ?_⟩
        have em : m = minL ns := Int.le_antisymm (h2 _ m1) (m2 m h1)
        rw [em]
        exact ha.now hs rfl
      · cases hf
    · cases hf
def fSum : FF := fun ds S => (ints1 ds S).map fun ns => (.int ns.sum, S)
theorem cSum (hK : c.K = X.K) (hc : X.calm = true) : CallR X (.builtin "sum") (rA c fSum) := by
  refine CallR.w (cr_sum hc) fun xs H Q h => ?_
  obtain ⟨μ, S, ds, d, S', hs, rs, hf, ha⟩ := h
  obtain ⟨ns, e1, e2⟩ := Option.map_eq_some_iff.mp hf
  cases e2
  obtain ⟨a, rfl, q⟩ := ints1_rep hs e1 rs
  exact ⟨a, ns, rfl, by rw [← hK]; exact q, ha.now hs rfl⟩
def bools1 (ds : List D) (S : Sto) : Option (List Bool) := match ds with
  | [.ref n] => (getL S n).bind boolsD
  | _ => none
theorem bools1_rep {μ : List Addr} {S : Sto} {H : Hp} {ds : List D} {ns : List Bool} {xs : List V} (hs : StoOk c μ S H) (h : bools1 ds S = some ns) (r : Reps c μ H ds xs) : ∃ a, xs = [.ref a] ∧ SqL c.K H a (ns.map V.bl) := by
  unfold bools1 at h
  split at h
  · obtain ⟨us, e1, e2⟩ := Option.bind_eq_some_iff.mp h
    obtain ⟨v, rfl, a, ha1, rfl⟩ := r.one_inv
    obtain ⟨a', ys, g1, q1, rr⟩ := getL_sq hs e1
    rw [ha1] at g1
    cases g1
    rw [boolsD_rep e2 rr] at q1
    exact ⟨a, rfl, q1⟩
  · cases h
def fAny : FF := fun ds S => (bools1 ds S).map fun bs => (.bl (bs.any id), S)
def fAll : FF := fun ds S => (bools1 ds S).map fun bs => (.bl (bs.all id), S)
end
/-- sorted, of ints -/
def insI (x : Int) : List Int → List Int
  | [] => [x]
  | y :: r => if x ≤ y then x :: y :: r else y :: insI x r
def sortI : List Int → List Int
  | [] => []
  | x :: r => insI x (sortI r)
theorem insI_perm (x : Int) : ∀ l : List Int, (insI x l).Perm (x :: l)
  | [] => List.Perm.refl _
  | y :: r => by
    unfold insI
    split
    · exact List.Perm.refl _
    · exact ((insI_perm x r).cons y).trans (List.Perm.swap x y r)
theorem sortI_perm : ∀ l : List Int, (sortI l).Perm l
  | [] => List.Perm.refl _
  | x :: r => (insI_perm x (sortI r)).trans ((sortI_perm r).cons x)
theorem insI_sorted (x : Int) : ∀ l : List Int, l.Pairwise (· ≤ ·) → (insI x l).Pairwise (· ≤ ·)
  | [], _ => List.pairwise_singleton _ _
  | y :: r, h => by
    have h1 : ∀ {z : Int}, z ∈ r → y ≤ z := fun hz => List.rel_of_pairwise_cons h hz
    have h2 := h.of_cons
    unfold insI
    split
    · rename_i q
      refine List.pairwise_cons.mpr ⟨fun z hz => ?_, h⟩
      rcases List.mem_cons.mp hz with rfl | hz
      · exact q
      · exact Int.le_trans q (h1 hz)
    · rename_i q
      refine List.pairwise_cons.mpr ⟨fun z hz => ?_, insI_sorted x r h2⟩
      rcases List.mem_cons.mp ((insI_perm x r).mem_iff.mp hz) with rfl | hz
      · omega
      · exact h1 hz
theorem sortI_sorted : ∀ l : List Int, (sortI l).Pairwise (· ≤ ·)
  | [] => List.Pairwise.nil
  | x :: r => insI_sorted x _ (sortI_sorted r)
theorem sorted_uniq : ∀ {l m : List Int}, l.Perm m → l.Pairwise (· ≤ ·) → m.Pairwise (· ≤ ·) → l = m
  | [], m, p, _, _ => (List.Perm.nil_eq p)
  | x :: r, [], p, _, _ => absurd p.length_eq (by simp)
  | x :: r, y :: q, p, h, k => by
    have e : x = y := by
      have h1 : x ∈ y :: q := p.mem_iff.mp List.mem_cons_self
      have h2 : y ∈ x :: r := p.symm.mem_iff.mp List.mem_cons_self
      rcases List.mem_cons.mp h1 with e | h1
      · exact e
      · rcases List.mem_cons.mp h2 with e | h2
        · exact e.symm
        · exact Int.le_antisymm (List.rel_of_pairwise_cons h h2) (List.rel_of_pairwise_cons k h1)
    subst e
    rw [sorted_uniq (p.cons_inv) h.of_cons k.of_cons]
section
variable {c : FC} {X : Cx}
theorem cAny (hK : c.K = X.K) (hc : X.calm = true) (h : CallR X (.builtin "any") (L2.rAny X.K)) : CallR X (.builtin "any") (rA c fAny) := by
  refine CallR.w h fun xs H Q h => ?_
  obtain ⟨μ, S, ds, d, S', hs, rs, hf, ha⟩ := h
  obtain ⟨ns, e1, e2⟩ := Option.map_eq_some_iff.mp hf
  cases e2
  obtain ⟨a, rfl, q⟩ := bools1_rep hs e1 rs
  exact ⟨a, ns, rfl, by rw [← hK]; exact q, ha.now hs rfl⟩
theorem cAll (hK : c.K = X.K) (hc : X.calm = true) (h : CallR X (.builtin "all") (L2.rAll X.K)) : CallR X (.builtin "all") (rA c fAll) := by
  refine CallR.w h fun xs H Q h => ?_
  obtain ⟨μ, S, ds, d, S', hs, rs, hf, ha⟩ := h
  obtain ⟨ns, e1, e2⟩ := Option.map_eq_some_iff.mp hf
  cases e2
  obtain ⟨a, rfl, q⟩ := bools1_rep hs e1 rs
  exact ⟨a, ns, rfl, by rw [← hK]; exact q, ha.now hs rfl⟩
def fSortI : FF := fun ds S => (ints1 ds S).map fun ns => (.ref S.length, S ++ [.lst ((sortI ns).map D.int)])
theorem cSortI (hK : c.K = X.K) : CallR X (.builtin "sorted") (rA c fSortI) := by
  refine CallR.w cr_sortedI fun xs H Q h => ?_
  obtain ⟨μ, S, ds, d, S', hs, rs, hf, ha⟩ := h
  obtain ⟨ns, e1, e2⟩ := Option.map_eq_some_iff.mp hf
  cases e2
  obtain ⟨a, rfl, q⟩ := ints1_rep hs e1 rs
  refine ⟨a, ns, rfl, by rw [← hK]; exact q, fun ns' p h1 h2 hp => ?_⟩
  have e : ns' = sortI ns := sorted_uniq (h1.trans (sortI_perm ns).symm) h2 (sortI_sorted ns)
  rw [e]
  obtain ⟨x1, x2, x3⟩ := lst_new hs (ints_rep (sortI ns)) hp
  exact ha _ _ _ x1 x2 x3
def fList : FF := fun ds S => match ds with
  | [.tup xs] => some (.ref S.length, S ++ [.lst xs])
  | [.ref n] => match getL S n with
    | some xs => some (.ref S.length, S ++ [.lst xs])
    | none => match getD S n with
      | some kvs => some (.ref S.length, S ++ [.lst (kvs.map fun kv => dKey kv.1)])
      | none => none
  | _ => none
theorem keys_rep {μ : List Addr} {H : Hp} : ∀ {kvs : List (Key × D)} {ys : List (Key × V)}, kvs.map (·.1) = ys.map (·.1) → Reps c μ H (kvs.map fun kv => dKey kv.1) (ys.map fun kv => kV kv.1)
  | [], ys, h => by
    cases ys with
    | nil => exact rfl
    | cons _ _ => simp at h
  | p :: kvs, ys, h => by
    cases ys with
    | nil => simp at h
    | cons q ys =>
      rw [List.map_cons, List.map_cons] at h
      injection h with h1 h2
      exact ⟨_, _, rfl, by show Rep c μ H (dKey p.1) (kV q.1); rw [← h1]; exact dKey_rep _, keys_rep h2⟩
theorem cList (hK : c.K = X.K) (hc : X.calm = true) : CallR X (.type "list") (rA c fList) := by
  refine CallR.w (call_list_of.or (call_listD hc)) fun xs H Q h => ?_
  obtain ⟨μ, S, ds, d, S', hs, rs, hf, ha⟩ := h
  unfold fList at hf
  split at hf
  · cases hf
    obtain ⟨v, rfl, a, ys, rfl, q, rr⟩ := rs.one_inv
    refine .inl ⟨a, ys, rfl, .inr (by rw [← hK]; exact q.sq), fun p hp => ?_⟩
    obtain ⟨x1, x2, x3⟩ := lst_new hs rr hp
    exact ha _ _ _ x1 x2 x3
  · obtain ⟨v, rfl, a, ha1, rfl⟩ := rs.one_inv
    split at hf
    · rename_i us e
      cases hf
      obtain ⟨a', ys, g1, q1, rr⟩ := getL_sq hs e
      rw [ha1] at g1
      cases g1
      refine .inl ⟨a, ys, rfl, .inl (by rw [← hK]; exact q1), fun p hp => ?_⟩
      obtain ⟨x1, x2, x3⟩ := lst_new hs rr hp
      exact ha _ _ _ x1 x2 x3
    · split at hf
      · rename_i kvs e
        cases hf
        obtain ⟨a', ys, g1, q1, rr⟩ := getD_rd hs e
        rw [ha1] at g1
        cases g1
        refine .inr ⟨a, ys, rfl, q1, fun p hp => ?_⟩
        obtain ⟨x1, x2, x3⟩ := lst_new hs (keys_rep rr.1) hp
        exact ha _ _ _ x1 x2 x3
      · cases hf
  · cases hf
def fTuple : FF := fun ds S => match ds with
  | [.tup xs] => some (.tup xs, S)
  | [.ref n] => (getL S n).map fun xs => (.tup xs, S)
  | _ => none
theorem cTuple (hK : c.K = X.K) : CallR X (.type "tuple") (rA c fTuple) := by
  refine CallR.w call_tupF fun xs H Q h => ?_
  obtain ⟨μ, S, ds, d, S', hs, rs, hf, ha⟩ := h
  unfold fTuple at hf
  split at hf
  · cases hf
    obtain ⟨v, rfl, a, ys, rfl, q, rr⟩ := rs.one_inv
    exact ⟨a, ys, rfl, .inr ⟨by rw [← hK]; exact q.sq, ha.now hs ⟨a, ys, rfl, q, rr⟩⟩⟩
  · obtain ⟨v, rfl, a, ha1, rfl⟩ := rs.one_inv
    obtain ⟨us, e, e2⟩ := Option.map_eq_some_iff.mp hf
    cases e2
    obtain ⟨a', ys, g1, q1, rr⟩ := getL_sq hs e
    rw [ha1] at g1
    cases g1
    refine ⟨a, ys, rfl, .inl ⟨by rw [← hK]; exact q1, fun p ob hp hd => ?_⟩⟩
    obtain ⟨x1, x2, x3⟩ := tup_new hs rr hp hd
    exact ha _ _ _ x1 x2 x3
  · cases hf

/-! ### methods of lists -/
theorem lst_set {μ : List Addr} {S : Sto} {H : Hp} {n : Nat} {a : Addr} {us ds : List D} {xs ys : List V} (hs : StoOk c μ S H) (e : S[n]? = some (.lst us)) (ha : μ[n]? = some a) (q : H a = some (.lst xs)) (r : Reps c μ H ds ys) :
    Ext c μ H μ (upd H a (.lst ys)) ∧ StoOk c μ (S.set n (.lst ds)) (upd H a (.lst ys)) := by
  have x : Ext c μ H μ (upd H a (.lst ys)) := Ext.upd (.inr ⟨_, q, trivial⟩)
  exact ⟨x, hs.write e rfl ha x ⟨ys, upd_same, Reps.mono x _ _ r⟩⟩
def mAppend : D → FF := fun x ds S => match x, ds with
  | .ref n, [d] => match S[n]? with
    | some (.lst us) => if us.length < cap then some (.non, S.set n (.lst (us ++ [d]))) else none
    | _ => none
  | _, _ => none
theorem cap_lt {n : Nat} (h : n < cap) : n < sizeLine := by
  rw [sizeLine_eq]
  unfold cap at h
  omega
theorem mkAppend : MtR X "list.append" (rM c mAppend) := by
  refine MtR.w mt_append fun x xs H Q h => ?_
  obtain ⟨μ, S, dx, ds, d, S', hs, rx, rs, hf, ha⟩ := h
  unfold mAppend at hf
  split at hf
  · split at hf
    · rename_i n d' us e
      split at hf
      · rename_i hz
        cases hf
        obtain ⟨a, ha1, rfl⟩ := rx
        obtain ⟨v, rfl, rv⟩ := rs.one_inv
        obtain ⟨a', g1, ys, q1, rr⟩ := hs.stands _ _ e
        rw [ha1] at g1
        cases g1
        obtain ⟨x1, x2⟩ := lst_set hs e ha1 q1 (rr.app (Reps.one rv))
        exact ⟨a, ys, v, rfl, rfl, q1, by rw [rr.len]; exact cap_lt hz, ha _ _ _ x1 x2 rfl⟩
      · cases hf
    · cases hf
  · cases hf
def mExtend : D → FF := fun x ds S => match x, ds with
  | .ref n, [.ref m] => match S[n]?, S[m]? with
    | some (.lst us), some (.lst ws) => if us.length + ws.length ≤ cap then some (.non, S.set n (.lst (us ++ ws))) else none
    | _, _ => none
  | _, _ => none
theorem mkExtend : MtR X "list.extend" (rM c mExtend) := by
  refine MtR.w mt_extend fun x xs H Q h => ?_
  obtain ⟨μ, S, dx, ds, d, S', hs, rx, rs, hf, ha⟩ := h
  unfold mExtend at hf
  split at hf
  · split at hf
    · rename_i n m us ws e e'
      split at hf
      · rename_i hz
        cases hf
        obtain ⟨a, ha1, rfl⟩ := rx
        obtain ⟨v, rfl, b, hb1, rfl⟩ := rs.one_inv
        obtain ⟨a', g1, ys, q1, rr⟩ := hs.stands _ _ e
        rw [ha1] at g1
        cases g1
        obtain ⟨b', g2, zs, q2, rr2⟩ := hs.stands _ _ e'
        rw [hb1] at g2
        cases g2
        obtain ⟨x1, x2⟩ := lst_set hs e ha1 q1 (rr.app rr2)
        exact ⟨a, b, ys, zs, rfl, rfl, q1, q2, by rw [rr.len, rr2.len]; exact cap_le hz, ha _ _ _ x1 x2 rfl⟩
      · cases hf
    · cases hf
  · cases hf
def mPop : D → FF := fun x ds S => match x, ds with
  | .ref n, [] => match S[n]? with
    | some (.lst us) => (us[us.length - 1]?).map fun d => (d, S.set n (.lst us.dropLast))
    | _ => none
  | .ref n, [.int i] => match S[n]? with
    | some (.lst us) => if (decide (-1000000 ≤ i) && decide (i < 1000000)) = true then (seqIndex? i us.length).bind fun k => (us[k]?).map fun d => (d, S.set n (.lst (us.eraseIdx k))) else none
    | _ => none
  | _, _ => none
theorem mkPop : MtR X "list.pop" (rM c mPop) := by
  refine MtR.w (MtR.or mt_pop mt_popAt) fun x xs H Q h => ?_
  obtain ⟨μ, S, dx, ds, d, S', hs, rx, rs, hf, ha⟩ := h
  unfold mPop at hf
  split at hf
  · split at hf
    · rename_i n us e
      obtain ⟨d', e1, e2⟩ := Option.map_eq_some_iff.mp hf
      cases e2
      obtain ⟨a, ha1, rfl⟩ := rx
      obtain rfl : xs = [] := rs
      obtain ⟨a', g1, ys, q1, rr⟩ := hs.stands _ _ e
      rw [ha1] at g1
      cases g1
      obtain ⟨v, e3, rv⟩ := rr.get e1
      obtain ⟨x1, x2⟩ := lst_set hs e ha1 q1 rr.dropLast
      exact .inl ⟨a, ys, v, rfl, rfl, q1, by rw [rr.len]; exact e3, ha _ _ _ x1 x2 (Rep.mono x1 _ _ rv)⟩
    · cases hf
  · split at hf
    · rename_i us e
      split at hf
      · rename_i hz
        rw [Bool.and_eq_true] at hz
        have z1 := of_decide_eq_true hz.1
        have z2 := of_decide_eq_true hz.2
        obtain ⟨k, e1, e2⟩ := Option.bind_eq_some_iff.mp hf
        obtain ⟨d', e3, e4⟩ := Option.map_eq_some_iff.mp e2
        cases e4
        obtain ⟨a, ha1, rfl⟩ := rx
        obtain ⟨w, rfl, r1⟩ := rs.one_inv
        obtain rfl := (show w = .int _ from r1)
        obtain ⟨a', g1, ys, q1, rr⟩ := hs.stands _ _ e
        rw [ha1] at g1
        cases g1
        obtain ⟨v, e5, rv⟩ := rr.get e3
        obtain ⟨x1, x2⟩ := lst_set hs e ha1 q1 (rr.erase k)
        exact .inr ⟨a, ys, _, k, v, rfl, rfl, q1, by omega, by omega, by rw [rr.len]; exact e1, e5, ha _ _ _ x1 x2 (Rep.mono x1 _ _ rv)⟩
      · cases hf
    · cases hf
  · cases hf
def mInsert : D → FF := fun x ds S => match x, ds with
  | .ref n, [.int i, d] => match S[n]? with
    | some (.lst us) => if (decide (us.length < cap) && decide (0 ≤ i) && decide (i < 1000000)) = true then some (.non, S.set n (.lst (us.take i.toNat ++ [d] ++ us.drop i.toNat))) else none
    | _ => none
  | _, _ => none
theorem mkInsert : MtR X "list.insert" (rM c mInsert) := by
  refine MtR.w mt_insert fun x xs H Q h => ?_
  obtain ⟨μ, S, dx, ds, d, S', hs, rx, rs, hf, ha⟩ := h
  unfold mInsert at hf
  split at hf
  · split at hf
    · rename_i us e
      split at hf
      · rename_i hz
        rw [Bool.and_eq_true, Bool.and_eq_true] at hz
        obtain ⟨⟨z1, z2⟩, z3⟩ := hz
        have z1 := of_decide_eq_true z1
        have z2 := of_decide_eq_true z2
        have z3 := of_decide_eq_true z3
        cases hf
        obtain ⟨a, ha1, rfl⟩ := rx
        obtain ⟨w, v, rfl, r1, rv⟩ := rs.two_inv
        obtain rfl := (show w = .int _ from r1)
        obtain ⟨a', g1, ys, q1, rr⟩ := hs.stands _ _ e
        rw [ha1] at g1
        cases g1
        obtain ⟨x1, x2⟩ := lst_set hs e ha1 q1 (((rr.take _).app (Reps.one rv)).app (rr.drop _))
        exact ⟨a, ys, _, v, rfl, rfl, q1, by rw [rr.len]; exact cap_lt z1, z2, by omega, ha _ _ _ x1 x2 rfl⟩
      · cases hf
    · cases hf
  · cases hf
end
end FL
/-! FL6: dicts, fields, instances and their methods. -/
namespace FL
open PySem PySem.Spec PyProof.Rows L2
section
variable {c : FC} {X : Cx}
/-! ### dict displays -/
def aPairs : List (FE × FE) → FA
  | [] => aNil
  | (fk, fv) :: r => aCons fk (aCons fv (aPairs r))
def pairD : List D → Option (List (Key × D))
  | [] => some []
  | k :: v :: r => (keyD k).bind fun k' => (pairD r).map fun ps => (k', v) :: ps
  | _ => none
def mergeG (kvs more : List (Key × D)) : List (Key × D) := more.foldl (fun acc kv => putG acc kv.1 kv.2) kvs
theorem RepKV.merge {μ : List Addr} {H : Hp} : ∀ {more : List (Key × D)} {zs : List (Key × V)} {kvs : List (Key × D)} {ys : List (Key × V)}, RepKV c μ H more zs → RepKV c μ H kvs ys → RepKV c μ H (mergeG kvs more) (mergeK ys zs)
  | [], zs, _, _, h, k => by
    rw [h.inv0]
    exact k
  | (k', d) :: more, zs, _, _, h, k => by
    obtain ⟨v, zs', rfl, r, h2⟩ := h.inv
    show RepKV c μ H (mergeG (putG _ k' d) more) (mergeK (putK _ k' v) zs')
    exact RepKV.merge h2 (RepKV.put r k)
/-- {k: v, ..} with one pair or more -/
def eDic (fr : FA) : FE := fun env S => th (fr env (S ++ [.dic []])) fun ds S1 => match S1[S.length]?, pairD ds with
  | some (.dic []), some ps => if ps.length ≤ 15 then some (.ref S.length, S1.set S.length (.dic (mergeG [] ps))) else none
  | _, _ => none
def eDic0 : FE := fun _ S => some (.ref S.length, S ++ [.dic []])
def pairV : List V → Option (List (V × V))
  | [] => some []
  | k :: v :: r => (pairV r).map fun ps => (k, v) :: ps
  | _ => none
theorem pairs_red : ∀ (fs : List (FE × FE)) {σ : L2.St} {H : Hp} {Q : List V → Hp → Prop}, tA c (aPairs fs) σ H Q → tPairs (fs.map fun p => (tE c p.1, tE c p.2)) σ H fun ps H1 => ∃ vs, pairV vs = some ps ∧ Q vs H1
  | [], σ, H, Q, h => by
    obtain ⟨μ, env, S, ds, S', he, hs, hf, ha⟩ := h
    cases hf
    exact ⟨[], rfl, ha μ H [] Ext.refl hs rfl⟩
  | (fk, fv) :: r, σ, H, Q, h => by
    obtain ⟨μ, env, S, ds, S', he, hs, hf, ha⟩ := h
    obtain ⟨k, S1, h1, hf⟩ := th_inv hf
    obtain ⟨xs, S2, h2, hf⟩ := th_inv hf
    cases hf
    obtain ⟨v, S3, h3, h2⟩ := th_inv h2
    obtain ⟨ys, S4, h4, h2⟩ := th_inv h2
    cases h2
    refine ⟨μ, env, S, k, S1, he, hs, h1, fun μ1 H1 kv e1 k1 r1 => ?_⟩
    refine ⟨μ1, env, S1, v, S3, he.mono e1, k1, h3, fun μ2 H2 vv e2 k2 r2 => ?_⟩
    have ih := pairs_red r (σ := σ) (H := H2) (Q := fun vs H3 => Q (kv :: vv :: vs) H3) ⟨μ2, env, S3, ys, _, (he.mono e1).mono e2, k2, h4, fun μ3 H3 vs e3 k3 r3 => ha μ3 H3 _ ((e1.trans e2).trans e3) k3 ⟨kv, vv :: vs, rfl, Rep.mono e3 _ _ (Rep.mono e2 _ _ r1), vv, vs, rfl, Rep.mono e3 _ _ r2, r3⟩⟩
    have mono : ∀ (trs : List (TE × TE)) (H : Hp) (Q Q' : List (V × V) → Hp → Prop), True := fun _ _ _ _ => trivial
    exact pairs_w r ih fun ps H3 ⟨vs, e, q⟩ => ⟨kv :: vv :: vs, by show (pairV vs).map _ = _; rw [e]; rfl, q⟩
where
  pairs_w : ∀ (fs : List (FE × FE)) {σ : L2.St} {H : Hp} {Q Q' : List (V × V) → Hp → Prop}, tPairs (fs.map fun p => (tE c p.1, tE c p.2)) σ H Q → (∀ ps H', Q ps H' → Q' ps H') → tPairs (fs.map fun p => (tE c p.1, tE c p.2)) σ H Q'
  | [], _, _, _, _, h, w => w _ _ h
  | (fk, fv) :: r, σ, H, Q, Q', h, w => by
    obtain ⟨μ, env, S, k, S1, he, hs, hf, ha⟩ := h
    refine ⟨μ, env, S, k, S1, he, hs, hf, fun μ1 H1 kv e1 k1 r1 => ?_⟩
    obtain ⟨μ', env', S', k', S1', he', hs', hf', ha'⟩ := ha μ1 H1 kv e1 k1 r1
    refine ⟨μ', env', S', k', S1', he', hs', hf', fun μ2 H2 vv e2 k2 r2 => ?_⟩
    exact pairs_w r (ha' μ2 H2 vv e2 k2 r2) fun ps H' q => w _ _ q
theorem pair_rep {μ : List Addr} {H : Hp} : ∀ (ds : List D) {ps : List (Key × D)} {vs : List V} {qs : List (V × V)}, pairD ds = some ps → Reps c μ H ds vs → pairV vs = some qs → ∃ ys : List (Key × V), qs = ys.map (fun kv => (kV kv.1, kv.2)) ∧ RepKV c μ H ps ys
  | [], ps, vs, qs, h, r, k => by
    cases h
    obtain rfl : vs = [] := r
    cases k
    exact ⟨[], rfl, RepKV.nil⟩
  | [_], _, _, _, h, _, _ => by cases h
  | kd :: vd :: rest, ps, vs, qs, h, r, k => by
    obtain ⟨kv, w1, rfl, rk, vv, w2, rfl, rv, rr⟩ := r
    obtain ⟨k', e1, e2⟩ := Option.bind_eq_some_iff.mp h
    obtain ⟨ps', e3, e4⟩ := Option.map_eq_some_iff.mp e2
    subst e4
    obtain ⟨qs', e5, e6⟩ := Option.map_eq_some_iff.mp k
    subst e6
    obtain ⟨ys, e7, e8⟩ := pair_rep rest e3 rr e5
    subst e7
    exact ⟨(k', vv) :: ys, by rw [List.map_cons, keyD_rep rk e1], RepKV.cons rv e8⟩
theorem q_dic0 {pos : Pos} : PE X (.Dict [] [] pos) (tE c eDic0) := by
  refine PE.w pe_dnewK fun σ H Q h => ?_
  obtain ⟨μ, env, S, d, S', he, hs, hf, ha⟩ := h
  cases hf
  intro p hp
  have e : Ext c μ H (μ ++ [p]) (upd H p (.dK [])) := Ext.new hp
  refine ha _ _ _ e (hs.alloc hp ⟨[], upd_same, RepKV.nil⟩) ⟨p, ?_, rfl⟩
  rw [← hs.len, List.getElem?_append_right (Nat.le_refl _), Nat.sub_self]
  rfl
theorem q_dic {pos : Pos} {keys : List (Option Expr)} {values : List Expr} {fs : List (FE × FE)} (h : PPs X pos keys values (fs.map fun p => (tE c p.1, tE c p.2))) (hall : keys.all (·.isSome) = true := by rfl) (hl : keys.length = values.length := by rfl) (h0 : keys ≠ [] := by exact List.cons_ne_nil _ _) (h15 : keys.length ≤ 15 := by decide) :
    PE X (.Dict keys values pos) (tE c (eDic (aPairs fs))) := by
  refine PE.w (pe_disp h hall hl h0 h15) fun σ H Q h => ?_
  obtain ⟨μ, env, S, d, S', he, hs, hf, ha⟩ := h
  intro p hp
  obtain ⟨ds, S1, h1, hf⟩ := th_inv hf
  have e : Ext c μ H (μ ++ [p]) (upd H p (.dK [])) := Ext.new hp
  have k0 : StoOk c (μ ++ [p]) (S ++ [.dic []]) (upd H p (.dK [])) := hs.alloc hp ⟨[], upd_same, RepKV.nil⟩
  have hn : (μ ++ [p])[S.length]? = some p := by
    rw [← hs.len, List.getElem?_append_right (Nat.le_refl _), Nat.sub_self]
    rfl
  refine pairs_red.pairs_w fs (pairs_red fs (Q := fun vs H1 => ∃ μ1, Ext c (μ ++ [p]) (upd H p (.dK [])) μ1 H1 ∧ StoOk c μ1 S1 H1 ∧ Reps c μ1 H1 ds vs) ⟨μ ++ [p], env, _, ds, S1, he.mono e, k0, h1, fun μ1 H1 vs e1 k1 r1 => ⟨μ1, e1, k1, r1⟩⟩) fun ps H1 ⟨vs, ev, μ1, e1, k1, r1⟩ => ?_
  split at hf
  · rename_i qs g1 g2
    split at hf
    · rename_i hz
      cases hf
      have hn1 := e1.pre _ _ hn
      obtain ⟨a', g3, ys0, q0, r0⟩ := k1.stands _ _ g1
      rw [hn1] at g3
      cases g3
      rw [r0.inv0] at q0
      obtain ⟨ys, e5, e6⟩ := pair_rep ds g2 r1 ev
      have x : Ext c μ1 H1 μ1 (upd H1 p (.dK (mergeK [] ys))) := Ext.upd (.inr ⟨_, q0, trivial⟩)
      refine ⟨q0, ys, e5, by rw [e6.len]; exact hz, ?_⟩
      exact ha _ _ _ ((e.trans e1).trans x) (k1.write g1 rfl hn1 x ⟨_, upd_same, (e6.merge RepKV.nil).mono x⟩) ⟨p, hn1, rfl⟩
    · cases hf
  · cases hf
/-! ### dict.get, dict.pop -/
def eGet2 (fo fk fx : FE) : FE := fun env S => th (fo env S) fun o S1 => th (fk env S1) fun k S2 => th (fx env S2) fun z S3 => match o with
  | .ref n => match getD S1 n, getD S3 n, keyD k with
    | some _, some kvs, some k' => match valG kvs k' with
      | some d => some (d, S3)
      | none => some (z, S3)
    | _, _, _ => none
  | _ => none
def eGet1 (fo fk : FE) : FE := fun env S => th (fo env S) fun o S1 => th (fk env S1) fun k S2 => match o with
  | .ref n => match getD S1 n, getD S2 n, keyD k with
    | some _, some kvs, some k' => match valG kvs k' with
      | some d => some (d, S2)
      | none => some (.non, S2)
    | _, _, _ => none
  | _ => none
def eDPop1 (fo fk : FE) : FE := fun env S => th (fo env S) fun o S1 => th (fk env S1) fun k S2 => match o with
  | .ref n => match getD S1 n, S2[n]?, keyD k with
    | some _, some (.dic kvs), some k' => match valG kvs k' with
      | some d => some (d, S2.set n (.dic (dropG kvs k')))
      | none => none
    | _, _, _ => none
  | _ => none
def eDPop2 (fo fk fx : FE) : FE := fun env S => th (fo env S) fun o S1 => th (fk env S1) fun k S2 => th (fx env S2) fun z S3 => match o with
  | .ref n => match getD S1 n, S3[n]?, keyD k with
    | some _, some (.dic kvs), some k' => match valG kvs k' with
      | some d => some (d, S3.set n (.dic (dropG kvs k')))
      | none => some (z, S3)
    | _, _, _ => none
  | _ => none
theorem isD_of {μ : List Addr} {S : Sto} {H : Hp} {n : Nat} {a : Addr} {kvs : List (Key × D)} (hs : StoOk c μ S H) (e : getD S n = some kvs) (ha : μ[n]? = some a) : IsD H a := by
  obtain ⟨a', ys, g1, q, _⟩ := getD_rd hs e
  rw [ha] at g1
  cases g1
  exact .inl ⟨ys, q⟩
variable {o e f : Expr} {apos cpos pos : Pos} {fo fk fx : FE}
theorem q_get2 (h : PE X (.Call (.Attribute o "get" apos) [e, f] [] cpos) (tDGet2 (tE c fo) (tE c fk) (tE c fx))) : PE X (.Call (.Attribute o "get" apos) [e, f] [] cpos) (tE c (eGet2 fo fk fx)) := by
  refine PE.w h fun σ H Q h => ?_
  obtain ⟨μ, env, S, d, S', he, hs, hf, ha⟩ := h
  obtain ⟨ov, S1, h1, hf⟩ := th_inv hf
  obtain ⟨kd, S2, h2, hf⟩ := th_inv hf
  obtain ⟨z, S3, h3, hf⟩ := th_inv hf
  refine ⟨μ, env, S, ov, S1, he, hs, h1, fun μ1 H1 v e1 k1 r1 => ?_⟩
  cases ov with
  | ref n =>
    obtain ⟨a, ha1, rfl⟩ := r1
    simp only at hf
    split at hf
    · rename_i kvs0 kvs k' g0 g1 g2
      refine ⟨a, rfl, isD_of k1 g0 ha1, μ1, env, S1, kd, S2, he.mono e1, k1, h2, fun μ2 H2 w e2 k2 r2 => ?_⟩
      refine ⟨μ2, env, S2, z, S3, (he.mono e1).mono e2, k2, h3, fun μ3 H3 y e3 k3 r3 => ?_⟩
      obtain ⟨a', ys, g3, q, rr⟩ := getD_rd k3 g1
      rw [e3.pre _ _ (e2.pre _ _ ha1)] at g3
      cases g3
      refine ⟨valV ys k', .inl ⟨ys, k', q, keyD_rep r2 g2, rfl⟩, ?_⟩
      obtain ⟨i1, i2⟩ := rr.val k'
      have ha3 := ((ha.ext e1).ext e2).ext e3
      split at hf
      · rename_i d' g4
        cases hf
        obtain ⟨vv, e5, e6⟩ := i1 _ g4
        rw [e5]
        exact ha3.now k3 e6
      · rename_i g4
        cases hf
        rw [i2 g4]
        exact ha3.now k3 r3
    · cases hf
  | _ => cases hf
theorem q_get1 (h : PE X (.Call (.Attribute o "get" apos) [e] [] cpos) (tDGet1 (tE c fo) (tE c fk))) : PE X (.Call (.Attribute o "get" apos) [e] [] cpos) (tE c (eGet1 fo fk)) := by
  refine PE.w h fun σ H Q h => ?_
  obtain ⟨μ, env, S, d, S', he, hs, hf, ha⟩ := h
  obtain ⟨ov, S1, h1, hf⟩ := th_inv hf
  obtain ⟨kd, S2, h2, hf⟩ := th_inv hf
  refine ⟨μ, env, S, ov, S1, he, hs, h1, fun μ1 H1 v e1 k1 r1 => ?_⟩
  cases ov with
  | ref n =>
    obtain ⟨a, ha1, rfl⟩ := r1
    simp only at hf
    split at hf
    · rename_i kvs0 kvs k' g0 g1 g2
      refine ⟨a, rfl, isD_of k1 g0 ha1, μ1, env, S1, kd, S2, he.mono e1, k1, h2, fun μ2 H2 w e2 k2 r2 => ?_⟩
      obtain ⟨a', ys, g3, q, rr⟩ := getD_rd k2 g1
      rw [e2.pre _ _ ha1] at g3
      cases g3
      refine ⟨valV ys k', .inl ⟨ys, k', q, keyD_rep r2 g2, rfl⟩, ?_⟩
      obtain ⟨i1, i2⟩ := rr.val k'
      have ha3 := (ha.ext e1).ext e2
      split at hf
      · rename_i d' g4
        cases hf
        obtain ⟨vv, e5, e6⟩ := i1 _ g4
        rw [e5]
        exact ha3.now k2 e6
      · rename_i g4
        cases hf
        rw [i2 g4]
        exact ha3.now k2 rfl
    · cases hf
  | _ => cases hf
theorem dic_set {μ : List Addr} {S : Sto} {H : Hp} {n : Nat} {a : Addr} {us ds : List (Key × D)} {xs ys : List (Key × V)} (hs : StoOk c μ S H) (e : S[n]? = some (.dic us)) (ha : μ[n]? = some a) (q : H a = some (.dK xs)) (r : RepKV c μ H ds ys) :
    Ext c μ H μ (upd H a (.dK ys)) ∧ StoOk c μ (S.set n (.dic ds)) (upd H a (.dK ys)) := by
  have x : Ext c μ H μ (upd H a (.dK ys)) := Ext.upd (.inr ⟨_, q, trivial⟩)
  exact ⟨x, hs.write e rfl ha x ⟨ys, upd_same, r.mono x⟩⟩
theorem q_dpop1 (h : PE X (.Call (.Attribute o "pop" apos) [e] [] cpos) (tDPop1 (tE c fo) (tE c fk))) : PE X (.Call (.Attribute o "pop" apos) [e] [] cpos) (tE c (eDPop1 fo fk)) := by
  refine PE.w h fun σ H Q h => ?_
  obtain ⟨μ, env, S, d, S', he, hs, hf, ha⟩ := h
  obtain ⟨ov, S1, h1, hf⟩ := th_inv hf
  obtain ⟨kd, S2, h2, hf⟩ := th_inv hf
  refine ⟨μ, env, S, ov, S1, he, hs, h1, fun μ1 H1 v e1 k1 r1 => ?_⟩
  cases ov with
  | ref n =>
    obtain ⟨a, ha1, rfl⟩ := r1
    simp only at hf
    split at hf
    · rename_i kvs0 kvs k' g0 g1 g2
      refine ⟨a, rfl, isD_of k1 g0 ha1, μ1, env, S1, kd, S2, he.mono e1, k1, h2, fun μ2 H2 w e2 k2 r2 => ?_⟩
      obtain ⟨a', g3, ys, q, rr⟩ := k2.stands _ _ g1
      rw [e2.pre _ _ ha1] at g3
      cases g3
      obtain ⟨i1, i2⟩ := rr.val k'
      split at hf
      · rename_i d' g4
        cases hf
        obtain ⟨vv, e5, e6⟩ := i1 _ g4
        obtain ⟨x1, x2⟩ := dic_set k2 g1 (e2.pre _ _ ha1) q (RepKV.drop (k := k') rr)
        exact ⟨ys, k', vv, q, keyD_rep r2 g2, e5, ha _ _ _ ((e1.trans e2).trans x1) x2 (Rep.mono x1 _ _ e6)⟩
      · cases hf
    · cases hf
  | _ => cases hf
theorem q_dpop2 (h : PE X (.Call (.Attribute o "pop" apos) [e, f] [] cpos) (tDPop2 (tE c fo) (tE c fk) (tE c fx))) : PE X (.Call (.Attribute o "pop" apos) [e, f] [] cpos) (tE c (eDPop2 fo fk fx)) := by
  refine PE.w h fun σ H Q h => ?_
  obtain ⟨μ, env, S, d, S', he, hs, hf, ha⟩ := h
  obtain ⟨ov, S1, h1, hf⟩ := th_inv hf
  obtain ⟨kd, S2, h2, hf⟩ := th_inv hf
  obtain ⟨z, S3, h3, hf⟩ := th_inv hf
  refine ⟨μ, env, S, ov, S1, he, hs, h1, fun μ1 H1 v e1 k1 r1 => ?_⟩
  cases ov with
  | ref n =>
    obtain ⟨a, ha1, rfl⟩ := r1
    simp only at hf
    split at hf
    · rename_i kvs0 kvs k' g0 g1 g2
      refine ⟨a, rfl, isD_of k1 g0 ha1, μ1, env, S1, kd, S2, he.mono e1, k1, h2, fun μ2 H2 w e2 k2 r2 => ?_⟩
      refine ⟨μ2, env, S2, z, S3, (he.mono e1).mono e2, k2, h3, fun μ3 H3 y e3 k3 r3 => ?_⟩
      obtain ⟨a', g3, ys, q, rr⟩ := k3.stands _ _ g1
      have ha4 := e3.pre _ _ (e2.pre _ _ ha1)
      rw [ha4] at g3
      cases g3
      obtain ⟨i1, i2⟩ := rr.val k'
      have r2' := Rep.mono e3 _ _ r2
      refine ⟨ys, k', q, keyD_rep r2 g2, fun v' ev => ?_, fun ev => ?_⟩
      · split at hf
        · rename_i d' g4
          cases hf
          obtain ⟨vv, e5, e6⟩ := i1 _ g4
          rw [ev] at e5
          cases e5
          obtain ⟨x1, x2⟩ := dic_set k3 g1 ha4 q (RepKV.drop (k := k') rr)
          exact ha _ _ _ (((e1.trans e2).trans e3).trans x1) x2 (Rep.mono x1 _ _ e6)
        · rename_i g4
          rw [i2 g4] at ev
          cases ev
      · split at hf
        · rename_i d' g4
          obtain ⟨vv, e5, e6⟩ := i1 _ g4
          rw [ev] at e5
          cases e5
        · rename_i g4
          cases hf
          exact ha _ _ _ ((e1.trans e2).trans e3) k3 r3
    · cases hf
  | _ => cases hf

/-! ### fields -/
def putF (f : Str) (v : D) : List (Str × D) → List (Str × D)
  | [] => [(f, v)]
  | (g, w) :: r => if g = f then (g, v) :: r else (g, w) :: putF f v r
def eFld (ks : List Str) (fa : FE) (f : Str) : FE := fun env S => th (fa env S) fun x S1 => match x with
  | .ref n => match S1[n]? with
    | some (.ins k fs) => if k ∈ ks then (fs.lookup f).map fun d => (d, S1) else none
    | _ => none
  | _ => none
theorem fs_lookup {μ : List Addr} {H : Hp} {f : Str} {d : D} : ∀ {fs : List (Str × D)} {ys : List (Str × V)}, RepKV c μ H fs ys → fs.lookup f = some d → ∃ v, ys.lookup f = some v ∧ Rep c μ H d v
  | [], _, _, h => by cases h
  | (g, w) :: r, ys, h, k => by
    obtain ⟨v, ys', rfl, rv, h2⟩ := h.inv
    rw [List.lookup_cons] at k ⊢
    cases e : f == g with
    | true =>
      rw [e] at k
      cases k
      exact ⟨v, rfl, rv⟩
    | false =>
      rw [e] at k
      exact fs_lookup h2 k
theorem fs_none {μ : List Addr} {H : Hp} {f : Str} : ∀ {fs : List (Str × D)} {ys : List (Str × V)}, RepKV c μ H fs ys → fs.lookup f = none → ys.lookup f = none
  | [], ys, h, _ => by rw [h.inv0]; rfl
  | (g, w) :: r, ys, h, k => by
    obtain ⟨v, ys', rfl, rv, h2⟩ := h.inv
    rw [List.lookup_cons] at k ⊢
    cases e : f == g with
    | true =>
      rw [e] at k
      cases k
    | false =>
      rw [e] at k
      exact fs_none h2 k
/-- what the text must have of the classes ks, of a field f of theirs, of a method m of theirs -/
def ClsK (c : FC) (ks : List Str) : Prop := ∀ k ∈ ks, Cls c.K (c.ct k)
def FldK (c : FC) (ks : List Str) (f : Str) : Prop := ∀ k ∈ ks, NoAttr c.K (c.ct k) f
theorem q_fld (hK : c.K = X.K) {f : Str} {ks : List Str} {fa : FE} (h1 : ClsK c ks) (h2 : FldK c ks f) (he : PE X e (tE c fa)) (hb : attributeBase e f X.env (eval e X.env) = eval e X.env := by rfl) : PE X (.Attribute e f pos) (tE c (eFld ks fa f)) := by
  refine PE.w (pe_fld he hb) fun σ H Q h => ?_
  obtain ⟨μ, env, S, d, S', he, hs, hf, ha⟩ := h
  obtain ⟨x, S1, h1', hf⟩ := th_inv hf
  refine ⟨μ, env, S, x, S1, he, hs, h1', fun μ1 H1 v e1 k1 r1 => ?_⟩
  cases x with
  | ref n =>
    obtain ⟨a, ha1, rfl⟩ := r1
    simp only at hf
    split at hf
    · rename_i k fs g1
      split at hf
      · rename_i hk
        obtain ⟨d', g2, g3⟩ := Option.map_eq_some_iff.mp hf
        cases g3
        obtain ⟨a', g4, dx, ys, q, rr⟩ := k1.stands _ _ g1
        rw [ha1] at g4
        cases g4
        obtain ⟨v, e5, e6⟩ := fs_lookup rr g2
        exact ⟨a, c.ct k, dx, ys, v, rfl, q, by rw [← hK]; exact h1 k hk, by rw [← hK]; exact h2 k hk, e5, (ha.ext e1).now k1 e6⟩
      · cases hf
    · cases hf
  | _ => cases hf
theorem putF_rep {μ : List Addr} {H : Hp} {f : Str} {d : D} {v : V} (r : Rep c μ H d v) : ∀ {fs : List (Str × D)} {ys : List (Str × V)}, RepKV c μ H fs ys → RepKV c μ H (putF f d fs) (L2.putF f v ys)
  | [], ys, h => by
    rw [h.inv0]
    exact RepKV.cons r RepKV.nil
  | (g, w) :: rest, ys, h => by
    obtain ⟨v', ys', rfl, rv, h2⟩ := h.inv
    unfold putF L2.putF
    by_cases e : g = f
    · rw [if_pos e, if_pos e]
      exact RepKV.cons r h2
    · rw [if_neg e, if_neg e]
      exact RepKV.cons rv (putF_rep r h2)
theorem ins_set {μ : List Addr} {S : Sto} {H : Hp} {n : Nat} {a dx : Addr} {k : Str} {us ds : List (Str × D)} {xs ys : List (Str × V)} (hs : StoOk c μ S H) (e : S[n]? = some (.ins k us)) (ha : μ[n]? = some a) (q : H a = some (.ins (c.ct k) dx xs)) (r : RepKV c μ H ds ys) :
    Ext c μ H μ (upd H a (.ins (c.ct k) dx ys)) ∧ StoOk c μ (S.set n (.ins k ds)) (upd H a (.ins (c.ct k) dx ys)) := by
  have x : Ext c μ H μ (upd H a (.ins (c.ct k) dx ys)) := Ext.upd (.inr ⟨_, q, trivial⟩)
  exact ⟨x, hs.write e rfl ha x ⟨dx, ys, upd_same, r.mono x⟩⟩

/-! ### instances: a new one, its methods -/
/-- C(..): place n is new; then __init__ -/
def eMake (k : Str) (F : FF) (fr : FA) : FE := fun env S => th (fr env S) fun ds S1 => th (F (.ref S1.length :: ds) (S1 ++ [.ins k []])) fun v S2 => match v with
  | .non => some (.ref S1.length, S2)
  | _ => none
theorem q_make {n : Nat} {k : Str} {F : FF} {fr : FA} {E : XK} (h : PE X e (tMake (c.ct k) (spF c n F) [] E (tA c fr))) (hl : ∀ (env : Env) (S : Sto) (ds : List D) (S' : Sto), fr env S = some (ds, S') → ds.length + 1 = n) : PE X e (tE c (eMake k F fr)) := by
  refine PE.w h fun σ H Q h => ?_
  obtain ⟨μ, env, S, d, S', he, hs, hf, ha⟩ := h
  obtain ⟨ds, S1, h1, hf⟩ := th_inv hf
  obtain ⟨v, S2, h2, hf⟩ := th_inv hf
  refine ⟨μ, env, S, ds, S1, he, hs, h1, fun μ1 H1 vs e1 k1 q1 => ?_⟩
  intro x dx nx ndx nex
  show spF c n F (.ref x :: (vs ++ [])) _ _ E
  rw [List.append_nil]
  refine ⟨by rw [List.length_cons, q1.len]; exact hl _ _ _ _ h1, ?_⟩
  have kd : StoOk c μ1 S1 (upd H1 dx (.own x)) := k1.same ndx
  have ed : Ext c μ1 H1 μ1 (upd H1 dx (.own x)) := Ext.upd (.inl ndx)
  have nx' : (upd H1 dx (.own x)) x = none := by rw [upd_ne nex.symm]; exact nx
  have ex : Ext c μ1 (upd H1 dx (.own x)) (μ1 ++ [x]) (upd (upd H1 dx (.own x)) x (.ins (c.ct k) dx [])) := Ext.new nx'
  have kx : StoOk c (μ1 ++ [x]) (S1 ++ [.ins k []]) (upd (upd H1 dx (.own x)) x (.ins (c.ct k) dx [])) := kd.alloc nx' ⟨dx, [], upd_same, RepKV.nil⟩
  have hn : (μ1 ++ [x])[S1.length]? = some x := by
    rw [← k1.len, List.getElem?_append_right (Nat.le_refl _), Nat.sub_self]
    rfl
  refine ⟨μ1 ++ [x], _, .ref S1.length :: ds, v, S2, kx, ⟨.ref x, vs, rfl, ⟨x, hn, rfl⟩, Reps.mono (ed.trans ex) _ _ q1⟩, h2, fun μ2 H2 w e2 k2 r2 => ?_⟩
  cases v with
  | non =>
    cases hf
    exact ⟨r2, ha _ _ _ (((e1.trans ed).trans ex).trans e2) k2 ⟨x, e2.pre _ _ hn, rfl⟩⟩
  | _ => cases hf
/-- o.m(..), o an instance of the class k -/
def eMeth (k : Str) (m : Str) (F : FF) (fo : FE) (fr : FA) : FE := fun env S => th (fo env S) fun x S1 => match x with
  | .ref n => match S1[n]? with
    | some (.ins k' fs) => if k' = k ∧ fs.lookup m = none then th (fr env S1) fun ds S2 => F (x :: ds) S2 else none
    | _ => none
  | _ => none
theorem q_meth {n : Nat} {k m : Str} {F : FF} {fr : FA} {E : XK} (h : PE X e (tMeth (c.ct k) m (spF c n F) [] E (tE c fo) (tA c fr))) (hl : ∀ (env : Env) (S : Sto) (ds : List D) (S' : Sto), fr env S = some (ds, S') → ds.length + 1 = n) : PE X e (tE c (eMeth k m F fo fr)) := by
  refine PE.w h fun σ H Q h => ?_
  obtain ⟨μ, env, S, d, S', he, hs, hf0, ha⟩ := h
  obtain ⟨x, S1, h1, hf⟩ := th_inv hf0
  clear hf0
  refine ⟨μ, env, S, x, S1, he, hs, h1, fun μ1 H1 v e1 k1 r1 => ?_⟩
  cases x with
  | ref i =>
    obtain ⟨a, ha1, rfl⟩ := r1
    simp only at hf
    split at hf
    · rename_i k' fs g1
      split at hf
      · rename_i hk
        obtain ⟨hk1, hk2⟩ := hk
        subst hk1
        obtain ⟨ds, S2, h2, hf⟩ := th_inv hf
        obtain ⟨a', g4, dx, ys, q, rr⟩ := k1.stands _ _ g1
        rw [ha1] at g4
        cases g4
        refine ⟨a, dx, ys, rfl, q, fs_none rr hk2, μ1, env, S1, ds, S2, he.mono e1, k1, h2, fun μ2 H2 vs e2 k2 r2 => ?_⟩
        show spF c n F (.ref a :: (vs ++ [])) H2 Q E
        rw [List.append_nil]
        exact ⟨by rw [List.length_cons, r2.len]; exact hl _ _ _ _ h2, μ2, S2, .ref i :: ds, d, S', k2, ⟨.ref a, vs, rfl, ⟨a, e2.pre _ _ ha1, rfl⟩, r2⟩, hf, (ha.ext e1).ext e2⟩
      · cases hf
    · cases hf
  | _ => cases hf
end
/-- calls of a built-in type's methods: the receiver's type is seen -/
def tyD (T : String) (x : D) (S : Sto) : Bool := match x with
  | .str _ => T == "str"
  | .ref n => match S[n]? with
    | some (.lst _) => T == "list"
    | some (.ro _) => T == "list"
    | some (.dic _) => T == "dict"
    | _ => false
  | _ => false
def eBm (T : String) (F : D → FF) (fo : FE) (fr : FA) : FE := fun env S => th (fo env S) fun x S1 => if tyD T x S1 = true then th (fr env S1) fun ds S2 => F x ds S2 else none
section
variable {c : FC} {X : Cx} {e : Expr} {fo : FE} {fr : FA} {T : String} {F : D → FF}
theorem tyD_rep (hK : c.K = X.K) {μ : List Addr} {S : Sto} {H : Hp} {d : D} {v : V} (hs : StoOk c μ S H) (r : Rep c μ H d v) (h : tyD T d S = true) : tyV X.K T v H := by
  unfold tyD at h
  split at h
  · obtain rfl := (show v = .str _ from r)
    exact beq_iff_eq.mp h
  · obtain ⟨a, ha, rfl⟩ := r
    split at h
    · rename_i e
      obtain ⟨a', g1, ys, q, rr⟩ := hs.stands _ _ e
      rw [ha] at g1
      cases g1
      exact .inl ⟨beq_iff_eq.mp h, ys, SqL.of q⟩
    · rename_i e
      obtain ⟨a', g1, rr⟩ := hs.stands _ _ e
      rw [ha] at g1
      cases g1
      obtain ⟨ys, q, _⟩ := ro_sq rr
      exact .inl ⟨beq_iff_eq.mp h, ys, by rw [← hK]; exact q⟩
    · rename_i e
      obtain ⟨a', g1, ys, q, rr⟩ := hs.stands _ _ e
      rw [ha] at g1
      cases g1
      exact .inr (.inr (.inl ⟨beq_iff_eq.mp h, .inl ⟨ys, q⟩⟩))
    · cases h
  · cases h
theorem q_bm (hK : c.K = X.K) (h : PE X e (tBM X.K T (rM c F) (tE c fo) (tA c fr))) : PE X e (tE c (eBm T F fo fr)) := by
  refine PE.w h fun σ H Q h => ?_
  obtain ⟨μ, env, S, d, S', he, hs, hf, ha⟩ := h
  obtain ⟨x, S1, h1, hf⟩ := th_inv hf
  refine ⟨μ, env, S, x, S1, he, hs, h1, fun μ1 H1 v e1 k1 r1 => ?_⟩
  split at hf
  · rename_i ht
    obtain ⟨ds, S2, h2, hf⟩ := th_inv hf
    refine ⟨tyD_rep hK k1 r1 ht, μ1, env, S1, ds, S2, he.mono e1, k1, h2, fun μ2 H2 vs e2 k2 r2 => ?_⟩
    exact ⟨μ2, S2, x, ds, d, S', k2, Rep.mono e2 _ _ r1, r2, hf, (ha.ext e1).ext e2⟩
  · cases hf
theorem q_bm0 (hK : c.K = X.K) (h : PE X e (tBM0 X.K T (rM c F) (tE c fo))) : PE X e (tE c (eBm T F fo aNil)) := by
  refine PE.w h fun σ H Q h => ?_
  obtain ⟨μ, env, S, d, S', he, hs, hf, ha⟩ := h
  obtain ⟨x, S1, h1, hf⟩ := th_inv hf
  refine ⟨μ, env, S, x, S1, he, hs, h1, fun μ1 H1 v e1 k1 r1 => ?_⟩
  split at hf
  · rename_i ht
    obtain ⟨ds, S2, h2, hf⟩ := th_inv hf
    cases h2
    exact ⟨tyD_rep hK k1 r1 ht, μ1, _, x, [], d, S', k1, r1, rfl, hf, ha.ext e1⟩
  · cases hf
end
end FL
/-! FL7: statements, targets, loops, comprehensions, defs. -/
namespace FL
open PySem PySem.Spec PyProof.Rows L2

/-! ### statements -/
def OutAt (c : FC) (μ' : List Addr) (H' : Hp) (S' : Sto) (Dn : Ends) : Out → Prop
  | .nx e => ∀ σ', EnvOk c μ' H' e σ' → Dn.nx σ' H'
  | .bk e => ∀ σ', EnvOk c μ' H' e σ' → Dn.bk σ' H'
  | .ct e => ∀ σ', EnvOk c μ' H' e σ' → Dn.ct σ' H'
  | .rt d => ∀ v, Rep c μ' H' d v → Dn.rt v H'
def OutOk (c : FC) (μ : List Addr) (H : Hp) (o : Out) (S' : Sto) (Dn : Ends) : Prop := ∀ μ' H', Ext c μ H μ' H' → StoOk c μ' S' H' → OutAt c μ' H' S' Dn o
def tS (c : FC) (f : FS) : TS := fun Dn σ H => ∃ μ env S o S', EnvOk c μ H env σ ∧ StoOk c μ S H ∧ f env S = some (o, S') ∧ OutOk c μ H o S' Dn
theorem OutOk.ext {c : FC} {μ μ1 : List Addr} {H H1 : Hp} {S' : Sto} {o : Out} {Dn : Ends} (h : OutOk c μ H o S' Dn) (e : Ext c μ H μ1 H1) : OutOk c μ1 H1 o S' Dn := fun μ' H' e' k => h μ' H' (e.trans e') k
theorem OutOk.nx {c : FC} {μ : List Addr} {H : Hp} {S' : Sto} {e : Env} {Dn : Ends} {σ : L2.St} (h : OutOk c μ H (.nx e) S' Dn) (k : StoOk c μ S' H) (r : EnvOk c μ H e σ) : Dn.nx σ H := h μ H Ext.refl k σ r

def sNil : FS := fun env S => some (.nx env, S)
def sSeq (f g : FS) : FS := fun env S => th (f env S) fun o S1 => match o with
  | .nx e => g e S1
  | o => some (o, S1)
def sDrop (fe : FE) : FS := fun env S => th (fe env S) fun _ S1 => some (.nx env, S1)
def sRet (fe : FE) : FS := fun env S => th (fe env S) fun d S1 => some (.rt d, S1)
def sRetN : FS := fun _ S => some (.rt .non, S)
def sBrk : FS := fun env S => some (.bk env, S)
def sCnt : FS := fun env S => some (.ct env, S)
def sIf (t : FT) (f g : FS) : FS := fun env S => th (t env S) fun b S1 => if b = true then f env S1 else g env S1
def sNever : FS := fun _ _ => none

section
variable {c : FC} {X : Cx} {st : Stmt} {rest : List Stmt} {f g : FS} {e : Expr} {fe : FE} {ft : FT} {pos : Pos}
theorem PS.w {t t' : TS} (h : PS X st t) (w : ∀ Dn σ H, t' Dn σ H → t Dn σ H) : PS X st t' := ⟨fun pins s σ H D I q => h.run pins s σ H D I (w D σ H q)⟩
theorem PSs.w {sts : List Stmt} {t t' : TS} (h : PSs X sts t) (w : ∀ Dn σ H, t' Dn σ H → t Dn σ H) : PSs X sts t' := ⟨fun pins s σ H D I q => h.run pins s σ H D I (w D σ H q)⟩
theorem q_snil : PSs X [] (tS c sNil) := by
  refine PSs.w pss_nil fun Dn σ H h => ?_
  obtain ⟨μ, env, S, o, S', he, hs, hf, ha⟩ := h
  cases hf
  exact ha.nx hs he
theorem q_scons (h1 : PS X st (tS c f)) (h2 : PSs X rest (tS c g)) : PSs X (st :: rest) (tS c (sSeq f g)) := by
  refine PSs.w (pss_cons h1 h2) fun Dn σ H h => ?_
  obtain ⟨μ, env, S, o, S', he, hs, hf, ha⟩ := h
  obtain ⟨o1, S1, h1, hf⟩ := th_inv hf
  refine ⟨μ, env, S, o1, S1, he, hs, h1, fun μ1 H1 e1 k1 => ?_⟩
  cases o1 with
  | nx env1 => exact fun σ1 r1 => ⟨μ1, env1, S1, o, S', r1, k1, hf, ha.ext e1⟩
  | rt d =>
    cases hf
    exact fun v r => ha μ1 H1 e1 k1 v r
  | bk e =>
    cases hf
    exact fun σ1 r => ha μ1 H1 e1 k1 σ1 r
  | ct e =>
    cases hf
    exact fun σ1 r => ha μ1 H1 e1 k1 σ1 r
theorem q_sone (h1 : PS X st (tS c f)) : PSs X [st] (tS c f) := pss_one h1
theorem q_drop (h : PE X e (tE c fe)) (hs : swapsWith e none pos.line X.env = pure false := by rfl) : PS X (.Expr e pos) (tS c (sDrop fe)) := by
  refine PS.w (ps_expr h hs) fun Dn σ H h => ?_
  obtain ⟨μ, env, S, o, S', he, hs, hf, ha⟩ := h
  obtain ⟨d, S1, h1, hf⟩ := th_inv hf
  cases hf
  exact ⟨μ, env, S, d, _, he, hs, h1, fun μ1 H1 v e1 k1 r1 => ha μ1 H1 e1 k1 σ (he.mono e1)⟩
theorem q_ret (h : PE X e (tE c fe)) : PS X (.Return (some e) pos) (tS c (sRet fe)) := by
  refine PS.w (ps_ret h) fun Dn σ H h => ?_
  obtain ⟨μ, env, S, o, S', he, hs, hf, ha⟩ := h
  obtain ⟨d, S1, h1, hf⟩ := th_inv hf
  cases hf
  exact ⟨μ, env, S, d, _, he, hs, h1, fun μ1 H1 v e1 k1 r1 => ha μ1 H1 e1 k1 v r1⟩
theorem q_retN : PS X (.Return none pos) (tS c sRetN) := by
  refine PS.w ps_retN fun Dn σ H h => ?_
  obtain ⟨μ, env, S, o, S', he, hs, hf, ha⟩ := h
  cases hf
  exact ha μ H Ext.refl hs .non rfl
theorem q_brk : PS X (.Break pos) (tS c sBrk) := by
  refine PS.w ps_break fun Dn σ H h => ?_
  obtain ⟨μ, env, S, o, S', he, hs, hf, ha⟩ := h
  cases hf
  exact ha μ H Ext.refl hs σ he
theorem q_cnt : PS X (.Continue pos) (tS c sCnt) := by
  refine PS.w ps_continue fun Dn σ H h => ?_
  obtain ⟨μ, env, S, o, S', he, hs, hf, ha⟩ := h
  cases hf
  exact ha μ H Ext.refl hs σ he
theorem q_pass : PS X (.Pass pos) (tS c sNil) := by
  refine PS.w ps_pass fun Dn σ H h => ?_
  obtain ⟨μ, env, S, o, S', he, hs, hf, ha⟩ := h
  cases hf
  exact ha.nx hs he
theorem q_sif {cd : Expr} {a b : List Stmt} (hc : PT X cd (tT c ft)) (ha : PSs X a (tS c f)) (hb : PSs X b (tS c g)) : PS X (.If cd a b pos) (tS c (sIf ft f g)) := by
  refine PS.w (ps_if hc ha hb) fun Dn σ H h => ?_
  obtain ⟨μ, env, S, o, S', he, hs, hf, ha⟩ := h
  obtain ⟨k, S1, h1, hf⟩ := th_inv hf
  refine ⟨μ, env, S, k, S1, he, hs, h1, fun μ1 H1 e1 k1 => ?_⟩
  cases k with
  | true => exact ⟨μ1, env, S1, o, S', he.mono e1, k1, hf, ha.ext e1⟩
  | false => exact ⟨μ1, env, S1, o, S', he.mono e1, k1, hf, ha.ext e1⟩
theorem q_snever : PS X st (tS c sNever) := by
  refine PS.w ps_never fun Dn σ H h => ?_
  obtain ⟨μ, env, S, o, S', he, hs, hf, ha⟩ := h
  cases hf
end

/-! ### targets -/
abbrev FG := D → Env → Sto → Option (Env × Sto)
abbrev FGs := List D → Env → Sto → Option (Env × Sto)
/-- vs: slots outside of which nothing is stored (a comprehension's own), if that is asked -/
def tG (c : FC) (vs : Option (List Nat)) (g : FG) : TG := fun v σ H Q => ∃ μ env S d env' S', EnvOk c μ H env σ ∧ StoOk c μ S H ∧ Rep c μ H d v ∧ g d env S = some (env', S') ∧
  ∀ μ' H' σ', Ext c μ H μ' H' → StoOk c μ' S' H' → EnvOk c μ' H' env' σ' → (∀ ws, vs = some ws → wipe σ' ws = wipe σ ws) → Q σ' H'
def tGs (c : FC) (vs : Option (List Nat)) (g : FGs) : TGs := fun xs σ H Q => ∃ μ env S ds env' S', EnvOk c μ H env σ ∧ StoOk c μ S H ∧ Reps c μ H ds xs ∧ g ds env S = some (env', S') ∧
  ∀ μ' H' σ', Ext c μ H μ' H' → StoOk c μ' S' H' → EnvOk c μ' H' env' σ' → (∀ ws, vs = some ws → wipe σ' ws = wipe σ ws) → Q σ' H'
def gNm (i : Nat) : FG := fun d env S => some (env.set i (some d), S)
def gNils : FGs := fun ds env S => match ds with
  | [] => some (env, S)
  | _ => none
def gCns (g : FG) (gs : FGs) : FGs := fun ds env S => match ds with
  | d :: r => th (g d env S) fun env1 S1 => gs r env1 S1
  | [] => none
def gTp (n : Nat) (gs : FGs) : FG := fun d env S => match d with
  | .tup ds => if ds.length = n then gs ds env S else none
  | .pr ds => if ds.length = n then gs ds env S else none
  | _ => none
def gIx (fo fi : FE) : FG := fun d env S => th (fo env S) fun o S1 => th (fi env S1) fun i S2 => match o with
  | .ref n => match S2[n]? with
    | some (.lst us) => match i with
      | .int k => match ixN us.length k with
        | some j => some (env, S2.set n (.lst (us.set j d)))
        | none => none
      | _ => none
    | some (.dic kvs) => match keyD i with
      | some k => if kvs.length < cap then some (env, S2.set n (.dic (putG kvs k d))) else none
      | none => none
    | _ => none
  | _ => none
def gFd (ks : List Str) (fo : FE) (f : Str) : FG := fun d env S => th (fo env S) fun o S1 => match o with
  | .ref n => match S1[n]? with
    | some (.ins k fs) => if k ∈ ks ∧ fs.length < 900 then some (env, S1.set n (.ins k (putF f d fs))) else none
    | _ => none
  | _ => none
theorem wipe_set {σ : L2.St} {i : Nat} {x : Option V} : ∀ {vs : List Nat}, i ∈ vs → wipe (σ.set i x) vs = wipe σ vs
  | [], h => nomatch h
  | v :: vs, h => by
    unfold wipe
    by_cases e : i ∈ vs
    · rw [wipe_set e]
    · have ev : i = v := by
        rcases List.mem_cons.mp h with e' | e'
        · exact e'
        · exact absurd e' e
      subst ev
      have : ∀ ws : List Nat, i ∉ ws → wipe (σ.set i x) ws = (wipe σ ws).set i x := by
        intro ws
        induction ws with
        | nil => intro _; rfl
        | cons w ws ih =>
          intro hw
          unfold wipe
          rw [ih (fun z => hw (List.mem_cons_of_mem _ z)), List.set_comm]
          intro z
          exact hw (by rw [z]; exact List.mem_cons_self)
      rw [this vs e, List.set_set]
section
variable {c : FC} {X : Cx} {vs : Option (List Nat)} {pos : Pos}
theorem PG.w {tg : Expr} {t t' : TG} (h : PG X tg t) (w : ∀ v σ H Q, t' v σ H Q → t v σ H Q) : PG X tg t' := ⟨fun pins s σ H v u Q I r q => h.run pins s σ H v u Q I r (w v σ H Q q)⟩
theorem PGs.w {tg : List Expr} {t t' : TGs} (h : PGs X tg t) (w : ∀ v σ H Q, t' v σ H Q → t v σ H Q) : PGs X tg t' := ⟨fun pins s σ H v u Q I r q => h.run pins s σ H v u Q I r (w v σ H Q q)⟩
theorem q_gnm {i : Nat} {x : Str} (hN : X.N.Nodup) (hi : X.N[i]? = some x := by rfl) (hv : ∀ ws, vs = some ws → i ∈ ws := by first | (intro _ h; cases h; decide) | (intro _ h; cases h)) (hx : Loc X.env.scope x := by first | exact Or.inl rfl | exact Or.inr rfl) (hf : X.fn x = true ∨ X.env.scope.names.lookup x = some .local := by first | exact .inl rfl | exact .inr rfl) :
    PG X (.Name x pos) (tG c vs (gNm i)) := by
  refine PG.w (pg_name hN hi hx hf) fun v σ H Q h => ?_
  obtain ⟨μ, env, S, d, env', S', he, hs, r, hg, ha⟩ := h
  cases hg
  exact ha μ H _ Ext.refl hs (he.set i r) fun ws e => wipe_set (hv ws e)
theorem q_gnil : PGs X [] (tGs c vs gNils) := by
  refine PGs.w pgs_nil fun v σ H Q h => ?_
  obtain ⟨μ, env, S, ds, env', S', he, hs, r, hg, ha⟩ := h
  unfold gNils at hg
  split at hg
  · cases hg
    obtain rfl : v = [] := r
    exact ⟨rfl, ha μ H _ Ext.refl hs he fun _ _ => rfl⟩
  · cases hg
theorem q_gcns {e : Expr} {es : List Expr} {g : FG} {gs : FGs} (h1 : PG X e (tG c vs g)) (h2 : PGs X es (tGs c vs gs)) (hs : (assignEach (e :: es) X.env).map (·.2) = assign e X.env :: (assignEach es X.env).map (·.2) := by rfl) : PGs X (e :: es) (tGs c vs (gCns g gs)) := by
  refine PGs.w (pgs_cons h1 h2 hs) fun v σ H Q h => ?_
  obtain ⟨μ, env, S, ds, env', S', he, hs, r, hg, ha⟩ := h
  unfold gCns at hg
  split at hg
  · rename_i d rest
    obtain ⟨env1, S1, g1, hg⟩ := th_inv hg
    obtain ⟨x, xs, rfl, r1, r2⟩ := r
    refine ⟨x, xs, rfl, μ, env, S, d, env1, S1, he, hs, r1, g1, fun μ1 H1 σ1 e1 k1 q1 w1 => ?_⟩
    exact ⟨μ1, env1, S1, rest, env', S', q1, k1, Reps.mono e1 _ _ r2, hg, fun μ2 H2 σ2 e2 k2 q2 w2 => ha μ2 H2 σ2 (e1.trans e2) k2 q2 fun ws e => (w2 ws e).trans (w1 ws e)⟩
  · cases hg
theorem q_gtp (hK : c.K = X.K) (hc : X.calm = true) {es : List Expr} {k n : Nat} {gs : FGs} (h : PGs X es (tGs c vs gs)) (hn : (assignEach es X.env).length = n := by rfl) (hst : (assignEach es X.env).findIdx? (·.1) = none := by rfl) : PG X (.Tuple es k pos) (tG c vs (gTp n gs)) := by
  refine PG.w (pg_tup hc h hn hst) fun v σ H Q h => ?_
  obtain ⟨μ, env, S, d, env', S', he, hs, r, hg, ha⟩ := h
  unfold gTp at hg
  split at hg
  · rename_i ds
    split at hg
    · rename_i hl
      obtain ⟨a, xs, rfl, q, rr⟩ := r
      exact ⟨a, xs, rfl, by rw [← hK]; exact q.sq, by rw [rr.len]; exact hl, μ, env, S, ds, env', S', he, hs, rr, hg, ha⟩
    · cases hg
  · rename_i ds
    split at hg
    · rename_i hl
      obtain ⟨a, xs, rfl, q, rr⟩ := r
      exact ⟨a, xs, rfl, by rw [← hK]; exact q, by rw [rr.len]; exact hl, μ, env, S, ds, env', S', he, hs, rr, hg, ha⟩
    · cases hg
  · cases hg
def PSet.or {t t' : TSet} (h : PSet X t) (h' : PSet X t') : PSet X (fun o i v H Q => t o i v H Q ∨ t' o i v H Q) := fun pins s σ H o i v ov iv u Q I r1 r2 r3 q =>
  q.elim (h pins s σ H o i v ov iv u Q I r1 r2 r3) (h' pins s σ H o i v ov iv u Q I r1 r2 r3)
theorem q_gix (hu : X.A.units + 64 < cLine) {o i : Expr} {fo fi : FE} (ho : PE X o (tE c fo)) (hi : PE X i (tE c fi))
    (ha : ∀ v, assign (.Subscript o i pos) X.env v = (do
      let ov ← holding [v] (eval o X.env)
      let iv ← holding [v, ov] (eval i X.env)
      standAt pos
      holding [v, ov, iv] (setItem ov iv v)
      release [v, ov, iv] []) := by intro _; rfl) : PG X (.Subscript o i pos) (tG c none (gIx fo fi)) := by
  refine PG.w (pg_sub ho hi (PSet.or set_list (set_dict (by omega))) ha) fun v σ H Q h => ?_
  obtain ⟨μ, env, S, d, env', S', he, hs, r, hg, ha⟩ := h
  obtain ⟨ov, S1, h1, hg⟩ := th_inv hg
  obtain ⟨iv, S2, h2, hg⟩ := th_inv hg
  refine ⟨μ, env, S, ov, S1, he, hs, h1, fun μ1 H1 w e1 k1 r1 => ?_⟩
  refine ⟨μ1, env, S1, iv, S2, he.mono e1, k1, h2, fun μ2 H2 y e2 k2 r2 => ?_⟩
  cases ov with
  | ref n =>
    obtain ⟨a, ha1, rfl⟩ := r1
    simp only at hg
    split at hg
    · rename_i us g1
      split at hg
      · rename_i k
        split at hg
        · rename_i j g2
          cases hg
          obtain ⟨a', g4, ys, q, rr⟩ := k2.stands _ _ g1
          rw [e2.pre _ _ ha1] at g4
          cases g4
          obtain rfl := (show y = .int _ from r2)
          obtain ⟨x1, x2⟩ := lst_set k2 g1 (e2.pre _ _ ha1) q (rr.set (Rep.mono e2 _ _ (Rep.mono e1 _ _ r)) j)
          exact .inl ⟨a, ys, k, j, rfl, rfl, q, by rw [rr.len]; exact g2, ha _ _ _ ((e1.trans e2).trans x1) x2 (((he.mono e1).mono e2).mono x1) fun _ _ => rfl⟩
        · cases hg
      · cases hg
    · rename_i kvs g1
      split at hg
      · rename_i k g2
        split at hg
        · rename_i hz
          cases hg
          obtain ⟨a', g4, ys, q, rr⟩ := k2.stands _ _ g1
          rw [e2.pre _ _ ha1] at g4
          cases g4
          obtain ⟨x1, x2⟩ := dic_set k2 g1 (e2.pre _ _ ha1) q (rr.put (k := k) (Rep.mono e2 _ _ (Rep.mono e1 _ _ r)))
          exact .inr ⟨a, _, rfl, .inl ⟨ys, k, q, keyD_rep r2 g2, by rw [rr.len]; exact cap_lt hz, rfl⟩, ha _ _ _ ((e1.trans e2).trans x1) x2 (((he.mono e1).mono e2).mono x1) fun _ _ => rfl⟩
        · cases hg
      · cases hg
    · cases hg
  | _ => cases hg
/-- o.f = .. as a target -/
def gAt (K : PySem.W.Frag) (to : TE) (f : Str) : TG := fun y σ H Q => to σ H fun x H2 => ∃ a C dx fs, x = .ref a ∧ H2 a = some (.ins C dx fs) ∧ Cls K C ∧ NoAttr K C f ∧ fs.length < 1000 ∧ Q σ (upd H2 a (.ins C dx (L2.putF f y fs)))
theorem pg_at {o : Expr} {to : TE} {f : Str} (ho : PE X o to) : PG X (.Attribute o f pos) (gAt X.K to f) := by
  refine ⟨fun pins s σ H y u Q I ry h => ?_⟩
  show wpAny _ _ (do
    let ov ← holding [u] (eval o X.env)
    standAt pos.atName
    holding [u, ov] (setAttr ov f u)
    release [u, ov] []) _ _ s
  refine wpAny_bind (wpAny_holding (thn (ho.run pins s σ H _ I h) fun ov s1 ⟨x, H1, I1, r1, a, C, dx, fs, ex, ea, c1, n1, l, q1⟩ => ?_))
  subst ex
  obtain rfl : ov = Value.ref a := r1
  refine wpAny_bind (wpAny_standAt (wpAny_bind (wpAny_holding (setattr_ok I1 ea c1 n1 l ry fun s3 I3 => ?_))))
  exact wpAny_release ⟨σ, _, I3, q1⟩
theorem q_gfd (hK : c.K = X.K) {ks : List Str} {o : Expr} {f : Str} {fo : FE} (h1 : ClsK c ks) (h2 : FldK c ks f) (ho : PE X o (tE c fo)) : PG X (.Attribute o f pos) (tG c none (gFd ks fo f)) := by
  refine PG.w (pg_at ho) fun v σ H Q h => ?_
  obtain ⟨μ, env, S, d, env', S', he, hs, r, hg, ha⟩ := h
  obtain ⟨ov, S1, g0, hg⟩ := th_inv hg
  refine ⟨μ, env, S, ov, S1, he, hs, g0, fun μ1 H1 w e1 k1 r1 => ?_⟩
  cases ov with
  | ref n =>
    obtain ⟨a, ha1, rfl⟩ := r1
    simp only at hg
    split at hg
    · rename_i k fs g1
      split at hg
      · rename_i hk
        cases hg
        obtain ⟨a', g4, dx, ys, q, rr⟩ := k1.stands _ _ g1
        rw [ha1] at g4
        cases g4
        obtain ⟨x1, x2⟩ := ins_set k1 g1 ha1 q (putF_rep (f := f) (Rep.mono e1 _ _ r) rr)
        exact ⟨a, c.ct k, dx, ys, rfl, q, by rw [← hK]; exact h1 k hk.1, by rw [← hK]; exact h2 k hk.1, by rw [rr.len]; omega, ha _ _ _ (e1.trans x1) x2 ((he.mono e1).mono x1) fun _ _ => rfl⟩
      · cases hg
    · cases hg
  | _ => cases hg

/-! ### assignments -/
def sAsg (fe : FE) (g : FG) : FS := fun env S => th (fe env S) fun d S1 => th (g d env S1) fun env1 S2 => some (.nx env1, S2)
theorem q_asg {tg e : Expr} {fe : FE} {g : FG} (he : PE X e (tE c fe)) (hg : PG X tg (tG c none g)) (hs : swapsWithSole [tg] e pos.line X.env = pure false := by rfl) (hw : swappedStores [tg] e X.env = pure none := by rfl)
    (h1 : (assignEach [tg] X.env).map (·.2) = [assign tg X.env] := by rfl) : PS X (.Assign [tg] e pos) (tS c (sAsg fe g)) := by
  refine PS.w (ps_asg he hg hs hw h1) fun Dn σ H h => ?_
  obtain ⟨μ, env, S, o, S', he, hs, hf, ha⟩ := h
  obtain ⟨d, S1, h1, hf⟩ := th_inv hf
  obtain ⟨env1, S2, h2, hf⟩ := th_inv hf
  cases hf
  refine ⟨μ, env, S, d, S1, he, hs, h1, fun μ1 H1 v e1 k1 r1 => ?_⟩
  exact ⟨μ1, env, S1, d, env1, _, he.mono e1, k1, r1, h2, fun μ2 H2 σ2 e2 k2 q2 _ => ha μ2 H2 (e1.trans e2) k2 σ2 q2⟩
/-- a, b = x, y of plain local names -/
def sPar (is : List Nat) (fr : FA) : FS := fun env S => th (fr env S) fun ds S1 => if ds.length = is.length then some (.nx ((is.zip ds).foldl (fun e p => e.set p.1 (some p.2)) env), S1) else none
theorem q_par2 {i j : Nat} {x y : Str} {a b : Expr} {fr : FA} {px py pt : Pos} {kt k2 pt2} (hc : X.calm = true) (hN : X.N.Nodup) (ha : PA X [a, b] (tA c fr)) (hi : X.N[i]? = some x := by rfl) (hj : X.N[j]? = some y := by rfl) (hij : i ≠ j := by decide)
    (hx : X.env.scope.names.lookup x = some .local := by rfl) (hy : X.env.scope.names.lookup y = some .local := by rfl)
    (hw : swappedStores [.Tuple [.Name x px, .Name y py] kt pt] (.Tuple [a, b] k2 pt2) X.env = pure (some [x, y]) := by rfl)
    (hs : swapsWithSole [.Tuple [.Name x px, .Name y py] kt pt] (.Tuple [a, b] k2 pt2) pos.line X.env = pure false := by rfl) :
    PS X (.Assign [.Tuple [.Name x px, .Name y py] kt pt] (.Tuple [a, b] k2 pt2) pos) (tS c (sPar [i, j] fr)) := by
  refine PS.w (ps_par hc hN hi hj hij hx hy ha hw hs) fun Dn σ H h => ?_
  obtain ⟨μ, env, S, o, S', he, hs, hf, ha⟩ := h
  obtain ⟨ds, S1, h1, hf⟩ := th_inv hf
  split at hf
  · rename_i hl
    cases hf
    refine ⟨μ, env, S, ds, _, he, hs, h1, fun μ1 H1 vs e1 k1 r1 => ?_⟩
    match ds, hl, r1, ha with
    | [d1, d2], _, r1, ha =>
      obtain ⟨v, w, rfl, ra, rb⟩ := r1.two_inv
      exact ⟨v, w, rfl, ha μ1 H1 e1 k1 _ (((he.mono e1).set i ra).set j rb)⟩
  · cases hf
theorem q_par3 {i j l : Nat} {x y z : Str} {a b d : Expr} {fr : FA} {px py pz pt : Pos} {kt k2 pt2}
    (h : PS X (.Assign [.Tuple [.Name x px, .Name y py, .Name z pz] kt pt] (.Tuple [a, b, d] k2 pt2) pos) (tPar3 i j l (tA c fr))) :
    PS X (.Assign [.Tuple [.Name x px, .Name y py, .Name z pz] kt pt] (.Tuple [a, b, d] k2 pt2) pos) (tS c (sPar [i, j, l] fr)) := by
  refine PS.w h fun Dn σ H h => ?_
  obtain ⟨μ, env, S, o, S', he, hs, hf, ha⟩ := h
  obtain ⟨ds, S1, h1, hf⟩ := th_inv hf
  split at hf
  · rename_i hl
    cases hf
    refine ⟨μ, env, S, ds, _, he, hs, h1, fun μ1 H1 vs e1 k1 r1 => ?_⟩
    match ds, hl, r1, ha with
    | [d1, d2, d3], _, r1, ha =>
      obtain ⟨v, vs', rfl, ra, rb⟩ := r1
      obtain ⟨w, u, rfl, rb, rc⟩ := rb.two_inv
      exact ⟨v, w, u, rfl, ha μ1 H1 e1 k1 _ ((((he.mono e1).set i ra).set j rb).set l rc)⟩
  · cases hf
/-- name op= e -/
def sAug (i : Nat) (r : F2) (fe : FE) : FS := fun env S => match env[i]? with
  | some (some x) => th (fe env S) fun y S1 => th (r x y S1) fun z S2 => some (.nx (env.set i (some z)), S2)
  | _ => none
def PIp.w {op : Operator} {t t' : TIp} (h : PIp X op t) (w : ∀ x y H Q, t' x y H Q → t x y H Q) : PIp X op t' := fun pins s σ H x y v u Q I r1 r2 q => h pins s σ H x y v u Q I r1 r2 (w x y H Q q)
theorem q_aug {i : Nat} {x : Str} {e : Expr} {fe : FE} {r : F2} {op : Operator} {pos' : Pos} (hN : X.N.Nodup) (he : PE X e (tE c fe)) (ho : PIp X op (r2 c r)) (hi : X.N[i]? = some x := by rfl) (hx : Loc X.env.scope x := by first | exact Or.inl rfl | exact Or.inr rfl) (hf : X.fn x = true ∨ X.env.scope.names.lookup x = some .local := by first | exact .inl rfl | exact .inr rfl) :
    PS X (.AugAssign (.Name x pos') op e pos) (tS c (sAug i r fe)) := by
  refine PS.w (ps_aug hN hi hx he ho hf) fun Dn σ H h => ?_
  obtain ⟨μ, env, S, o, S', he, hs, hf, ha⟩ := h
  unfold sAug at hf
  split at hf
  · rename_i d g1
    obtain ⟨y, S1, h1, hf⟩ := th_inv hf
    obtain ⟨z, S2, h2, hf⟩ := th_inv hf
    cases hf
    obtain ⟨v, e1, r1⟩ := he.2 i d g1
    refine ⟨v, e1, μ, env, S, y, S1, he, hs, h1, fun μ1 H1 w x1 k1 q1 => ?_⟩
    exact ⟨μ1, S1, d, y, z, _, k1, Rep.mono x1 _ _ r1, q1, h2, fun μ2 H2 u x2 k2 q2 => ha μ2 H2 (x1.trans x2) k2 _ ((((he.mono x1).mono x2)).set i q2)⟩
  · cases hf
/-- o.f op= e -/
def sAugF (ks : List Str) (fo : FE) (f : Str) (r : F2) (fe : FE) : FS := fun env S => th (fo env S) fun o S1 => match o with
  | .ref n => match S1[n]? with
    | some (.ins k fs) => if k ∈ ks then match fs.lookup f with
      | some x => th (fe env S1) fun y S2 => th (r x y S2) fun z S3 => match S3[n]? with
        | some (.ins k' fs') => if k' = k ∧ fs'.length < 900 then some (.nx env, S3.set n (.ins k (putF f z fs'))) else none
        | _ => none
      | none => none
      else none
    | _ => none
  | _ => none
theorem q_augf (hK : c.K = X.K) {ks : List Str} {o e : Expr} {f : Str} {fo fe : FE} {r : F2} {op : Operator} {tpos : Pos} (h1 : ClsK c ks) (h2 : FldK c ks f) (ho : PE X o (tE c fo)) (he : PE X e (tE c fe)) (hop : InOp X op (r2 c r)) : PS X (.AugAssign (.Attribute o f tpos) op e pos) (tS c (sAugF ks fo f r fe)) := by
  refine PS.w (ps_fldaug ho he hop) fun Dn σ H h => ?_
  obtain ⟨μ, env, S, ou, S', he, hs, hf0, ha⟩ := h
  obtain ⟨ov, S1, g0, hf⟩ := th_inv hf0
  clear hf0
  refine ⟨μ, env, S, ov, S1, he, hs, g0, fun μ1 H1 w e1 k1 r1 => ?_⟩
  cases ov with
  | ref n =>
    obtain ⟨a, ha1, rfl⟩ := r1
    simp only at hf
    split at hf
    · rename_i k fs g1
      split at hf
      · rename_i hk
        split at hf
        · rename_i xd g2
          obtain ⟨y, S2, g3, hf⟩ := th_inv hf
          obtain ⟨z, S3, g4, hf⟩ := th_inv hf
          obtain ⟨a', g5, dx, ys, q, rr⟩ := k1.stands _ _ g1
          rw [ha1] at g5
          cases g5
          obtain ⟨v, e5, e6⟩ := fs_lookup rr g2
          refine ⟨a, c.ct k, dx, ys, v, rfl, q, by rw [← hK]; exact h1 k hk, by rw [← hK]; exact h2 k hk, e5, μ1, env, S1, y, S2, he.mono e1, k1, g3, fun μ2 H2 w e2 k2 r2 => ?_⟩
          refine ⟨μ2, S2, xd, y, z, S3, k2, Rep.mono e2 _ _ e6, r2, g4, fun μ3 H3 u e3 k3 r3 => ?_⟩
          split at hf
          · rename_i k' fs' g6
            split at hf
            · rename_i hk'
              obtain ⟨hk1, hk2⟩ := hk'
              subst hk1
              cases hf
              obtain ⟨a', g7, dx', ys', q', rr'⟩ := k3.stands _ _ g6
              have ha3 := e3.pre _ _ (e2.pre _ _ ha1)
              rw [ha3] at g7
              cases g7
              obtain ⟨x1, x2⟩ := ins_set k3 g6 ha3 q' (putF_rep (f := f) r3 rr')
              exact ⟨dx', ys', q', by rw [rr'.len]; omega, ha _ _ (((e1.trans e2).trans e3).trans x1) x2 _ ((((he.mono e1).mono e2).mono e3).mono x1)⟩
            · cases hf
          · cases hf
        · cases hf
      · cases hf
    · cases hf
  | _ => cases hf
/-- d[k] op= e, xs[i] op= e -/
def sAugS (fo fi : FE) (r : F2) (fe : FE) : FS := fun env S => th (fo env S) fun o S1 => th (fi env S1) fun i S2 => th (oIx o i S2) fun x S3 => th (fe env S3) fun y S4 => th (r x y S4) fun z S5 => th (gIx (eC o) (eC i) z env S5) fun env1 S6 => some (.nx env1, S6)
end
end FL
/-! FL8: loops, what they walk, comprehensions, defs. -/
namespace FL
open PySem PySem.Spec PyProof.Rows L2

/-! ### while -/
def whileN (t : FT) (b : FS) : Nat → FS
  | 0 => fun _ _ => none
  | n + 1 => fun env S => th (t env S) fun k S1 => if k = true then th (b env S1) fun o S2 => match o with
    | .nx e => whileN t b n e S2
    | .ct e => whileN t b n e S2
    | .bk e => some (.nx e, S2)
    | .rt d => some (.rt d, S2)
    else some (.nx env, S1)
/-- the most turns of a while -/
def fuel : Nat := 1000000
def sWhile (t : FT) (b : FS) : FS := whileN t b fuel
section
variable {c : FC} {X : Cx}
theorem q_while {cd : Expr} {body : List Stmt} {ft : FT} {fb : FS} {pos : Pos} (hp : PassesOwn (model X.prog X.w) X.A X.env X.xe) (hc : PT X cd (tT c ft)) (hb : PSs X body (tS c fb)) : PS X (.While cd body [] pos) (tS c (sWhile ft fb)) := by
  refine PS.w (ps_while hp hc hb) fun Dn σ H h => ?_
  obtain ⟨μ, env, S, o, S', he, hs, hf, ha⟩ := h
  refine ⟨fun m σ1 H1 => ∃ μ1 env1 S1, Ext c μ H μ1 H1 ∧ EnvOk c μ1 H1 env1 σ1 ∧ StoOk c μ1 S1 H1 ∧ whileN ft fb m env1 S1 = some (o, S'), ⟨fuel, μ, env, S, Ext.refl, he, hs, hf⟩, ?_⟩
  rintro m σ1 H1 ⟨μ1, env1, S1, e1, r1, k1, hw⟩
  cases m with
  | zero => cases hw
  | succ m =>
    obtain ⟨k, S2, h2, hw⟩ := th_inv hw
    refine ⟨μ1, env1, S1, k, S2, r1, k1, h2, fun μ2 H2 e2 k2 => ?_⟩
    have ha2 := (ha.ext e1).ext e2
    cases k with
    | true =>
      rw [if_pos rfl] at hw
      refine iteT ?_
      obtain ⟨o3, S3, h3, hw⟩ := th_inv hw
      refine ⟨fun σ' H' => ∃ μ1 env1 S1, Ext c μ H μ1 H' ∧ EnvOk c μ1 H' env1 σ' ∧ StoOk c μ1 S1 H' ∧ whileN ft fb m env1 S1 = some (o, S'), fun σ' H' q => ⟨m, Nat.lt_succ_self m, q⟩, ?_⟩
      refine ⟨μ2, env1, S2, o3, S3, r1.mono e2, k2, h3, fun μ3 H3 e3 k3 => ?_⟩
      cases o3 with
      | nx e => exact fun σ3 r3 => ⟨μ3, e, S3, (e1.trans e2).trans e3, r3, k3, hw⟩
      | ct e => exact fun σ3 r3 => ⟨μ3, e, S3, (e1.trans e2).trans e3, r3, k3, hw⟩
      | bk e =>
        cases hw
        exact fun σ3 r3 => ha2 μ3 H3 e3 k3 σ3 r3
      | rt d =>
        cases hw
        exact fun v r3 => ha2 μ3 H3 e3 k3 v r3
    | false =>
      rw [if_neg Bool.false_ne_true] at hw
      refine iteF ?_
      cases hw
      exact ha2.nx k2 (r1.mono e2)
end

/-! ### what is walked -/
structure ItD where
  it : Sto → Nat → Option (Option D)
  len : Nat
def ItD.fix (ds : List D) : ItD := ⟨fun _ i => some (ds[i]?), ds.length⟩
def ItD.lst (n k : Nat) : ItD := ⟨fun S i => (getL S n).map fun ds => ds[i]?, k⟩
/-- the keys of a dict that is locked -/
def ItD.keys (n k : Nat) : ItD := ⟨fun S i => match S[n]? with
  | some (.lck kvs) => some ((kvs[i]?).map fun kv => dKey kv.1)
  | _ => none, k⟩
def ItD.items (n k : Nat) : ItD := ⟨fun S i => match S[n]? with
  | some (.lck kvs) => some ((kvs[i]?).map fun kv => .pr [dKey kv.1, kv.2])
  | _ => none, k⟩
def ItD.vals (n k : Nat) : ItD := ⟨fun S i => match S[n]? with
  | some (.lck kvs) => some ((kvs[i]?).map fun kv => kv.2)
  | _ => none, k⟩
def ItD.enum (n k : Nat) : ItD := ⟨fun S i => (getL S n).map fun ds => (ds[i]?).map fun d => .pr [.int i, d], k⟩
def ItD.zip (n m k : Nat) : ItD := ⟨fun S i => match getL S n, getL S m with
  | some ds, some es => match ds[i]?, es[i]? with
    | some d, some e => some (some (.pr [d, e]))
    | _, _ => some none
  | _, _ => none, k⟩
abbrev FI := Env → Sto → Option (ItD × Sto)
def ItOk (c : FC) (μ0 : List Addr) (H0 : Hp) (it : ItD) (J : It) : Prop := ∀ μ H S, Ext c μ0 H0 μ H → StoOk c μ S H → ∀ i, (it.it S i = some none → J.stop i H) ∧
  ∀ d, it.it S i = some (some d) → J.go i H ∧ ∀ x H', J.yld i H x H' → ∃ μ', Ext c μ H μ' H' ∧ StoOk c μ' S H' ∧ Rep c μ' H' d x
def tI (c : FC) (fi : FI) : TI := fun σ H R => ∃ μ env S it S', EnvOk c μ H env σ ∧ StoOk c μ S H ∧ fi env S = some (it, S') ∧ ∀ μ' H' J, Ext c μ H μ' H' → StoOk c μ' S' H' → ItOk c μ' H' it J → R J H'
def iSeq (fe : FE) : FI := fun env S => th (fe env S) fun d S1 => match d with
  | .tup ds => some (.fix ds, S1)
  | .str z => some (.fix (z.cps.toList.map fun k => .str ⟨#[k]⟩), S1)
  | .ref n => match S1[n]? with
    | some (.lst ds) => some (.lst n ds.length, S1)
    | some (.ro ds) => some (.lst n ds.length, S1)
    | some (.lck kvs) => some (.keys n kvs.length, S1)
    | _ => none
  | _ => none
def rngD (lo : Int) (n : Nat) : List D := (List.range n).map fun (k : Nat) => D.int (lo + k)
def iRng1 (fr : FA) : FI := fun env S => th (fr env S) fun ds S1 => match ds with
  | [.int j] => if (decide (-4611686018427387904 ≤ j) && decide (j < 4611686018427387904)) = true then some (.fix (rngD 0 j.toNat), S1) else none
  | _ => none
def iRng2 (fr : FA) : FI := fun env S => th (fr env S) fun ds S1 => match ds with
  | [.int i, .int j] => if (decide (-4611686018427387904 ≤ i) && decide (i < 4611686018427387904) && decide (-4611686018427387904 ≤ j) && decide (j < 4611686018427387904)) = true then some (.fix (rngD i (j - i).toNat), S1) else none
  | _ => none
def iItems (fe : FE) : FI := fun env S => th (fe env S) fun d S1 => match d with
  | .ref n => match S1[n]? with
    | some (.lck kvs) => some (.items n kvs.length, S1)
    | _ => none
  | _ => none
def iVals (fe : FE) : FI := fun env S => th (fe env S) fun d S1 => match d with
  | .ref n => match S1[n]? with
    | some (.lck kvs) => some (.vals n kvs.length, S1)
    | _ => none
  | _ => none
def iEnum (fr : FA) : FI := fun env S => th (fr env S) fun ds S1 => match ds with
  | [.ref n] => (getL S1 n).map fun us => (.enum n us.length, S1)
  | _ => none
def iZip (fr : FA) : FI := fun env S => th (fr env S) fun ds S1 => match ds with
  | [.ref n, .ref m] => match getL S1 n, getL S1 m with
    | some us, some ws => some (.zip n m (min us.length ws.length), S1)
    | _, _ => none
  | [.tup us, .tup ws] => some (.fix ((us.zip ws).map fun p => .pr [p.1, p.2]), S1)
  | _ => none
section
variable {c : FC} {X : Cx} {tg e : Expr} {fe : FE} {fr : FA}
theorem PI.w {iter : Expr} {t t' : TI} (h : PI X tg iter t) (w : ∀ σ H R, t' σ H R → t σ H R) : PI X tg iter t' := ⟨fun pins s σ H R I q => h.run pins s σ H R I (w σ H R q)⟩
theorem PI.or {iter : Expr} {t t' : TI} (h : PI X tg iter t) (h' : PI X tg iter t') : PI X tg iter (fun σ H R => t σ H R ∨ t' σ H R) := ⟨fun pins s σ H R I q => q.elim (h.run pins s σ H R I) (h'.run pins s σ H R I)⟩
theorem itok_list (hK : c.K = X.K) {μ : List Addr} {H : Hp} {n k : Nat} {a : Addr} (ha : μ[n]? = some a) : ItOk c μ H (.lst n k) (Itl X.K a) := by
  intro μ1 H1 S1 e1 k1 i
  have ha1 := e1.pre _ _ ha
  refine ⟨fun h => ?_, fun d h => ?_⟩
  · obtain ⟨ds, g1, g2⟩ := Option.map_eq_some_iff.mp h
    obtain ⟨a', xs, g3, q, r⟩ := getL_sq k1 g1
    rw [ha1] at g3
    cases g3
    exact ⟨xs, by rw [← hK]; exact q, by rw [r.len]; exact List.getElem?_eq_none_iff.mp g2⟩
  · obtain ⟨ds, g1, g2⟩ := Option.map_eq_some_iff.mp h
    obtain ⟨a', xs, g3, q, r⟩ := getL_sq k1 g1
    rw [ha1] at g3
    cases g3
    obtain ⟨v, e4, rv⟩ := r.get g2
    refine ⟨⟨xs, v, by rw [← hK]; exact q, e4⟩, fun x H' y => ?_⟩
    obtain ⟨rfl, fv⟩ := y
    have ex : x = v := by
      have := (fv xs (by rw [← hK]; exact q)).symm.trans e4
      exact Option.some.inj this
    subst ex
    exact ⟨μ1, Ext.refl, k1, rv⟩
theorem itok_tup (hK : c.K = X.K) {μ : List Addr} {H : Hp} {ds : List D} {a : Addr} {xs : List V} (q : SqT c.K H a xs) (r : Reps c μ H ds xs) : ItOk c μ H (.fix ds) (Itt X.K a) := by
  intro μ1 H1 S1 e1 k1 i
  have q1 := e1.tup _ _ q
  have r1 := Reps.mono e1 _ _ r
  refine ⟨fun h => ?_, fun d h => ?_⟩
  · exact ⟨xs, by rw [← hK]; exact q1, by rw [r1.len]; exact List.getElem?_eq_none_iff.mp (Option.some.inj h)⟩
  · obtain ⟨v, e4, rv⟩ := r1.get (Option.some.inj h)
    refine ⟨⟨xs, v, by rw [← hK]; exact q1, e4⟩, fun x H' y => ?_⟩
    obtain ⟨rfl, fv⟩ := y
    have ex : x = v := Option.some.inj ((fv xs (by rw [← hK]; exact q1)).symm.trans e4)
    subst ex
    exact ⟨μ1, Ext.refl, k1, rv⟩
theorem lck_at {μ : List Addr} {S : Sto} {H : Hp} {n : Nat} {kvs : List (Key × D)} {a : Addr} {o : Obj} {ys : List (Key × V)} (k : StoOk c μ S H) (g : S[n]? = some (.lck kvs)) (ha : μ[n]? = some a) (hf : H a = some (.frz o (.dK ys))) : RepKV c μ H kvs ys := by
  obtain ⟨a', e1, o', ys', q, r⟩ := k.stands _ _ g
  rw [ha] at e1
  cases e1
  rw [hf] at q
  cases q
  exact r
theorem kv_get {κ : Type} [DecidableEq κ] {μ : List Addr} {H : Hp} : ∀ {kvs : List (κ × D)} {ys : List (κ × V)} {i : Nat}, RepKV c μ H kvs ys → (kvs[i]? = none → ys.length ≤ i) ∧ ∀ k d, kvs[i]? = some (k, d) → ∃ v, ys[i]? = some (k, v) ∧ Rep c μ H d v
  | [], ys, i, h => by
    rw [h.inv0]
    exact ⟨fun _ => Nat.zero_le _, fun k d e => by simp at e⟩
  | (k', d') :: kvs, ys, 0, h => by
    obtain ⟨v, ys', rfl, r, h2⟩ := h.inv
    refine ⟨fun e => by simp at e, fun k d e => ?_⟩
    have e' : (k', d') = (k, d) := by simpa using e
    cases e'
    exact ⟨v, rfl, r⟩
  | (k', d') :: kvs, ys, i + 1, h => by
    obtain ⟨v, ys', rfl, r, h2⟩ := h.inv
    obtain ⟨i1, i2⟩ := kv_get (i := i) h2
    refine ⟨fun e => ?_, fun k d e => ?_⟩
    · rw [List.length_cons]
      have := i1 (by simpa using e)
      omega
    · obtain ⟨w, e1, e2⟩ := i2 k d (by simpa using e)
      exact ⟨w, by simpa using e1, e2⟩
theorem q_iseq (hK : c.K = X.K) (h : PE X e (tE c fe)) : PI X tg e (tI c (iSeq fe)) := by
  refine PI.w (PI.or (PI.or (pi_list h) (pi_tup h)) (PI.or (pi_str h) (pi_keys h))) fun σ H R h => ?_
  obtain ⟨μ, env, S, it, S', he, hs, hf, ha⟩ := h
  obtain ⟨d, S1, h1, hf⟩ := th_inv hf
  cases d with
  | tup ds =>
    cases hf
    refine .inl (.inr ⟨μ, env, S, _, _, he, hs, h1, fun μ1 H1 v e1 k1 r1 => ?_⟩)
    obtain ⟨a, xs, rfl, q, r⟩ := r1
    exact ⟨a, rfl, ⟨xs, by rw [← hK]; exact q.sq⟩, ha _ _ _ e1 k1 (itok_tup hK q.sq r)⟩
  | str z =>
    cases hf
    refine .inr (.inl ⟨μ, env, S, _, _, he, hs, h1, fun μ1 H1 v e1 k1 r1 => ?_⟩)
    obtain rfl := (show v = .str z from r1)
    refine ⟨z, rfl, ha _ _ _ e1 k1 ?_⟩
    intro μ2 H2 S2 e2 k2 i
    refine ⟨fun g => ?_, fun d g => ?_⟩
    · have := List.getElem?_eq_none_iff.mp (Option.some.inj g)
      rw [List.length_map, Array.length_toList] at this
      exact this
    · have g' := Option.some.inj g
      rw [List.getElem?_map] at g'
      obtain ⟨k, g1, g2⟩ := Option.map_eq_some_iff.mp g'
      rw [Array.getElem?_toList] at g1
      refine ⟨(Array.getElem?_eq_some_iff.mp g1).1, fun x H' y => ?_⟩
      obtain ⟨rfl, k', g3, rfl⟩ := y
      rw [g1] at g3
      cases g3
      subst g2
      exact ⟨μ2, Ext.refl, k2, rfl⟩
  | ref n =>
    simp only at hf
    split at hf
    · rename_i ds g1
      cases hf
      refine .inl (.inl ⟨μ, env, S, _, _, he, hs, h1, fun μ1 H1 v e1 k1 r1 => ?_⟩)
      obtain ⟨a, ha1, rfl⟩ := r1
      obtain ⟨a', xs, g3, q, r⟩ := getL_sq k1 (show getL S' n = some ds by unfold getL; rw [g1])
      rw [ha1] at g3
      cases g3
      exact ⟨a, rfl, ⟨xs, by rw [← hK]; exact q⟩, ha _ _ _ e1 k1 (itok_list hK ha1)⟩
    · rename_i ds g1
      cases hf
      refine .inl (.inl ⟨μ, env, S, _, _, he, hs, h1, fun μ1 H1 v e1 k1 r1 => ?_⟩)
      obtain ⟨a, ha1, rfl⟩ := r1
      obtain ⟨a', xs, g3, q, r⟩ := getL_sq k1 (show getL S' n = some ds by unfold getL; rw [g1])
      rw [ha1] at g3
      cases g3
      exact ⟨a, rfl, ⟨xs, by rw [← hK]; exact q⟩, ha _ _ _ e1 k1 (itok_list hK ha1)⟩
    · rename_i kvs g1
      cases hf
      refine .inr (.inr ⟨μ, env, S, _, _, he, hs, h1, fun μ1 H1 v e1 k1 r1 => ?_⟩)
      obtain ⟨a, ha1, rfl⟩ := r1
      obtain ⟨a', g3, o, ys, q, r⟩ := k1.stands _ _ g1
      rw [ha1] at g3
      cases g3
      refine ⟨a, o, rfl, .inl ⟨ys, q, ha _ _ _ e1 k1 ?_⟩⟩
      intro μ2 H2 S2 e2 k2 i
      have q2 := e2.frz _ _ _ q
      have ha2 := e2.pre _ _ ha1
      refine ⟨fun g => ?_, fun d g => ?_⟩
      · unfold ItD.keys at g
        simp only at g
        split at g
        · rename_i kvs2 g4
          have r2 := lck_at k2 g4 ha2 q2
          refine ⟨q2, (kv_get (i := i) r2).1 ?_⟩
          have g' := Option.some.inj g
          cases hx : kvs2[i]? with
          | none => rfl
          | some p => rw [hx] at g'; cases g'
        · cases g
      · unfold ItD.keys at g
        simp only at g
        split at g
        · rename_i kvs2 g4
          have r2 := lck_at k2 g4 ha2 q2
          obtain ⟨p, g5, g6⟩ := Option.map_eq_some_iff.mp (Option.some.inj g)
          obtain ⟨v, g7, rv⟩ := (kv_get (i := i) r2).2 p.1 p.2 g5
          refine ⟨⟨q2, (List.getElem?_eq_some_iff.mp g7).1⟩, fun x H' y => ?_⟩
          obtain ⟨rfl, k', v', g8, rfl⟩ := y
          rw [g7] at g8
          cases g8
          subst g6
          exact ⟨μ2, Ext.refl, k2, dKey_rep _⟩
        · cases g
    · cases hf
  | _ => cases hf
theorem rng_ok {μ : List Addr} {H : Hp} (lo : Int) (n : Nat) : ItOk c μ H (.fix (rngD lo n)) (Itr lo n) := by
  intro μ2 H2 S2 e2 k2 i
  refine ⟨fun g => ?_, fun d g => ?_⟩
  · have := List.getElem?_eq_none_iff.mp (Option.some.inj g)
    unfold rngD at this
    rw [List.length_map, List.length_range] at this
    exact this
  · have g' := Option.some.inj g
    unfold rngD at g'
    rw [List.getElem?_map] at g'
    obtain ⟨k, g1, g2⟩ := Option.map_eq_some_iff.mp g'
    have hk := List.getElem?_eq_some_iff.mp g1
    obtain ⟨hk1, hk2⟩ := hk
    rw [List.length_range] at hk1
    rw [List.getElem_range] at hk2
    subst hk2
    refine ⟨hk1, fun x H' y => ?_⟩
    obtain ⟨rfl, rfl⟩ := y
    subst g2
    exact ⟨μ2, Ext.refl, k2, rfl⟩
theorem q_irng1 {a : Expr} {p pos : Pos} (hg : Gl X "range") (hm : X.mg "range" = none) (h : PA X [a] (tA c fr)) (hs : starEach [a] X.env = [(false, eval a X.env)] := by rfl) : PI X tg (.Call (.Name "range" p) [a] [] pos) (tI c (iRng1 fr)) := by
  refine PI.w ((pi_range1 hg hm h hs)) fun σ H R h => ?_
  obtain ⟨μ, env, S, it, S', he, hs, hf, ha⟩ := h
  obtain ⟨ds, S1, h1, hf⟩ := th_inv hf
  refine ⟨μ, env, S, ds, S1, he, hs, h1, fun μ1 H1 vs e1 k1 r1 => ?_⟩
  split at hf
  · rename_i j
    split at hf
    · rename_i hz
      cases hf
      rw [Bool.and_eq_true] at hz
      obtain ⟨z1, z2⟩ := hz
      have z1 := of_decide_eq_true z1
      have z2 := of_decide_eq_true z2
      obtain ⟨v, rfl, rv⟩ := r1.one_inv
      obtain rfl := (show v = .int j from rv)
      exact ⟨j, rfl, by omega, by omega, ha _ _ _ e1 k1 (rng_ok 0 _)⟩
    · cases hf
  · cases hf
theorem q_irng2 {a b : Expr} {p pos : Pos} (hg : Gl X "range") (hm : X.mg "range" = none) (h : PA X [a, b] (tA c fr)) (hs : starEach [a, b] X.env = [(false, eval a X.env), (false, eval b X.env)] := by rfl) (hs2 : starEach [b] X.env = [(false, eval b X.env)] := by rfl) : PI X tg (.Call (.Name "range" p) [a, b] [] pos) (tI c (iRng2 fr)) := by
  refine PI.w ((pi_range2 hg hm h hs hs2)) fun σ H R h => ?_
  obtain ⟨μ, env, S, it, S', he, hs, hf, ha⟩ := h
  obtain ⟨ds, S1, h1, hf⟩ := th_inv hf
  refine ⟨μ, env, S, ds, S1, he, hs, h1, fun μ1 H1 vs e1 k1 r1 => ?_⟩
  split at hf
  · rename_i i j
    split at hf
    · rename_i hz
      cases hf
      rw [Bool.and_eq_true, Bool.and_eq_true, Bool.and_eq_true] at hz
      obtain ⟨⟨⟨z1, z2⟩, z3⟩, z4⟩ := hz
      have z1 := of_decide_eq_true z1
      have z2 := of_decide_eq_true z2
      have z3 := of_decide_eq_true z3
      have z4 := of_decide_eq_true z4
      obtain ⟨v, w, rfl, rv, rw1⟩ := r1.two_inv
      obtain rfl := (show v = .int i from rv)
      obtain rfl := (show w = .int j from rw1)
      exact ⟨i, j, rfl, ⟨by omega, by omega, by omega, by omega⟩, ha _ _ _ e1 k1 (rng_ok i _)⟩
    · cases hf
  · cases hf
theorem itok_items {μ : List Addr} {S : Sto} {H : Hp} {n k : Nat} {a : Addr} {o : Obj} {ys : List (Key × V)} (ha1 : μ[n]? = some a) (q : H a = some (.frz o (.dK ys))) : ItOk c μ H (.items n k) (Iti a o ys) := by
  intro μ2 H2 S2 e2 k2 i
  have q2 := e2.frz _ _ _ q
  have ha2 := e2.pre _ _ ha1
  refine ⟨fun g => ?_, fun d g => ?_⟩
  · unfold ItD.items at g
    simp only at g
    split at g
    · rename_i kvs2 g4
      have r2 := lck_at k2 g4 ha2 q2
      refine ⟨q2, (kv_get (i := i) r2).1 ?_⟩
      have g' := Option.some.inj g
      cases hx : kvs2[i]? with
      | none => rfl
      | some p => rw [hx] at g'; cases g'
    · cases g
  · unfold ItD.items at g
    simp only at g
    split at g
    · rename_i kvs2 g4
      have r2 := lck_at k2 g4 ha2 q2
      obtain ⟨p, g5, g6⟩ := Option.map_eq_some_iff.mp (Option.some.inj g)
      obtain ⟨v, g7, rv⟩ := (kv_get (i := i) r2).2 p.1 p.2 g5
      refine ⟨⟨q2, (List.getElem?_eq_some_iff.mp g7).1⟩, fun x H' y => ?_⟩
      obtain ⟨T, k', v', g8, rfl, hT, rfl⟩ := y
      rw [g7] at g8
      cases g8
      subst g6
      obtain ⟨x1, x2, x3⟩ := pr_new (ds := [dKey p.1, p.2]) (vs := [kV p.1, v]) k2 ⟨_, _, rfl, dKey_rep _, _, _, rfl, rv, rfl⟩ hT
      exact ⟨μ2, x1, x2, x3⟩
    · cases g
theorem itok_vals {μ : List Addr} {S : Sto} {H : Hp} {n k : Nat} {a : Addr} {o : Obj} {ys : List (Key × V)} (ha1 : μ[n]? = some a) (q : H a = some (.frz o (.dK ys))) : ItOk c μ H (.vals n k) (Itd a o ys) := by
  intro μ2 H2 S2 e2 k2 i
  have q2 := e2.frz _ _ _ q
  have ha2 := e2.pre _ _ ha1
  refine ⟨fun g => ?_, fun d g => ?_⟩
  · unfold ItD.vals at g
    simp only at g
    split at g
    · rename_i kvs2 g4
      have r2 := lck_at k2 g4 ha2 q2
      refine ⟨q2, (kv_get (i := i) r2).1 ?_⟩
      have g' := Option.some.inj g
      cases hx : kvs2[i]? with
      | none => rfl
      | some p => rw [hx] at g'; cases g'
    · cases g
  · unfold ItD.vals at g
    simp only at g
    split at g
    · rename_i kvs2 g4
      have r2 := lck_at k2 g4 ha2 q2
      obtain ⟨p, g5, g6⟩ := Option.map_eq_some_iff.mp (Option.some.inj g)
      obtain ⟨v, g7, rv⟩ := (kv_get (i := i) r2).2 p.1 p.2 g5
      refine ⟨⟨q2, (List.getElem?_eq_some_iff.mp g7).1⟩, fun x H' y => ?_⟩
      obtain ⟨rfl, k', g8⟩ := y
      rw [g7] at g8
      cases g8
      subst g6
      exact ⟨μ2, Ext.refl, k2, rv⟩
    · cases g
theorem q_iitems {elts : List Expr} {kk : Nat} {tpos apos cpos : Pos} (h : PI X (.Tuple elts kk tpos) (.Call (.Attribute e "items" apos) [] [] cpos) (L2.iItems (tE c fe))) : PI X (.Tuple elts kk tpos) (.Call (.Attribute e "items" apos) [] [] cpos) (tI c (iItems fe)) := by
  refine PI.w h fun σ H R h => ?_
  obtain ⟨μ, env, S, it, S', he, hs, hf, ha⟩ := h
  obtain ⟨d, S1, h1, hf⟩ := th_inv hf
  refine ⟨μ, env, S, d, S1, he, hs, h1, fun μ1 H1 v e1 k1 r1 => ?_⟩
  cases d with
  | ref n =>
    simp only at hf
    split at hf
    · rename_i kvs g1
      cases hf
      obtain ⟨a, ha1, rfl⟩ := r1
      obtain ⟨a', g3, o, ys, q, r⟩ := k1.stands _ _ g1
      rw [ha1] at g3
      cases g3
      exact ⟨a, o, ys, rfl, q, ha _ _ _ e1 k1 (itok_items (S := S') ha1 q)⟩
    · cases hf
  | _ => cases hf
theorem q_ivals {apos cpos : Pos} (h : PI X tg (.Call (.Attribute e "values" apos) [] [] cpos) (L2.iVals (tE c fe))) : PI X tg (.Call (.Attribute e "values" apos) [] [] cpos) (tI c (iVals fe)) := by
  refine PI.w h fun σ H R h => ?_
  obtain ⟨μ, env, S, it, S', he, hs, hf, ha⟩ := h
  obtain ⟨d, S1, h1, hf⟩ := th_inv hf
  refine ⟨μ, env, S, d, S1, he, hs, h1, fun μ1 H1 v e1 k1 r1 => ?_⟩
  cases d with
  | ref n =>
    simp only at hf
    split at hf
    · rename_i kvs g1
      cases hf
      obtain ⟨a, ha1, rfl⟩ := r1
      obtain ⟨a', g3, o, ys, q, r⟩ := k1.stands _ _ g1
      rw [ha1] at g3
      cases g3
      exact ⟨a, o, ys, rfl, q, ha _ _ _ e1 k1 (itok_vals (S := S') ha1 q)⟩
    · cases hf
  | _ => cases hf
theorem q_ienum (hK : c.K = X.K) {elts : List Expr} {kk : Nat} {tpos p pos : Pos} (h : PI X (.Tuple elts kk tpos) (.Call (.Name "enumerate" p) [e] [] pos) (L2.iEnum X.K (tA c fr))) : PI X (.Tuple elts kk tpos) (.Call (.Name "enumerate" p) [e] [] pos) (tI c (iEnum fr)) := by
  refine PI.w h fun σ H R h => ?_
  obtain ⟨μ, env, S, it, S', he, hs, hf, ha⟩ := h
  obtain ⟨ds, S1, h1, hf⟩ := th_inv hf
  refine ⟨μ, env, S, ds, S1, he, hs, h1, fun μ1 H1 vs e1 k1 r1 => ?_⟩
  split at hf
  · rename_i n
    obtain ⟨us, g1, g2⟩ := Option.map_eq_some_iff.mp hf
    cases g2
    obtain ⟨v, rfl, a, ha1, rfl⟩ := r1.one_inv
    obtain ⟨a', xs, g3, q, r⟩ := getL_sq k1 g1
    rw [ha1] at g3
    cases g3
    refine ⟨a, xs, rfl, by rw [← hK]; exact q, ha _ _ _ e1 k1 ?_⟩
    intro μ2 H2 S2 e2 k2 i
    have ha2 := e2.pre _ _ ha1
    refine ⟨fun g => ?_, fun d g => ?_⟩
    · obtain ⟨ds, g4, g5⟩ := Option.map_eq_some_iff.mp g
      obtain ⟨a', ys, g6, q2, r2⟩ := getL_sq k2 g4
      rw [ha2] at g6
      cases g6
      refine ⟨ys, by rw [← hK]; exact q2, ?_⟩
      rw [r2.len]
      cases hx : ds[i]? with
      | none => exact List.getElem?_eq_none_iff.mp hx
      | some p => rw [hx] at g5; cases g5
    · obtain ⟨ds, g4, g5⟩ := Option.map_eq_some_iff.mp g
      obtain ⟨a', ys, g6, q2, r2⟩ := getL_sq k2 g4
      rw [ha2] at g6
      cases g6
      obtain ⟨d', g7, g8⟩ := Option.map_eq_some_iff.mp g5
      obtain ⟨v, g9, rv⟩ := r2.get g7
      refine ⟨⟨ys, v, by rw [← hK]; exact q2, g9⟩, fun x H' y => ?_⟩
      obtain ⟨T, x', rfl, hT, rfl, fv⟩ := y
      have ex : x' = v := Option.some.inj ((fv ys (by rw [← hK]; exact q2)).symm.trans g9)
      subst ex
      subst g8
      obtain ⟨x1, x2, x3⟩ := pr_new (ds := [.int i, d']) (vs := [.int i, x']) k2 ⟨_, _, rfl, rfl, _, _, rfl, rv, rfl⟩ hT
      exact ⟨μ2, x1, x2, x3⟩
  · cases hf
theorem q_izip (hK : c.K = X.K) {e2 : Expr} {elts : List Expr} {kk : Nat} {tpos p pos : Pos} (h : PI X (.Tuple elts kk tpos) (.Call (.Name "zip" p) [e, e2] [] pos) (RZ.iZipA X.K (tA c fr))) : PI X (.Tuple elts kk tpos) (.Call (.Name "zip" p) [e, e2] [] pos) (tI c (iZip fr)) := by
  refine PI.w h fun σ H R h => ?_
  obtain ⟨μ, env, S, it, S', he, hs, hf, ha⟩ := h
  obtain ⟨ds, S1, h1, hf⟩ := th_inv hf
  refine ⟨μ, env, S, ds, S1, he, hs, h1, fun μ1 H1 vs e1 k1 r1 => ?_⟩
  split at hf
  · rename_i n m
    split at hf
    · rename_i us ws g1 g2
      cases hf
      obtain ⟨v, w, rfl, ⟨a, ha1, rfl⟩, b, hb1, rfl⟩ := r1.two_inv
      obtain ⟨a', xs, g3, q, r⟩ := getL_sq k1 g1
      rw [ha1] at g3
      cases g3
      obtain ⟨b', ys, g4, q', r'⟩ := getL_sq k1 g2
      rw [hb1] at g4
      cases g4
      refine ⟨a, b, xs, ys, rfl, .inl ⟨by rw [← hK]; exact q, by rw [← hK]; exact q', ha _ _ _ e1 k1 ?_⟩⟩
      intro μ2 H2 S2 e2 k2 i
      have ha2 := e2.pre _ _ ha1
      have hb2 := e2.pre _ _ hb1
      refine ⟨fun g => ?_, fun d g => ?_⟩
      · unfold ItD.zip at g
        simp only at g
        split at g
        · rename_i ds es g5 g6
          obtain ⟨a', xs2, g7, q2, r2⟩ := getL_sq k2 g5
          rw [ha2] at g7
          cases g7
          obtain ⟨b', ys2, g8, q3, r3⟩ := getL_sq k2 g6
          rw [hb2] at g8
          cases g8
          refine ⟨xs2, ys2, by rw [← hK]; exact q2, by rw [← hK]; exact q3, ?_⟩
          rw [r2.len, r3.len]
          split at g
          · cases g
          · rename_i nn
            by_cases hx : i < ds.length
            · by_cases hy : i < es.length
              · exact absurd (List.getElem?_eq_getElem hy) (nn _ _ (List.getElem?_eq_getElem hx))
              · exact .inr (by omega)
            · exact .inl (by omega)
        · cases g
      · unfold ItD.zip at g
        simp only at g
        split at g
        · rename_i ds es g5 g6
          obtain ⟨a', xs2, g7, q2, r2⟩ := getL_sq k2 g5
          rw [ha2] at g7
          cases g7
          obtain ⟨b', ys2, g8, q3, r3⟩ := getL_sq k2 g6
          rw [hb2] at g8
          cases g8
          split at g
          · rename_i d1 d2 g9 g10
            cases g
            obtain ⟨v1, g11, rv1⟩ := r2.get g9
            obtain ⟨v2, g12, rv2⟩ := r3.get g10
            refine ⟨⟨xs2, ys2, v1, v2, by rw [← hK]; exact q2, by rw [← hK]; exact q3, g11, g12⟩, fun x H' y => ?_⟩
            obtain ⟨T, x', y', rfl, hT, rfl, fv, fw⟩ := y
            have ex : x' = v1 := Option.some.inj ((fv xs2 (by rw [← hK]; exact q2)).symm.trans g11)
            have ey : y' = v2 := Option.some.inj ((fw ys2 (by rw [← hK]; exact q3)).symm.trans g12)
            subst ex
            subst ey
            obtain ⟨x1, x2, x3⟩ := pr_new (ds := [d1, d2]) (vs := [x', y']) k2 ⟨_, _, rfl, rv1, _, _, rfl, rv2, rfl⟩ hT
            exact ⟨μ2, x1, x2, x3⟩
          · cases g
        · cases g
    · cases hf
  · rename_i us ws
    cases hf
    obtain ⟨v, w, rfl, ⟨a, xs, rfl, q, r⟩, b, ys, rfl, q', r'⟩ := r1.two_inv
    refine ⟨a, b, xs, ys, rfl, .inr ⟨by rw [← hK]; exact q.sq, by rw [← hK]; exact q'.sq, ha _ _ _ e1 k1 ?_⟩⟩
    intro μ2 H2 S2 e2 k2 i
    have q2 := e2.tup _ _ q.sq
    have q3 := e2.tup _ _ q'.sq
    have r2 := Reps.mono e2 _ _ r
    have r3 := Reps.mono e2 _ _ r'
    refine ⟨fun g => ?_, fun d g => ?_⟩
    · refine ⟨xs, ys, by rw [← hK]; exact q2, by rw [← hK]; exact q3, ?_⟩
      have := List.getElem?_eq_none_iff.mp (Option.some.inj g)
      rw [List.length_map, List.length_zip] at this
      rw [r2.len, r3.len]
      omega
    · have g' := Option.some.inj g
      rw [List.getElem?_map] at g'
      obtain ⟨pr, g4, g5⟩ := Option.map_eq_some_iff.mp g'
      obtain ⟨g6, g7⟩ := List.getElem?_zip_eq_some.mp g4
      obtain ⟨v1, g11, rv1⟩ := r2.get g6
      obtain ⟨v2, g12, rv2⟩ := r3.get g7
      refine ⟨⟨xs, ys, v1, v2, by rw [← hK]; exact q2, by rw [← hK]; exact q3, g11, g12⟩, fun x H' y => ?_⟩
      obtain ⟨T, x', y', rfl, hT, rfl, fv, fw⟩ := y
      have ex : x' = v1 := Option.some.inj ((fv xs (by rw [← hK]; exact q2)).symm.trans g11)
      have ey : y' = v2 := Option.some.inj ((fw ys (by rw [← hK]; exact q3)).symm.trans g12)
      subst ex
      subst ey
      subst g5
      obtain ⟨x1, x2, x3⟩ := pr_new (ds := [pr.1, pr.2]) (vs := [x', y']) k2 ⟨_, _, rfl, rv1, _, _, rfl, rv2, rfl⟩ hT
      exact ⟨μ2, x1, x2, x3⟩
  · cases hf
end
end FL
/-! FL9: for loops, locks, comprehensions, defs. -/
namespace FL
open PySem PySem.Spec PyProof.Rows L2

/-! ### for -/
def forI (it : ItD) (g : FG) (b : FS) : Nat → Nat → FS
  | 0, _ => fun _ _ => none
  | m + 1, i => fun env S => match it.it S i with
    | some (some d) => th (g d env S) fun env1 S1 => th (b env1 S1) fun o S2 => match o with
      | .nx e => forI it g b m (i + 1) e S2
      | .ct e => forI it g b m (i + 1) e S2
      | .bk e => some (.nx e, S2)
      | .rt d => some (.rt d, S2)
    | some none => some (.nx env, S)
    | none => none
def sFor (fi : FI) (g : FG) (b : FS) : FS := fun env S => th (fi env S) fun it S1 => forI it g b (it.len + 1) 0 env S1
section
variable {c : FC} {X : Cx}
theorem q_for {tg iter : Expr} {body : List Stmt} {fi : FI} {g : FG} {fb : FS} {pos : Pos} (hp : PassesOwn (model X.prog X.w) X.A X.env X.xe) (hc : X.calm = true) (hi : PI X tg iter (tI c fi)) (hg : PG X tg (tG c none g)) (hb : PSs X body (tS c fb))
    (hs : ∀ x, foldedSetIterable iter X.env x = pure x := by intro _; rfl) : PS X (.For tg iter body [] pos) (tS c (sFor fi g fb)) := by
  refine PS.w (ps_for hp hc hi hg hb hs) fun Dn σ H h => ?_
  obtain ⟨μ, env, S, o, S', he, hs, hf0, ha⟩ := h
  obtain ⟨it, S1, h1, hf⟩ := th_inv hf0
  clear hf0
  refine ⟨μ, env, S, it, S1, he, hs, h1, fun μ1 H1 J e1 k1 ok => ?_⟩
  refine ⟨fun i m σ2 H2 => ∃ μ2 env2 S2, Ext c μ1 H1 μ2 H2 ∧ EnvOk c μ2 H2 env2 σ2 ∧ StoOk c μ2 S2 H2 ∧ forI it g fb m i env2 S2 = some (o, S'), ⟨it.len + 1, μ1, env, S1, Ext.refl, he.mono e1, k1, hf⟩, ?_⟩
  rintro i m σ2 H2 ⟨μ2, env2, S2, e2, r2, k2, hw⟩
  have ha2 := (ha.ext e1).ext e2
  cases m with
  | zero => cases hw
  | succ m =>
    unfold forI at hw
    split at hw
    · rename_i d g1
      obtain ⟨go, yl⟩ := (ok μ2 H2 S2 e2 k2 i).2 d g1
      obtain ⟨env3, S3, h3, hw⟩ := th_inv hw
      obtain ⟨o4, S4, h4, hw⟩ := th_inv hw
      refine .inr ⟨go, fun σ' H' => ∃ μ2 env2 S2, Ext c μ1 H1 μ2 H' ∧ EnvOk c μ2 H' env2 σ' ∧ StoOk c μ2 S2 H' ∧ forI it g fb m (i + 1) env2 S2 = some (o, S'), fun σ' H' q => ⟨m, Nat.lt_succ_self m, q⟩, fun x H' y => ?_⟩
      obtain ⟨μ', x1, x2, x3⟩ := yl x H' y
      refine ⟨μ', env2, S2, d, env3, S3, r2.mono x1, x2, x3, h3, fun μ3 H3 σ3 e3 k3 r3 _ => ?_⟩
      refine ⟨μ3, env3, S3, o4, S4, r3, k3, h4, fun μ4 H4 e4 k4 => ?_⟩
      have e24 := (x1.trans e3).trans e4
      cases o4 with
      | nx e => exact fun σ4 r4 => ⟨μ4, e, S4, e2.trans e24, r4, k4, hw⟩
      | ct e => exact fun σ4 r4 => ⟨μ4, e, S4, e2.trans e24, r4, k4, hw⟩
      | bk e =>
        cases hw
        exact fun σ4 r4 => ha2 μ4 H4 e24 k4 σ4 r4
      | rt d =>
        cases hw
        exact fun v r4 => ha2 μ4 H4 e24 k4 v r4
    · rename_i g1
      cases hw
      exact .inl ⟨(ok μ2 H2 _ e2 k2 i).1 g1, ha2.nx k2 r2⟩
    · cases hw

/-! ### a dict is locked while it is walked -/
def lkS (fd : FE) (s : FS) : FS := fun env S => match fd env S with
  | some (.ref n, _) => match S[n]? with
    | some (.dic kvs) => th (s env (S.set n (.lck kvs))) fun o S2 => match S2[n]? with
      | some (.lck kvs') => some (o, S2.set n (.dic kvs'))
      | _ => none
    | _ => none
  | _ => none
def lkE (fd : FE) (e : FE) : FE := fun env S => match fd env S with
  | some (.ref n, _) => match S[n]? with
    | some (.dic kvs) => th (e env (S.set n (.lck kvs))) fun d S2 => match S2[n]? with
      | some (.lck kvs') => some (d, S2.set n (.dic kvs'))
      | _ => none
    | _ => none
  | _ => none
theorem lock_on {μ : List Addr} {S : Sto} {H : Hp} {n : Nat} {a : Addr} {kvs : List (Key × D)} {ys : List (Key × V)} {od : Obj} (hs : StoOk c μ S H) (e : S[n]? = some (.dic kvs)) (ha : μ[n]? = some a) (q : H a = some (.dK ys)) (r : RepKV c μ H kvs ys) :
    Ext c μ H μ (upd H a (.frz od (.dK ys))) ∧ StoOk c μ (S.set n (.lck kvs)) (upd H a (.frz od (.dK ys))) := by
  have x : Ext c μ H μ (upd H a (.frz od (.dK ys))) := Ext.upd (.inr ⟨_, q, trivial⟩)
  exact ⟨x, hs.write e rfl ha x ⟨od, ys, upd_same, r.mono x⟩⟩
theorem lock_off {μ : List Addr} {S : Sto} {H0 H : Hp} {n : Nat} {a : Addr} {kvs : List (Key × D)} {ys : List (Key × V)} {od : Obj} {μ0 : List Addr} (q0 : H0 a = some (.dK ys)) (e0 : Ext c μ0 (upd H0 a (.frz od (.dK ys))) μ H) (hs : StoOk c μ S H) (e : S[n]? = some (.lck kvs)) (ha : μ[n]? = some a) (q : H a = some (.frz od (.dK ys))) :
    Ext c μ0 H0 μ (upd H a (.dK ys)) ∧ StoOk c μ (S.set n (.dic kvs)) (upd H a (.dK ys)) ∧ (∀ d v, Rep c μ H d v → Rep c μ (upd H a (.dK ys)) d v) := by
  have xt : ∀ (b : Addr) (xs : List V), SqT c.K H b xs → SqT c.K (upd H a (.dK ys)) b xs := fun b xs h => by
    rcases h with h | h
    · have ne : ∀ w, H b = some w → w ≠ .frz od (.dK ys) → b ≠ a := fun w e nw z => by
        rw [z, q] at e
        cases e
        exact nw rfl
      rcases h with h | ⟨o, h⟩
      · exact .inl (.inl (by rw [upd_ne (ne _ h (fun z => nomatch z))]; exact h))
      · exact .inl (.inr ⟨o, by rw [upd_ne (ne _ h (fun z => by cases z))]; exact h⟩)
    · exact .inr h
  have xp : ∀ (b : Addr) (xs : List V), TupP c.K H b xs → TupP c.K (upd H a (.dK ys)) b xs := fun b xs h => by
    rcases h with ⟨o, h, hd⟩ | h
    · have nb : b ≠ a := fun z => by
        rw [z, q] at h
        cases h
      exact .inl ⟨o, by rw [upd_ne nb]; exact h, hd⟩
    · exact .inr h
  have rp : ∀ (d : D) (v : V), Rep c μ H d v → Rep c μ (upd H a (.dK ys)) d v := by
    intro d v h
    exact (lock_rep ⟨xt, xp⟩ d v h)
  refine ⟨⟨e0.pre, fun b xs h => xt b xs (e0.tup b xs (sqT_upd (.inr ⟨_, q0, trivial⟩) h)), fun b o u h => ?_⟩, ?_, rp⟩
  · have nb : b ≠ a := fun z => by
      rw [z, q0] at h
      cases h
    rw [upd_ne nb]
    exact e0.frz b o u (by rw [upd_ne nb]; exact h)
  · refine ⟨by rw [List.length_set]; exact hs.len, fun m o' g => ?_, fun m k b o1 o2 g1 g2 w1 w2 a1 a2 => ?_⟩
    · by_cases hk : n = m
      · subst hk
        rw [List.getElem?_set_self (List.getElem?_eq_some_iff.mp e).1] at g
        cases g
        obtain ⟨a', g1, o, ys', q', r⟩ := hs.stands _ _ e
        rw [ha] at g1
        cases g1
        rw [q] at q'
        cases q'
        exact ⟨a, ha, ys, upd_same, r.1, lock_reps ⟨xt, xp⟩ _ _ r.2⟩
      · rw [List.getElem?_set_ne hk] at g
        obtain ⟨b, g1, r⟩ := hs.stands m o' g
        refine ⟨b, g1, ?_⟩
        cases hw : own o' with
        | true =>
          have nb : b ≠ a := fun z => by
            subst z
            exact hk (hs.inj n m b _ o' e g rfl hw ha g1)
          cases o' with
          | lst ds =>
            obtain ⟨xs, h, r⟩ := r
            exact ⟨xs, by rw [upd_ne nb]; exact h, lock_reps ⟨xt, xp⟩ _ _ r⟩
          | dic ds =>
            obtain ⟨xs, h, r⟩ := r
            exact ⟨xs, by rw [upd_ne nb]; exact h, r.1, lock_reps ⟨xt, xp⟩ _ _ r.2⟩
          | lck ds =>
            obtain ⟨o, xs, h, r⟩ := r
            exact ⟨o, xs, by rw [upd_ne nb]; exact h, r.1, lock_reps ⟨xt, xp⟩ _ _ r.2⟩
          | ins k fs =>
            obtain ⟨dx, xs, h, r⟩ := r
            exact ⟨dx, xs, by rw [upd_ne nb]; exact h, r.1, lock_reps ⟨xt, xp⟩ _ _ r.2⟩
          | ro _ => cases hw
          | gone => cases hw
        | false =>
          cases o' with
          | ro ds =>
            obtain ⟨xs, h, r⟩ := r
            refine ⟨xs, h.imp (fun ⟨o, h⟩ => ⟨o, ?_⟩) id, lock_reps ⟨xt, xp⟩ _ _ r⟩
            rw [upd_ne (fun z => by rw [z, q] at h; cases h)]
            exact h
          | gone => trivial
          | lst _ => cases hw
          | dic _ => cases hw
          | lck _ => cases hw
          | ins _ _ => cases hw
    · have back : ∀ (m : Nat) (o' : O), (S.set n (.dic kvs))[m]? = some o' → own o' = true → ∃ o'', S[m]? = some o'' ∧ own o'' = true := fun m o' g w => by
        by_cases hk : n = m
        · subst hk
          exact ⟨_, e, rfl⟩
        · rw [List.getElem?_set_ne hk] at g
          exact ⟨o', g, w⟩
      obtain ⟨p1, q1, v1⟩ := back m o1 g1 w1
      obtain ⟨p2, q2, v2⟩ := back k o2 g2 w2
      exact hs.inj m k b p1 p2 q1 q2 v1 v2 a1 a2
where
  lock_rep {μ : List Addr} {H H' : Hp} (xt : (∀ (b : Addr) (xs : List V), SqT c.K H b xs → SqT c.K H' b xs) ∧ ∀ (b : Addr) (xs : List V), TupP c.K H b xs → TupP c.K H' b xs) (d : D) (v : V) (h : Rep c μ H d v) : Rep c μ H' d v := by
    have key : ∀ n : Nat, (∀ (d : D) (v : V), sizeOf d < n → Rep c μ H d v → Rep c μ H' d v) ∧ ∀ (ds : List D) (xs : List V), sizeOf ds < n → Reps c μ H ds xs → Reps c μ H' ds xs := by
      intro n
      induction n with
      | zero => exact ⟨fun _ _ z => absurd z (Nat.not_lt_zero _), fun _ _ z => absurd z (Nat.not_lt_zero _)⟩
      | succ n ih =>
        refine ⟨fun d v z h => ?_, fun ds xs z h => ?_⟩
        · cases d with
          | tup ds =>
            obtain ⟨a, xs, rfl, q, r⟩ := h
            exact ⟨a, xs, rfl, xt.2 _ _ q, ih.2 ds xs (by simp at z; omega) r⟩
          | pr ds =>
            obtain ⟨a, xs, rfl, q, r⟩ := h
            exact ⟨a, xs, rfl, xt.1 _ _ q, ih.2 ds xs (by simp at z; omega) r⟩
          | non => exact h
          | bl _ => exact h
          | int _ => exact h
          | str _ => exact h
          | ref _ => exact h
        · cases ds with
          | nil => exact h
          | cons d ds =>
            obtain ⟨v, vs, rfl, r1, r2⟩ := h
            exact ⟨v, vs, rfl, ih.1 d v (by simp at z; omega) r1, ih.2 ds vs (by simp at z; omega) r2⟩
    exact (key (sizeOf d + 1)).1 d v (Nat.lt_succ_self _) h
  lock_reps {μ : List Addr} {H H' : Hp} (xt : (∀ (b : Addr) (xs : List V), SqT c.K H b xs → SqT c.K H' b xs) ∧ ∀ (b : Addr) (xs : List V), TupP c.K H b xs → TupP c.K H' b xs) (ds : List D) (xs : List V) (h : Reps c μ H ds xs) : Reps c μ H' ds xs := by
    induction ds generalizing xs with
    | nil => exact h
    | cons d ds ih =>
      obtain ⟨v, vs, rfl, r1, r2⟩ := h
      exact ⟨v, vs, rfl, lock_rep xt d v r1, ih vs r2⟩
theorem env_off {μ : List Addr} {H H' : Hp} {env : Env} {σ : L2.St} (rp : ∀ d v, Rep c μ H d v → Rep c μ H' d v) (h : EnvOk c μ H env σ) : EnvOk c μ H' env σ := ⟨h.1, fun i d q => let ⟨v, h1, h2⟩ := h.2 i d q; ⟨v, h1, rp d v h2⟩⟩
theorem q_lkS {st : Stmt} {i : Nat} {f : FS} (h : PS X st (tS c f)) : PS X st (tS c (lkS (eVar i) f)) := by
  refine PS.w (ps_lock h) fun Dn σ H h => ?_
  obtain ⟨μ, env, S, o, S', he, hs, hf, ha⟩ := h
  unfold lkS at hf
  split at hf
  · rename_i n S0 g0
    split at hf
    · rename_i kvs g1
      obtain ⟨o2, S2, h2, hf⟩ := th_inv hf
      obtain ⟨a, ha1, ys, q, r⟩ := hs.stands _ _ g1
      refine ⟨a, .dK ys, q, trivial, fun od => ?_⟩
      obtain ⟨x1, x2⟩ := lock_on (od := od) hs g1 ha1 q r
      refine ⟨μ, env, _, o2, S2, he.mono x1, x2, h2, fun μ2 H2 e2 k2 => ?_⟩
      have q2 := e2.frz _ _ _ (show (upd H a (.frz od (.dK ys))) a = some (.frz od (.dK ys)) from upd_same)
      split at hf
      · rename_i kvs' g2
        cases hf
        have ha2 := e2.pre _ _ ha1
        obtain ⟨y1, y2, y3⟩ := lock_off q e2 k2 g2 ha2 q2
        cases o with
        | nx e => exact fun σ2 r2 => ⟨q2, ha μ2 _ y1 y2 σ2 (env_off y3 r2)⟩
        | bk e => exact fun σ2 r2 => ⟨q2, ha μ2 _ y1 y2 σ2 (env_off y3 r2)⟩
        | ct e => exact fun σ2 r2 => ⟨q2, ha μ2 _ y1 y2 σ2 (env_off y3 r2)⟩
        | rt d => exact fun v r2 => ⟨q2, ha μ2 _ y1 y2 v (y3 d v r2)⟩
      · cases hf
    · cases hf
  · cases hf
theorem q_lkE {e : Expr} {fd f : FE} (h : PE X e (tE c f)) : PE X e (tE c (lkE fd f)) := by
  refine PE.w (pe_lock h) fun σ H Q h => ?_
  obtain ⟨μ, env, S, d, S', he, hs, hf, ha⟩ := h
  unfold lkE at hf
  split at hf
  · rename_i n S0 g0
    split at hf
    · rename_i kvs g1
      obtain ⟨o2, S2, h2, hf⟩ := th_inv hf
      obtain ⟨a, ha1, ys, q, r⟩ := hs.stands _ _ g1
      refine ⟨a, .dK ys, q, trivial, fun od => ?_⟩
      obtain ⟨x1, x2⟩ := lock_on (od := od) hs g1 ha1 q r
      refine ⟨μ, env, _, o2, S2, he.mono x1, x2, h2, fun μ2 H2 v e2 k2 r2 => ?_⟩
      have q2 := e2.frz _ _ _ (show (upd H a (.frz od (.dK ys))) a = some (.frz od (.dK ys)) from upd_same)
      split at hf
      · rename_i kvs' g2
        cases hf
        have ha2 := e2.pre _ _ ha1
        obtain ⟨y1, y2, y3⟩ := lock_off q e2 k2 g2 ha2 q2
        exact ⟨q2, ha μ2 _ _ y1 y2 (y3 d v r2)⟩
      · cases hf
    · cases hf
  · cases hf
end

/-! ### comprehensions -/
def wipeE (env : Env) : List Nat → Env
  | [] => env
  | v :: vs => (wipeE env vs).set v none
theorem EnvOk.none {c : FC} {μ : List Addr} {H : Hp} {env : Env} {σ : L2.St} (i : Nat) (h : EnvOk c μ H env σ) : EnvOk c μ H (env.set i Option.none) (σ.set i Option.none) := by
  refine ⟨by rw [List.length_set, List.length_set, h.1], fun j e q => ?_⟩
  by_cases hj : i = j
  · subst hj
    by_cases hl : i < env.length
    · rw [List.getElem?_set_self hl] at q
      cases q
    · rw [List.getElem?_eq_none (by rw [List.length_set]; omega)] at q
      cases q
  · rw [List.getElem?_set_ne hj] at q ⊢
    exact h.2 j e q
theorem EnvOk.wipe {c : FC} {μ : List Addr} {H : Hp} {env : Env} {σ : L2.St} (h : EnvOk c μ H env σ) : ∀ vs : List Nat, EnvOk c μ H (wipeE env vs) (L2.wipe σ vs)
  | [] => h
  | v :: vs => (EnvOk.wipe h vs).none v
/-- one clause; n: the place of the new list -/
def lcI (it : ItD) (g : FG) (tt : FT) (te : FE) (n : Nat) (env : Env) : Nat → Nat → Sto → Option Sto
  | 0, _ => fun _ => none
  | m + 1, i => fun S => match it.it S i with
    | some (some d) => th (g d env S) fun env1 S1 => th (tt env1 S1) fun k S2 => if k = true then th (te env1 S2) fun y S3 => match S3[n]? with
        | some (.lst acc) => if acc.length < cap then lcI it g tt te n env m (i + 1) (S3.set n (.lst (acc ++ [y]))) else none
        | _ => none
      else lcI it g tt te n env m (i + 1) S2
    | some none => some S
    | none => none
def eLc (fi : FI) (g : FG) (tt : FT) (te : FE) (vs : List Nat) : FE := fun env S => th (fi env S) fun it S1 => (lcI it g tt te S1.length (wipeE env vs) (it.len + 1) 0 (S1 ++ [.lst []])).map fun S2 => (.ref S1.length, S2)
def tYs : FT := fun _ S => some (true, S)
def tTs (c : FC) (ft : FT) : TT := tT c ft
section
variable {c : FC} {X : Cx}
theorem PTs.w {ifs : List Expr} {t t' : TT} (h : PTs X ifs t) (w : ∀ σ H Q, t' σ H Q → t σ H Q) : PTs X ifs t' := ⟨fun pins s σ H Q I q => h.run pins s σ H Q I (w σ H Q q)⟩
theorem q_tsn : PTs X [] (tT c tYs) := by
  refine PTs.w pts_nil fun σ H Q h => ?_
  obtain ⟨μ, env, S, b, S', he, hs, hf, ha⟩ := h
  cases hf
  exact ha μ H Ext.refl hs
theorem q_ts1 {e : Expr} {ft : FT} (h : PT X e (tT c ft)) : PTs X [e] (tT c ft) := pts_one h
theorem q_lc {elt tg iter : Expr} {ifs : List Expr} {scope : Scope} (own : List (Str × Nat)) {pos : Pos} {fi : FI} {g : FG} {tt : FT} {te : FE} (hc : X.calm = true) (hN : X.N.Nodup) (hi : PI X tg iter (tI c fi)) (ok : BlkOk X.N X.env.scope scope own)
    (hg : ∀ (s : Shared) (H : Hp) (C : Addr) (cl : List (Str × Addr)) (fp : List Addr), PG (X.blk s H scope (compEnvC scope cl C X.env) fp) tg (tG c (some (own.map (·.2))) g)) (ht : ∀ (s : Shared) (H : Hp) (C : Addr) (cl : List (Str × Addr)) (fp : List Addr), PTs (X.blk s H scope (compEnvC scope cl C X.env) fp) ifs (tT c tt))
    (he : ∀ (s : Shared) (H : Hp) (C : Addr) (cl : List (Str × Addr)) (fp : List Addr), PE (X.blk s H scope (compEnvC scope cl C X.env) fp) elt (tE c te)) (hs : ∀ x, foldedSetIterable iter X.env x = pure x := by intro _; rfl) :
    PE X (.ListComp elt [⟨tg, iter, ifs, 0⟩] scope pos) (tE c (eLc fi g tt te (own.map (·.2)))) := by
  refine PE.w (pe_lc hc hN hi ok hg ht he hs) fun σ H Q h => lc_red (own.map (·.2)) h
where
  lc_red {fi : FI} {g : FG} {tt : FT} {te : FE} (vs : List Nat) {σ : L2.St} {H : Hp} {Q : VK} (h : tE c (eLc fi g tt te vs) σ H Q) : tLc (tI c fi) (tG c (some vs) g) (tT c tt) (tE c te) vs σ H Q := by
    obtain ⟨μ, env, S, d, S', he, hs, hf0, ha⟩ := h
    obtain ⟨it, S1, h1, hf⟩ := th_inv hf0
    clear hf0
    obtain ⟨Sf, hf, ef⟩ := Option.map_eq_some_iff.mp hf
    cases ef
    refine ⟨μ, env, S, it, S1, he, hs, h1, fun μ1 H1 J e1 k1 ok => ?_⟩
    intro p hp
    obtain ⟨y1, y2, y3⟩ := lst_new (ds := []) (vs := []) k1 rfl hp
    have hn : (μ1 ++ [p])[S1.length]? = some p := by
      rw [← k1.len, List.getElem?_append_right (Nat.le_refl _), Nat.sub_self]
      rfl
    refine ⟨fun i m H2 => ∃ μ2 S2, Ext c (μ1 ++ [p]) (upd H1 p (.lst [])) μ2 H2 ∧ StoOk c μ2 S2 H2 ∧ lcI it g tt te S1.length (wipeE env vs) m i S2 = some S', ⟨it.len + 1, μ1 ++ [p], _, Ext.refl, y2, hf⟩, ?_⟩
    rintro i m H2 ⟨μ2, S2, e2, k2, hw⟩
    have en : EnvOk c μ2 H2 (wipeE env vs) (wipe σ vs) := (((he.mono e1).mono y1).mono e2).wipe vs
    have hn2 := e2.pre _ _ hn
    cases m with
    | zero => cases hw
    | succ m =>
      unfold lcI at hw
      split at hw
      · rename_i d g1
        obtain ⟨go, yl⟩ := (ok μ2 H2 S2 (y1.trans e2) k2 i).2 d g1
        obtain ⟨env3, S3, h3, hw⟩ := th_inv hw
        obtain ⟨k, S4, h4, hw⟩ := th_inv hw
        refine .inr ⟨go, fun H' => ∃ μ2 S2, Ext c (μ1 ++ [p]) (upd H1 p (.lst [])) μ2 H' ∧ StoOk c μ2 S2 H' ∧ lcI it g tt te S1.length (wipeE env vs) m (i + 1) S2 = some S', fun H' q => ⟨m, Nat.lt_succ_self m, q⟩, fun x H' y => ?_⟩
        obtain ⟨μ', x1, x2, x3⟩ := yl x H' y
        refine ⟨μ', _, S2, d, env3, S3, en.mono x1, x2, x3, h3, fun μ3 H3 σ3 e3 k3 r3 w3 => ⟨(w3 vs rfl).trans (wipe_wipe σ vs), ?_⟩⟩
        refine ⟨μ3, env3, S3, k, S4, r3, k3, h4, fun μ4 H4 e4 k4 => ?_⟩
        have e24 := e2.trans ((x1.trans e3).trans e4)
        cases k with
        | false =>
          rw [if_neg Bool.false_ne_true] at hw
          refine iteF ?_
          exact ⟨μ4, S4, e24, k4, hw⟩
        | true =>
          rw [if_pos rfl] at hw
          refine iteT ?_
          obtain ⟨y, S5, h5, hw⟩ := th_inv hw
          refine ⟨μ4, env3, S4, y, S5, r3.mono e4, k4, h5, fun μ5 H5 v e5 k5 r5 => ?_⟩
          split at hw
          · rename_i acc g6
            split at hw
            · rename_i hz
              have hn5 := (e24.trans e5).pre _ _ hn
              obtain ⟨a', g7, ys, q7, r7⟩ := k5.stands _ _ g6
              rw [hn5] at g7
              cases g7
              obtain ⟨z1, z2⟩ := lst_set k5 g6 hn5 q7 (r7.app (Reps.one r5))
              exact ⟨ys, q7, by rw [r7.len]; exact cap_lt hz, μ5, _, (e24.trans e5).trans z1, z2, hw⟩
            · cases hw
          · cases hw
      · rename_i g1
        cases hw
        exact .inl ⟨(ok μ2 H2 S' (y1.trans e2) k2 i).1 g1, ha μ2 H2 _ ((e1.trans y1).trans e2) k2 ⟨p, hn2, rfl⟩⟩
      · cases hw
  wipe_wipe (σ : L2.St) (vs : List Nat) : wipe (wipe σ vs) vs = wipe σ vs := by
    refine List.ext_getElem? fun j => ?_
    have key : ∀ (ws : List Nat) (τ : L2.St), (wipe τ ws)[j]? = if j ∈ ws then (τ[j]?).map (fun _ => Option.none) else τ[j]? := by
      intro ws
      induction ws with
      | nil => intro τ; simp [wipe]
      | cons w ws ih =>
        intro τ
        unfold wipe
        by_cases e : w = j
        · subst e
          rw [if_pos List.mem_cons_self]
          by_cases hl : w < (wipe τ ws).length
          · rw [List.getElem?_set_self hl]
            rw [wipe_length] at hl
            rw [List.getElem?_eq_getElem hl]
            rfl
          · rw [List.getElem?_eq_none (by rw [List.length_set]; omega)]
            rw [wipe_length] at hl
            rw [List.getElem?_eq_none (by omega)]
            rfl
        · rw [List.getElem?_set_ne e, ih]
          by_cases hm : j ∈ ws
          · rw [if_pos hm, if_pos (List.mem_cons_of_mem _ hm)]
          · rw [if_neg hm, if_neg (fun z => (List.mem_cons.mp z).elim (fun q => e q.symm) hm)]
    rw [key vs (wipe σ vs), key vs σ]
    by_cases hm : j ∈ vs
    · rw [if_pos hm, if_pos hm, Option.map_map]
      rfl
    · rw [if_neg hm, if_neg hm]
end
end FL
/-! FL10: comprehensions of two clauses, of dicts; x = [..]; defs. -/
namespace FL
open PySem PySem.Spec PyProof.Rows L2

/-! ### two clauses -/
/-- the inner loop -/
def lcJ (it : ItD) (g : FG) (tt : FT) (te : FE) (n : Nat) (env : Env) : Nat → Nat → Sto → Option Sto := lcI it g tt te n env
def lc2I (it : ItD) (g : FG) (tt : FT) (fi1 : FI) (g1 : FG) (tt1 : FT) (te : FE) (vs1 : List Nat) (n : Nat) (env : Env) : Nat → Nat → Sto → Option Sto
  | 0, _ => fun _ => none
  | m + 1, i => fun S => match it.it S i with
    | some (some d) => th (g d env S) fun env1 S1 => th (tt env1 S1) fun k S2 => if k = true then th (fi1 env1 S2) fun it1 S3 => match lcI it1 g1 tt1 te n (wipeE env1 vs1) (it1.len + 1) 0 S3 with
        | some S4 => lc2I it g tt fi1 g1 tt1 te vs1 n env m (i + 1) S4
        | none => none
      else lc2I it g tt fi1 g1 tt1 te vs1 n env m (i + 1) S2
    | some none => some S
    | none => none
def eLc2 (fi : FI) (g : FG) (tt : FT) (fi1 : FI) (g1 : FG) (tt1 : FT) (te : FE) (vs vs1 : List Nat) : FE := fun env S => th (fi env S) fun it S1 => (lc2I it g tt fi1 g1 tt1 te vs1 S1.length (wipeE env vs) (it.len + 1) 0 (S1 ++ [.lst []])).map fun S2 => (.ref S1.length, S2)
section
variable {c : FC} {X : Cx}
theorem lc2_red {fi : FI} {g : FG} {tt : FT} {fi1 : FI} {g1 : FG} {tt1 : FT} {te : FE} (vs vs1 : List Nat) {σ : L2.St} {H : Hp} {Q : VK} (h : tE c (eLc2 fi g tt fi1 g1 tt1 te vs vs1) σ H Q) :
    tLc2 (tI c fi) (tG c (some vs) g) (tT c tt) (tI c fi1) (tG c (some vs1) g1) (tT c tt1) (tE c te) vs vs1 σ H Q := by
  obtain ⟨μ, env, S, d, S', he, hs, hf0, ha⟩ := h
  obtain ⟨it, S1, h1, hf⟩ := th_inv hf0
  clear hf0
  obtain ⟨Sf, hf, ef⟩ := Option.map_eq_some_iff.mp hf
  cases ef
  refine ⟨μ, env, S, it, S1, he, hs, h1, fun μ1 H1 J e1 k1 ok => ?_⟩
  intro p hp
  obtain ⟨y1, y2, y3⟩ := lst_new (ds := []) (vs := []) k1 rfl hp
  have hn : (μ1 ++ [p])[S1.length]? = some p := by
    rw [← k1.len, List.getElem?_append_right (Nat.le_refl _), Nat.sub_self]
    rfl
  refine ⟨fun i m H2 => ∃ μ2 S2, Ext c (μ1 ++ [p]) (upd H1 p (.lst [])) μ2 H2 ∧ StoOk c μ2 S2 H2 ∧ lc2I it g tt fi1 g1 tt1 te vs1 S1.length (wipeE env vs) m i S2 = some S', ⟨it.len + 1, μ1 ++ [p], _, Ext.refl, y2, hf⟩, ?_⟩
  rintro i m H2 ⟨μ2, S2, e2, k2, hw⟩
  have en : EnvOk c μ2 H2 (wipeE env vs) (wipe σ vs) := (((he.mono e1).mono y1).mono e2).wipe vs
  have hn2 := e2.pre _ _ hn
  cases m with
  | zero => cases hw
  | succ m =>
    unfold lc2I at hw
    split at hw
    · rename_i d g0
      obtain ⟨go, yl⟩ := (ok μ2 H2 S2 (y1.trans e2) k2 i).2 d g0
      obtain ⟨env3, S3, h3, hw⟩ := th_inv hw
      obtain ⟨k, S4, h4, hw⟩ := th_inv hw
      refine .inr ⟨go, fun H' => ∃ μ2 S2, Ext c (μ1 ++ [p]) (upd H1 p (.lst [])) μ2 H' ∧ StoOk c μ2 S2 H' ∧ lc2I it g tt fi1 g1 tt1 te vs1 S1.length (wipeE env vs) m (i + 1) S2 = some S', fun H' q => ⟨m, Nat.lt_succ_self m, q⟩, fun x H' y => ?_⟩
      obtain ⟨μ', x1, x2, x3⟩ := yl x H' y
      refine ⟨μ', _, S2, d, env3, S3, en.mono x1, x2, x3, h3, fun μ3 H3 σ3 e3 k3 r3 w3 => ⟨(w3 vs rfl).trans (q_lc.wipe_wipe σ vs), ?_⟩⟩
      refine ⟨μ3, env3, S3, k, S4, r3, k3, h4, fun μ4 H4 e4 k4 => ?_⟩
      have e24 := e2.trans ((x1.trans e3).trans e4)
      cases k with
      | false =>
        rw [if_neg Bool.false_ne_true] at hw
        refine iteF ?_
        exact ⟨μ4, S4, e24, k4, hw⟩
      | true =>
        rw [if_pos rfl] at hw
        refine iteT ?_
        obtain ⟨it1, S5, h5, hw⟩ := th_inv hw
        refine ⟨μ4, env3, S4, it1, S5, r3.mono e4, k4, h5, fun μ5 H5 J1 e5 k5 ok1 => ?_⟩
        split at hw
        · rename_i S6 g6
          refine ⟨fun j m1 H7 => ∃ μ7 S7, Ext c μ5 H5 μ7 H7 ∧ StoOk c μ7 S7 H7 ∧ lcI it1 g1 tt1 te S1.length (wipeE env3 vs1) m1 j S7 = some S6, ⟨it1.len + 1, μ5, S5, Ext.refl, k5, g6⟩, ?_⟩
          rintro j m1 H7 ⟨μ7, S7, e7, k7, hw7⟩
          have en7 : EnvOk c μ7 H7 (wipeE env3 vs1) (wipe σ3 vs1) := (((r3.mono e4).mono e5).mono e7).wipe vs1
          have e27 := (e24.trans e5).trans e7
          cases m1 with
          | zero => cases hw7
          | succ m1 =>
            unfold lcI at hw7
            split at hw7
            · rename_i d8 g8
              obtain ⟨go8, yl8⟩ := (ok1 μ7 H7 S7 e7 k7 j).2 d8 g8
              obtain ⟨env9, S9, h9, hw7⟩ := th_inv hw7
              obtain ⟨kk, S10, h10, hw7⟩ := th_inv hw7
              refine .inr ⟨go8, fun H' => ∃ μ7 S7, Ext c μ5 H5 μ7 H' ∧ StoOk c μ7 S7 H' ∧ lcI it1 g1 tt1 te S1.length (wipeE env3 vs1) m1 (j + 1) S7 = some S6, fun H' q => ⟨m1, Nat.lt_succ_self m1, q⟩, fun x8 H8 y8 => ?_⟩
              obtain ⟨μ8, z1, z2, z3⟩ := yl8 x8 H8 y8
              refine ⟨μ8, _, S7, d8, env9, S9, en7.mono z1, z2, z3, h9, fun μ9 H9 σ9 e9 k9 r9 w9 => ⟨(w9 vs1 rfl).trans (q_lc.wipe_wipe σ3 vs1), ?_⟩⟩
              refine ⟨μ9, env9, S9, kk, S10, r9, k9, h10, fun μ10 H10 e10 k10 => ?_⟩
              have e710 := (z1.trans e9).trans e10
              cases kk with
              | false =>
                rw [if_neg Bool.false_ne_true] at hw7
                refine iteF ?_
                exact ⟨μ10, S10, e7.trans e710, k10, hw7⟩
              | true =>
                rw [if_pos rfl] at hw7
                refine iteT ?_
                obtain ⟨y, S11, h11, hw7⟩ := th_inv hw7
                refine ⟨μ10, env9, S10, y, S11, r9.mono e10, k10, h11, fun μ11 H11 v e11 k11 r11 => ?_⟩
                split at hw7
                · rename_i acc g12
                  split at hw7
                  · rename_i hz
                    have hn11 := ((e27.trans e710).trans e11).pre _ _ hn
                    obtain ⟨a', g13, ys, q13, r13⟩ := k11.stands _ _ g12
                    rw [hn11] at g13
                    cases g13
                    obtain ⟨t1, t2⟩ := lst_set k11 g12 hn11 q13 (r13.app (Reps.one r11))
                    exact ⟨ys, q13, by rw [r13.len]; exact cap_lt hz, μ11, _, ((e7.trans e710).trans e11).trans t1, t2, hw7⟩
                  · cases hw7
                · cases hw7
            · rename_i g8
              cases hw7
              exact .inl ⟨(ok1 μ7 H7 _ e7 k7 j).1 g8, μ7, _, e27, k7, hw⟩
            · cases hw7
        · cases hw
    · rename_i g0
      cases hw
      exact .inl ⟨(ok μ2 H2 S' (y1.trans e2) k2 i).1 g0, ha μ2 H2 _ ((e1.trans y1).trans e2) k2 ⟨p, hn2, rfl⟩⟩
    · cases hw
theorem q_lc2 {e : Expr} {fi : FI} {g : FG} {tt : FT} {fi1 : FI} {g1 : FG} {tt1 : FT} {te : FE} {vs vs1 : List Nat} (h : PE X e (tLc2 (tI c fi) (tG c (some vs) g) (tT c tt) (tI c fi1) (tG c (some vs1) g1) (tT c tt1) (tE c te) vs vs1)) : PE X e (tE c (eLc2 fi g tt fi1 g1 tt1 te vs vs1)) := PE.w h fun _ _ _ => lc2_red vs vs1
/-- x = [..] on one line -/
theorem q_setLc {st : Stmt} {i : Nat} {fi : FI} {g : FG} {tt : FT} {te : FE} {vs : List Nat} (h : PS X st (tAsg (tLc (tI c fi) (tG c (some vs) g) (tT c tt) (tE c te) vs) (gName i))) : PS X st (tS c (sAsg (eLc fi g tt te vs) (gNm i))) := by
  refine PS.w h fun Dn σ H h => ?_
  refine q_lc.lc_red vs (Q := fun x H1 => gName i x σ H1 Dn.nx) ?_
  obtain ⟨μ, env, S, o, S', he, hs, hf, ha⟩ := h
  obtain ⟨d, S1, h1, hf⟩ := th_inv hf
  obtain ⟨env1, S2, h2, hf⟩ := th_inv hf
  cases h2
  cases hf
  exact ⟨μ, env, S, d, _, he, hs, h1, fun μ1 H1 v e1 k1 r1 => ha μ1 H1 e1 k1 _ ((he.mono e1).set i r1)⟩
theorem q_setLc2 {st : Stmt} {i : Nat} {fi : FI} {g : FG} {tt : FT} {fi1 : FI} {g1 : FG} {tt1 : FT} {te : FE} {vs vs1 : List Nat} (h : PS X st (tAsg (tLc2 (tI c fi) (tG c (some vs) g) (tT c tt) (tI c fi1) (tG c (some vs1) g1) (tT c tt1) (tE c te) vs vs1) (gName i))) : PS X st (tS c (sAsg (eLc2 fi g tt fi1 g1 tt1 te vs vs1) (gNm i))) := by
  refine PS.w h fun Dn σ H h => ?_
  refine lc2_red vs vs1 (Q := fun x H1 => gName i x σ H1 Dn.nx) ?_
  obtain ⟨μ, env, S, o, S', he, hs, hf, ha⟩ := h
  obtain ⟨d, S1, h1, hf⟩ := th_inv hf
  obtain ⟨env1, S2, h2, hf⟩ := th_inv hf
  cases h2
  cases hf
  exact ⟨μ, env, S, d, _, he, hs, h1, fun μ1 H1 v e1 k1 r1 => ha μ1 H1 e1 k1 _ ((he.mono e1).set i r1)⟩
end

/-! ### dict comprehensions -/
def dcI (it : ItD) (g : FG) (tt : FT) (tk tv : FE) (n : Nat) (env : Env) : Nat → Nat → Sto → Option Sto
  | 0, _ => fun _ => none
  | m + 1, i => fun S => match it.it S i with
    | some (some d) => th (g d env S) fun env1 S1 => th (tt env1 S1) fun k S2 => if k = true then th (tk env1 S2) fun y S3 => th (tv env1 S3) fun z S4 => match S4[n]?, keyD y with
        | some (.dic kvs), some k' => if kvs.length < cap then dcI it g tt tk tv n env m (i + 1) (S4.set n (.dic (putG kvs k' z))) else none
        | _, _ => none
      else dcI it g tt tk tv n env m (i + 1) S2
    | some none => some S
    | none => none
def eDc (fi : FI) (g : FG) (tt : FT) (tk tv : FE) (vs : List Nat) : FE := fun env S => th (fi env S) fun it S1 => (dcI it g tt tk tv S1.length (wipeE env vs) (it.len + 1) 0 (S1 ++ [.dic []])).map fun S2 => (.ref S1.length, S2)
section
variable {c : FC} {X : Cx}
theorem dic_new {μ : List Addr} {S : Sto} {H : Hp} {p : Addr} (hs : StoOk c μ S H) (hp : H p = none) : Ext c μ H (μ ++ [p]) (upd H p (.dK [])) ∧ StoOk c (μ ++ [p]) (S ++ [.dic []]) (upd H p (.dK [])) :=
  ⟨Ext.new hp, hs.alloc hp ⟨[], upd_same, RepKV.nil⟩⟩
theorem q_dc {e : Expr} {fi : FI} {g : FG} {tt : FT} {tk tv : FE} {vs : List Nat} (h : PE X e (tDc (tI c fi) (tG c (some vs) g) (tT c tt) (tE c tk) (tE c tv) vs)) : PE X e (tE c (eDc fi g tt tk tv vs)) := by
  refine PE.w h fun σ H Q h => ?_
  obtain ⟨μ, env, S, d, S', he, hs, hf0, ha⟩ := h
  obtain ⟨it, S1, h1, hf⟩ := th_inv hf0
  clear hf0
  obtain ⟨Sf, hf, ef⟩ := Option.map_eq_some_iff.mp hf
  cases ef
  refine ⟨μ, env, S, it, S1, he, hs, h1, fun μ1 H1 J e1 k1 ok => ?_⟩
  intro p hp
  obtain ⟨y1, y2⟩ := dic_new k1 hp
  have hn : (μ1 ++ [p])[S1.length]? = some p := by
    rw [← k1.len, List.getElem?_append_right (Nat.le_refl _), Nat.sub_self]
    rfl
  refine ⟨fun i m H2 => ∃ μ2 S2, Ext c (μ1 ++ [p]) (upd H1 p (.dK [])) μ2 H2 ∧ StoOk c μ2 S2 H2 ∧ dcI it g tt tk tv S1.length (wipeE env vs) m i S2 = some S', ⟨it.len + 1, μ1 ++ [p], _, Ext.refl, y2, hf⟩, ?_⟩
  rintro i m H2 ⟨μ2, S2, e2, k2, hw⟩
  have en : EnvOk c μ2 H2 (wipeE env vs) (wipe σ vs) := (((he.mono e1).mono y1).mono e2).wipe vs
  have hn2 := e2.pre _ _ hn
  cases m with
  | zero => cases hw
  | succ m =>
    unfold dcI at hw
    split at hw
    · rename_i d g1
      obtain ⟨go, yl⟩ := (ok μ2 H2 S2 (y1.trans e2) k2 i).2 d g1
      obtain ⟨env3, S3, h3, hw⟩ := th_inv hw
      obtain ⟨k, S4, h4, hw⟩ := th_inv hw
      refine .inr ⟨go, fun H' => ∃ μ2 S2, Ext c (μ1 ++ [p]) (upd H1 p (.dK [])) μ2 H' ∧ StoOk c μ2 S2 H' ∧ dcI it g tt tk tv S1.length (wipeE env vs) m (i + 1) S2 = some S', fun H' q => ⟨m, Nat.lt_succ_self m, q⟩, fun x H' y => ?_⟩
      obtain ⟨μ', x1, x2, x3⟩ := yl x H' y
      refine ⟨μ', _, S2, d, env3, S3, en.mono x1, x2, x3, h3, fun μ3 H3 σ3 e3 k3 r3 w3 => ⟨(w3 vs rfl).trans (q_lc.wipe_wipe σ vs), ?_⟩⟩
      refine ⟨μ3, env3, S3, k, S4, r3, k3, h4, fun μ4 H4 e4 k4 => ?_⟩
      have e24 := e2.trans ((x1.trans e3).trans e4)
      cases k with
      | false =>
        rw [if_neg Bool.false_ne_true] at hw
        refine iteF ?_
        exact ⟨μ4, S4, e24, k4, hw⟩
      | true =>
        rw [if_pos rfl] at hw
        refine iteT ?_
        obtain ⟨y, S5, h5, hw⟩ := th_inv hw
        obtain ⟨z, S6, h6, hw⟩ := th_inv hw
        refine ⟨μ4, env3, S4, y, S5, r3.mono e4, k4, h5, fun μ5 H5 v e5 k5 r5 => ?_⟩
        refine ⟨μ5, env3, S5, z, S6, (r3.mono e4).mono e5, k5, h6, fun μ6 H6 w e6 k6 r6 => ?_⟩
        split at hw
        · rename_i kvs k' g6 g7
          split at hw
          · rename_i hz
            have e26 := (e24.trans e5).trans e6
            have hn5 := e26.pre _ _ hn
            obtain ⟨a', g8, ys, q7, r7⟩ := k6.stands _ _ g6
            rw [hn5] at g8
            cases g8
            obtain ⟨z1, z2⟩ := dic_set k6 g6 hn5 q7 (r7.put (k := k') r6)
            exact ⟨ys, k', keyD_rep r5 g7, q7, by rw [r7.len]; exact cap_lt hz, μ6, _, e26.trans z1, z2, hw⟩
          · cases hw
        · cases hw
    · rename_i g1
      cases hw
      exact .inl ⟨(ok μ2 H2 S' (y1.trans e2) k2 i).1 g1, ha μ2 H2 _ ((e1.trans y1).trans e2) k2 ⟨p, hn2, rfl⟩⟩
    · cases hw
end

/-! ### defs -/
/-- the slots at the entry: the arguments, then nothing -/
def env0 (n : Nat) (ds : List D) : Env := ds.map some ++ List.replicate (n - ds.length) none
def fnF (n np : Nat) (b : FS) : FF := fun ds S => if ds.length = np then th (b (env0 n ds) S) fun o S1 => match o with
  | .nx _ => some (.non, S1)
  | .rt d => some (d, S1)
  | _ => none
  else none
theorem env0_ok {c : FC} {μ : List Addr} {H : Hp} {ds : List D} {vs : List V} (N : List Str) (r : Reps c μ H ds vs) : EnvOk c μ H (env0 N.length ds) (L2.start N vs) := by
  refine ⟨by unfold env0 L2.start; simp [r.len], fun i d h => ?_⟩
  unfold env0 at h
  by_cases hi : i < ds.length
  · rw [List.getElem?_append_left (by simpa using hi), List.getElem?_map] at h
    obtain ⟨d', e1, e2⟩ := Option.map_eq_some_iff.mp h
    cases e2
    obtain ⟨v, e3, rv⟩ := r.get e1
    refine ⟨v, ?_, rv⟩
    unfold L2.start
    rw [List.getElem?_append_left (by simpa [r.len] using hi), List.getElem?_map, e3]
    rfl
  · rw [List.getElem?_append_right (by simpa using Nat.le_of_not_lt hi)] at h
    have := List.mem_of_getElem? h
    rw [List.mem_replicate] at this
    cases this.2
theorem len_spF {c : FC} {n : Nat} {F : FF} : ∀ vs H Q E, spF c n F vs H Q E → vs.length = n := fun _ _ _ _ h => h.1
theorem start_red {c : FC} {N : List Str} {np : Nat} {b : FS} {vs : List V} {H : Hp} {Q : VK} {E : XK} (h : spF c np (fnF N.length np b) vs H Q E) : tS c b { nx := fun _ H' => Q .non H', rt := Q } (L2.start N vs) H := by
  obtain ⟨hl, μ, S, ds, d, S', hs, r, hf, ha⟩ := h
  unfold fnF at hf
  split at hf
  · obtain ⟨o, S1, h1, hf⟩ := th_inv hf
    refine ⟨μ, env0 N.length ds, S, o, S1, env0_ok N r, hs, h1, fun μ1 H1 e1 k1 => ?_⟩
    cases o with
    | nx e =>
      cases hf
      exact fun σ' _ => ha _ _ _ e1 k1 rfl
    | rt d' =>
      cases hf
      exact fun v rv => ha _ _ _ e1 k1 rv
    | bk e => cases hf
    | ct e => cases hf
  · cases hf
end FL
/-! FL11: packs for defs, constants, classes; the law's end. -/
namespace FL
open PySem PySem.Spec PyProof.Rows L2

/-- the def x of the module as the function F of its parameters ps -/
structure Fp (c : FC) (P : Program) (w : World) (mg : Str → Option Value) (base : Heap) (k : Nat) (x : Str) (ps : List Str) (F : FF) : Prop where
  ex : ∃ f fd, FnOk P w c.K mg base CX0 k f fd ps (spF c ps.length F) ∧ mg x = some (.ref f) ∧ PySem.W.keepIn c.K (.ref f) = true ∧ Binds c.K fd ps []
/-- the method m of the class k -/
structure Mp (c : FC) (P : Program) (w : World) (mg : Str → Option Value) (base : Heap) (k : Nat) (C m : Str) (ps : List Str) (F : FF) : Prop where
  ex : ∃ f fd, FnOk P w c.K mg base CX0 k f fd ps (spF c ps.length F) ∧ Meth c.K (c.ct C) m f ∧ Binds c.K fd ps [] ∧ Cls c.K (c.ct C)
/-- the class C, x its name, by its __init__ -/
structure Ip (c : FC) (P : Program) (w : World) (mg : Str → Option Value) (base : Heap) (k : Nat) (C : Str) (ps : List Str) (F : FF) : Prop where
  ex : ∃ f fd, FnOk P w c.K mg base CX0 k f fd ps (spF c ps.length F) ∧ mg C = some (.ref (c.ct C)) ∧ Mk c.K (c.ct C) f ∧ Binds c.K fd ps []
/-- the constant x of the module -/
structure Kp (c : FC) (mg : Str → Option Value) (x : Str) (d : D) : Prop where
  ex : ∃ u, mg x = some u ∧ Cst c u d
def absD : Value → Option D
  | .none => some .non
  | .bool b => some (.bl b)
  | .int i _ => some (.int i)
  | .str x _ => some (.str x)
  | _ => none
def absDs : List Value → Option (List D)
  | [] => some []
  | u :: us => match absD u, absDs us with
    | some d, some ds => some (d :: ds)
    | _, _ => none
section
variable {c : FC} {X : Cx} {P : Program} {w : World} {mg : Str → Option Value} {base : Heap}
theorem absD_ok : ∀ {u : Value} {d : D}, absD u = some d → Cst c u d
  | .none, _, h => by
    cases h
    exact ⟨.non, rfl, fun _ _ => rfl⟩
  | .bool b, _, h => by
    cases h
    exact ⟨.bl b, rfl, fun _ _ => rfl⟩
  | .int i t, _, h => by
    cases h
    exact ⟨.int i, ⟨t, rfl⟩, fun _ _ => rfl⟩
  | .str x t, _, h => by
    cases h
    exact ⟨.str x, ⟨t, rfl⟩, fun _ _ => rfl⟩
  | .ref _, _, h => by cases h
  | .type _, _, h => by cases h
  | .builtin _, _, h => by cases h
  | .bytes _ _, _, h => by cases h
  | .float _ _, _, h => by cases h
theorem absDs_ok : ∀ {us : List Value} {ds : List D}, absDs us = some ds → ∃ xs, Vals xs us ∧ ∀ μ H, Reps c μ H ds xs
  | [], _, h => by
    cases h
    exact ⟨[], .nil, fun _ _ => rfl⟩
  | u :: us, ds, h => by
    unfold absDs at h
    split at h
    · rename_i d ds' e1 e2
      cases h
      obtain ⟨v, r, q⟩ := absD_ok (c := c) e1
      obtain ⟨xs, r', q'⟩ := absDs_ok e2
      exact ⟨v :: xs, .cons r r', fun μ H => ⟨v, xs, rfl, q μ H, q' μ H⟩⟩
    · cases h
theorem cst_tup {p : Addr} {its : Array Value} {n : Nat} {sl : Array (Option Value)} {ds : List D} (l : c.K.lookup p = some ⟨.type "tuple", none, .seq its n, sl⟩) (e : absDs its.toList = some ds) (hs : its.size ≤ cap) : Cst c (.ref p) (.tup ds) := by
  obtain ⟨xs, r, q⟩ := absDs_ok (c := c) e
  exact ⟨.ref p, rfl, fun μ H => ⟨p, xs, rfl, .inr ⟨_, its, n, l, rfl, rfl, rfl, cap_le hs, r⟩, q μ H⟩⟩
theorem kp_val {h : Heap} {x : Str} {u : Value} {d : D} (X : c.K.In h) (G : h.Ns mainGlobals mg) (a : PySem.W.nsIn c.K mainGlobals x = some (some u)) (e : absD u = some d) : Kp c mg x d := ⟨u, PySem.W.mg_of X G a, absD_ok e⟩
theorem kp_tup {h : Heap} {x : Str} {p : Addr} {its : Array Value} {n : Nat} {sl : Array (Option Value)} {ds : List D} (X : c.K.In h) (G : h.Ns mainGlobals mg) (a : PySem.W.nsIn c.K mainGlobals x = some (some (.ref p)))
    (l : c.K.lookup p = some ⟨.type "tuple", none, .seq its n, sl⟩) (e : absDs its.toList = some ds) (hs : its.size ≤ cap) : Kp c mg x (.tup ds) := ⟨_, PySem.W.mg_of X G a, cst_tup l e hs⟩
theorem q_globK {x : Str} {d : D} {pos : Pos} (h : Kp c X.mg x d) (hg : Gl X x) (hd : (x == ("__debug__" : Str)) = false := by decide) : PE X (.Name x pos) (tE c (eC d)) :=
  let ⟨_, m, k⟩ := h.ex
  q_glob hg m k hd
theorem Fp.mono {j k : Nat} {x : Str} {ps : List Str} {F : FF} (h : Fp c P w mg base j x ps F) (q : j ≤ k) : Fp c P w mg base k x ps F :=
  let ⟨f, fd, h1, h2⟩ := h.ex
  ⟨f, fd, h1.mono q, h2⟩
theorem Mp.mono {j k : Nat} {x m : Str} {ps : List Str} {F : FF} (h : Mp c P w mg base j x m ps F) (q : j ≤ k) : Mp c P w mg base k x m ps F :=
  let ⟨f, fd, h1, h2⟩ := h.ex
  ⟨f, fd, h1.mono q, h2⟩
theorem Ip.mono {j k : Nat} {x : Str} {ps : List Str} {F : FF} (h : Ip c P w mg base j x ps F) (q : j ≤ k) : Ip c P w mg base k x ps F :=
  let ⟨f, fd, h1, h2⟩ := h.ex
  ⟨f, fd, h1.mono q, h2⟩
variable {k : Nat} {x : Str} {ps : List Str} {F : FF} {e o : Expr} {es : List Expr} {fr : FA} {fo : FE} {p pos apos : Pos}
theorem q_callP (hK : c.K = X.K) (h : Fp c X.prog X.w X.mg X.base k x ps F) (hr : Room k X.A) (hg : Gl X x) (ha : PA X (e :: es) (tA c fr)) (hl : ∀ (env : Env) (S : Sto) (ds : List D) (S' : Sto), fr env S = some (ds, S') → ds.length = ps.length)
    (hdb : (x == ("__debug__" : Str)) = false := by decide) (he : starEach (e :: es) X.env = (false, eval e X.env) :: starEach es X.env := by rfl) (hpl : (backTo pos (starEach es X.env)).any (·.1) = false := by rfl) :
    PE X (.Call (.Name x p) (e :: es) [] pos) (tE c (eCall F fr)) := by
  obtain ⟨f, fd, h1, h2, h3, h4⟩ := h.ex
  rw [hK] at h1 h3 h4
  exact q_fn (E := fun _ _ _ => False) (pe_call h1 hr hg h2 h3 h4 .nil pass0 ha hdb he hpl) hl
theorem q_callP0 (hK : c.K = X.K) (h : Fp c X.prog X.w X.mg X.base k x [] F) (hr : Room k X.A) (hg : Gl X x) (hdb : (x == ("__debug__" : Str)) = false := by decide) :
    PE X (.Call (.Name x p) [] [] pos) (tE c (eCall F aNil)) := by
  obtain ⟨f, fd, h1, h2, h3, h4⟩ := h.ex
  rw [hK] at h1 h3 h4
  refine q_fn (E := fun _ _ _ => False) (PE.w (pe_call0 h1 hr hg h2 h3 h4 .nil pass0 hdb) fun σ H Q q => ?_) len0
  obtain ⟨μ, env, S, ds, S', he, hs, hf, ha⟩ := q
  cases hf
  exact ha μ H [] Ext.refl hs rfl
theorem q_methP {C m : Str} (hK : c.K = X.K) (h : Mp c X.prog X.w X.mg X.base k C m ps F) (hr : Room k X.A) (ho : PE X o (tE c fo)) (ha : PA X (e :: es) (tA c fr)) (hl : ∀ (env : Env) (S : Sto) (ds : List D) (S' : Sto), fr env S = some (ds, S') → ds.length + 1 = ps.length) {pl : Sem Bool}
    (hst : starEach (e :: es) X.env = (false, eval e X.env) :: starEach es X.env := by rfl) (hpl : (backTo pos (starEach es X.env)).any (·.1) = false := by rfl)
    (ht : eval (.Call (.Attribute o m apos) (e :: es) [] pos) X.env = (do
      let ov ← eval o X.env
      standAt apos.atName
      let (f, first) ← holding [ov] (getMethod ov m pl)
      callWith pos f first (backTo pos (starEach (e :: es) X.env)) (backToKw pos (keywordEach [] X.env))) := by rfl) :
    PE X (.Call (.Attribute o m apos) (e :: es) [] pos) (tE c (eMeth C m F fo fr)) := by
  obtain ⟨f, fd, h1, h2, h3, h4⟩ := h.ex
  rw [hK] at h1 h2 h3 h4
  exact q_meth (E := fun _ _ _ => False) (pe_meth ho h4 h2 h1 hr h3 .nil pass0 ha hst hpl ht) hl
theorem q_methP0 {C m : Str} (hK : c.K = X.K) (h : Mp c X.prog X.w X.mg X.base k C m ps F) (hr : Room k X.A) (ho : PE X o (tE c fo)) (hl : 1 = ps.length) {pl : Sem Bool}
    (ht : eval (.Call (.Attribute o m apos) [] [] pos) X.env = (do
      let ov ← eval o X.env
      standAt apos.atName
      let (f, first) ← holding [ov] (getMethod ov m pl)
      callWith pos f first (backTo pos (starEach [] X.env)) (backToKw pos (keywordEach [] X.env))) := by rfl) :
    PE X (.Call (.Attribute o m apos) [] [] pos) (tE c (eMeth C m F fo aNil)) := by
  obtain ⟨f, fd, h1, h2, h3, h4⟩ := h.ex
  rw [hK] at h1 h2 h3 h4
  refine q_meth (n := ps.length) (E := fun _ _ _ => False) (PE.w (pe_meth0 ho h4 h2 h1 hr h3 .nil pass0 ht) fun σ H Q q => ?_) (fun _ _ _ _ h => by cases h; exact hl)
  refine nilR q fun σ H Q Q' m h => ?_
  obtain ⟨μ, env, S, d, S', he, hs, hf, ha⟩ := h
  exact ⟨μ, env, S, d, S', he, hs, hf, fun μ1 H1 v e1 k1 r1 => m v H1 (ha μ1 H1 v e1 k1 r1)⟩
where
  nilR {C : Addr} {m : Str} {sp : Sp} {E : XK} {t : TE} {σ : L2.St} {H : Hp} {Q : VK} (q : tMeth C m sp [] E t (tA c aNil) σ H Q) (hm : ∀ σ H (Q Q' : VK), (∀ v H, Q v H → Q' v H) → t σ H Q → t σ H Q') : tMeth C m sp [] E t tNil σ H Q := by
    refine hm σ H _ _ ?_ q
    rintro v H1 ⟨a, dx, fs, r1, r2, r3, μ, env, S, ds, S', he, hs, hf, ha⟩
    cases hf
    exact ⟨a, dx, fs, r1, r2, r3, ha μ H1 [] Ext.refl hs rfl⟩
/-- the law's promise, from what its function answers -/
theorem end_red {F : FF} {ns : List Int} {H : Hp} {a : Addr} {E : XK} (h : ∃ S', F [.ref 0] [.ro (ns.map D.int)] = some (.bl true, S')) (hO : Only H) (hS : SqL c.K H a (ns.map V.int)) : spF c 1 F [.ref a] H (fun v _ => v = .bl true) E := by
  obtain ⟨S', hf⟩ := h
  have r : RepO c [a] H a (.ro (ns.map D.int)) := by
    refine ⟨ns.map V.int, ?_, ints_rep ns⟩
    rcases hS with (h | h) | h
    · rcases hO a with q | ⟨o, xs, q⟩ <;> (rw [h] at q; cases q)
    · exact .inl h
    · exact .inr h
  refine ⟨rfl, [a], [.ro (ns.map D.int)], [.ref 0], .bl true, S', ⟨rfl, fun n o e => ?_, fun n m b o o' e1 e2 w1 w2 => ?_⟩, ⟨_, _, rfl, ⟨a, rfl, rfl⟩, rfl⟩, hf, fun μ' H' v _ _ r => r⟩
  · match n, e with
    | 0, e =>
      cases e
      exact ⟨a, rfl, r⟩
  · match n, e1 with
    | 0, e1 =>
      cases e1
      cases w1
end
end FL
/-! FL12: what the functions compute: a calculus of values (no program in sight). -/
namespace FL
open PySem L2

/-- r answers, and what it answers has Q -/
def W {α : Type} (r : Option (α × Sto)) (Q : α → Sto → Prop) : Prop := ∃ x S, r = some (x, S) ∧ Q x S
@[simp] theorem W_some {α : Type} (x : α) (S : Sto) (Q : α → Sto → Prop) : W (some (x, S)) Q ↔ Q x S := ⟨fun ⟨_, _, e, q⟩ => by cases e; exact q, fun q => ⟨x, S, rfl, q⟩⟩
@[simp] theorem W_none {α : Type} (Q : α → Sto → Prop) : W (none : Option (α × Sto)) Q ↔ False := ⟨(fun ⟨_, _, e, _⟩ => nomatch e), False.elim⟩
@[simp] theorem W_th {α β : Type} (r : Option (α × Sto)) (k : α → Sto → Option (β × Sto)) (Q : β → Sto → Prop) : W (th r k) Q ↔ W r fun x S => W (k x S) Q := by
  cases r with
  | none => simp
  | some p =>
    obtain ⟨x, S⟩ := p
    simp
theorem W.mono {α : Type} {r : Option (α × Sto)} {Q Q' : α → Sto → Prop} (h : W r Q) (m : ∀ x S, Q x S → Q' x S) : W r Q' := let ⟨x, S, e, q⟩ := h; ⟨x, S, e, m x S q⟩
theorem W.of {α : Type} {r : Option (α × Sto)} {Q : α → Sto → Prop} {x : α} {S : Sto} (e : r = some (x, S)) (q : Q x S) : W r Q := ⟨x, S, e, q⟩
theorem W_map {α β : Type} {r : Option (α × Sto)} {f : α × Sto → β × Sto} {Q : β → Sto → Prop} (h : W r fun x S => Q (f (x, S)).1 (f (x, S)).2) : W (r.map f) Q := by
  obtain ⟨x, S, e, q⟩ := h
  exact ⟨_, _, by rw [e]; rfl, q⟩
theorem W_if {α : Type} {p : Prop} [Decidable p] {a b : Option (α × Sto)} {Q : α → Sto → Prop} (h1 : p → W a Q) (h2 : ¬ p → W b Q) : W (if p then a else b) Q := by
  by_cases h : p
  · rw [if_pos h]; exact h1 h
  · rw [if_neg h]; exact h2 h

/-! ### stores -/
def Ap (S S' : Sto) : Prop := ∀ (m : Nat) (o : O), S[m]? = some o → S'[m]? = some o
theorem Ap.refl (S : Sto) : Ap S S := fun _ _ h => h
theorem Ap.trans {S S1 S2 : Sto} (a : Ap S S1) (b : Ap S1 S2) : Ap S S2 := fun m o h => b m o (a m o h)
theorem Ap.app (S J : Sto) : Ap S (S ++ J) := fun m o h => by
  rw [List.getElem?_append_left (List.getElem?_eq_some_iff.mp h).1]
  exact h
theorem Ap.len {S S' : Sto} (h : Ap S S') : S.length ≤ S'.length := by
  by_cases z : S.length ≤ S'.length
  · exact z
  · have hl : S'.length < S.length := by omega
    have := h S'.length _ (List.getElem?_eq_getElem hl)
    have := (List.getElem?_eq_some_iff.mp this).1
    omega
theorem Ap.set {S S1 : Sto} {n : Nat} {o : O} (h : Ap S S1) (hn : S.length ≤ n) : Ap S (S1.set n o) := fun m o' e => by
  rw [List.getElem?_set_ne]
  · exact h m o' e
  · intro z
    have := (List.getElem?_eq_some_iff.mp e).1
    omega
/-- only the place n may change -/
def Kn (n : Nat) (S S' : Sto) : Prop := ∀ (m : Nat) (o : O), m ≠ n → S[m]? = some o → S'[m]? = some o
theorem Ap.kn {S S' : Sto} (h : Ap S S') (n : Nat) : Kn n S S' := fun m o _ e => h m o e
theorem Kn.refl (n : Nat) (S : Sto) : Kn n S S := fun _ _ _ h => h
theorem Kn.trans {n : Nat} {S S1 S2 : Sto} (a : Kn n S S1) (b : Kn n S1 S2) : Kn n S S2 := fun m o z h => b m o z (a m o z h)
theorem Kn.set (n : Nat) (S : Sto) (o : O) : Kn n S (S.set n o) := fun m o' z e => by
  rw [List.getElem?_set_ne (fun q => z q.symm)]
  exact e
theorem set_at {S : Sto} {n : Nat} {o o' : O} (h : S[n]? = some o) : (S.set n o')[n]? = some o' := List.getElem?_set_self (List.getElem?_eq_some_iff.mp h).1
theorem new_at (S : Sto) (o : O) : (S ++ [o])[S.length]? = some o := by simp
theorem getL_of {S : Sto} {n : Nat} {ds : List D} (h : S[n]? = some (.lst ds)) : getL S n = some ds := by unfold getL; rw [h]
theorem getL_ro {S : Sto} {n : Nat} {ds : List D} (h : S[n]? = some (.ro ds)) : getL S n = some ds := by unfold getL; rw [h]
theorem getL_ap {S S' : Sto} {n : Nat} {ds : List D} (h : getL S n = some ds) (a : Ap S S') : getL S' n = some ds := by
  unfold getL at h ⊢
  split at h
  · rename_i e
    rw [a _ _ e]; exact h
  · rename_i e
    rw [a _ _ e]; exact h
  · cases h
theorem lt_of_at {S : Sto} {n : Nat} {o : O} (h : S[n]? = some o) : n < S.length := (List.getElem?_eq_some_iff.mp h).1
/-- a new place -/
theorem W_new {Q : D → Sto → Prop} {S : Sto} {o : O} (h : ∀ (n : Nat) (S' : Sto), n = S.length → Ap S S' → S'[n]? = some o → S'.length = S.length + 1 → Q (.ref n) S') : W (some (D.ref S.length, S ++ [o])) Q :=
  ⟨_, _, rfl, h _ _ rfl (Ap.app S [o]) (new_at S o) (by simp)⟩

/-! ### statements and defs -/
def QS (g : FS) (Q : Out → Sto → Prop) : Out → Sto → Prop := fun o S => match o with
  | .nx e => W (g e S) Q
  | o => Q o S
@[simp] theorem QS_nx (g : FS) (Q : Out → Sto → Prop) (e : Env) (S : Sto) : QS g Q (.nx e) S ↔ W (g e S) Q := Iff.rfl
@[simp] theorem QS_rt (g : FS) (Q : Out → Sto → Prop) (d : D) (S : Sto) : QS g Q (.rt d) S ↔ Q (.rt d) S := Iff.rfl
@[simp] theorem QS_bk (g : FS) (Q : Out → Sto → Prop) (e : Env) (S : Sto) : QS g Q (.bk e) S ↔ Q (.bk e) S := Iff.rfl
@[simp] theorem QS_ct (g : FS) (Q : Out → Sto → Prop) (e : Env) (S : Sto) : QS g Q (.ct e) S ↔ Q (.ct e) S := Iff.rfl
def QF (Q : D → Sto → Prop) : Out → Sto → Prop := fun o S => match o with
  | .nx _ => Q .non S
  | .rt d => Q d S
  | _ => False
@[simp] theorem QF_nx (Q : D → Sto → Prop) (e : Env) (S : Sto) : QF Q (.nx e) S ↔ Q .non S := Iff.rfl
@[simp] theorem QF_rt (Q : D → Sto → Prop) (d : D) (S : Sto) : QF Q (.rt d) S ↔ Q d S := Iff.rfl
@[simp] theorem w_seq (f g : FS) (env : Env) (S : Sto) (Q : Out → Sto → Prop) : W (sSeq f g env S) Q ↔ W (f env S) (QS g Q) := by
  unfold sSeq
  rw [W_th]
  constructor
  · rintro ⟨o, S1, e, h⟩
    refine ⟨o, S1, e, ?_⟩
    cases o with
    | nx e => exact h
    | rt d => simpa using h
    | bk d => simpa using h
    | ct d => simpa using h
  · rintro ⟨o, S1, e, h⟩
    refine ⟨o, S1, e, ?_⟩
    cases o with
    | nx e => exact h
    | rt d => simpa using h
    | bk d => simpa using h
    | ct d => simpa using h
theorem w_fn {n np : Nat} {b : FS} {ds : List D} {S : Sto} {Q : D → Sto → Prop} (hl : ds.length = np) (h : W (b (env0 n ds) S) (QF Q)) : W (fnF n np b ds S) Q := by
  unfold fnF
  rw [if_pos hl, W_th]
  obtain ⟨o, S1, e, h⟩ := h
  refine ⟨o, S1, e, ?_⟩
  cases o with
  | nx e => simpa using h
  | rt d => simpa using h
  | bk d => exact h.elim
  | ct d => exact h.elim
section
variable {env : Env} {S : Sto} {Q : Out → Sto → Prop}
@[simp] theorem w_nil : W (sNil env S) Q ↔ Q (.nx env) S := W_some ..
@[simp] theorem w_ret (fe : FE) : W (sRet fe env S) Q ↔ W (fe env S) fun d S1 => Q (.rt d) S1 := by unfold sRet; simp
@[simp] theorem w_retN : W (sRetN env S) Q ↔ Q (.rt .non) S := W_some ..
@[simp] theorem w_drop (fe : FE) : W (sDrop fe env S) Q ↔ W (fe env S) fun _ S1 => Q (.nx env) S1 := by unfold sDrop; simp
@[simp] theorem w_brk : W (sBrk env S) Q ↔ Q (.bk env) S := W_some ..
@[simp] theorem w_cnt : W (sCnt env S) Q ↔ Q (.ct env) S := W_some ..
@[simp] theorem w_sif (t : FT) (f g : FS) : W (sIf t f g env S) Q ↔ W (t env S) fun b S1 => (if b = true then W (f env S1) Q else W (g env S1) Q) := by
  unfold sIf
  rw [W_th]
  constructor <;>
  · rintro ⟨b, S1, e, h⟩
    refine ⟨b, S1, e, ?_⟩
    cases b <;> simpa using h
@[simp] theorem w_asg (fe : FE) (g : FG) : W (sAsg fe g env S) Q ↔ W (fe env S) fun d S1 => W (g d env S1) fun env1 S2 => Q (.nx env1) S2 := by unfold sAsg; simp
theorem w_par (is : List Nat) (fr : FA) : W (sPar is fr env S) Q ↔ W (fr env S) fun ds S1 => ds.length = is.length ∧ Q (.nx ((is.zip ds).foldl (fun e p => e.set p.1 (some p.2)) env)) S1 := by
  unfold sPar
  rw [W_th]
  constructor
  · rintro ⟨ds, S1, e, h⟩
    refine ⟨ds, S1, e, ?_⟩
    by_cases z : ds.length = is.length
    · rw [if_pos z] at h; exact ⟨z, by simpa using h⟩
    · rw [if_neg z] at h; simp at h
  · rintro ⟨ds, S1, e, z, h⟩
    refine ⟨ds, S1, e, ?_⟩
    simpa [z] using h
end
section
variable {env : Env} {S : Sto} {Q : D → Sto → Prop} {QA : List D → Sto → Prop} {QT : Bool → Sto → Prop} {QE : Env → Sto → Prop}
@[simp] theorem w_c (d : D) : W (eC d env S) Q ↔ Q d S := W_some ..
theorem w_var {i : Nat} {d : D} (h : env[i]? = some (some d)) : W (eVar i env S) Q ↔ Q d S := by unfold eVar; rw [h]; simp
@[simp] theorem w_bin (r : F2) (fa fb : FE) : W (eBin r fa fb env S) Q ↔ W (fa env S) fun x S1 => W (fb env S1) fun y S2 => W (r x y S2) Q := by unfold eBin; simp
@[simp] theorem w_un (r : F1) (fa : FE) : W (eUn r fa env S) Q ↔ W (fa env S) fun x S1 => W (r x S1) Q := by unfold eUn; simp
@[simp] theorem w_anil : W (aNil env S) QA ↔ QA [] S := W_some ..
@[simp] theorem w_acons (fa : FE) (fr : FA) : W (aCons fa fr env S) QA ↔ W (fa env S) fun x S1 => W (fr env S1) fun xs S2 => QA (x :: xs) S2 := by unfold aCons; simp
@[simp] theorem w_tup (fr : FA) : W (eTup fr env S) Q ↔ W (fr env S) fun ds S1 => ds.length ≤ cap ∧ Q (.tup ds) S1 := by
  unfold eTup
  rw [W_th]
  constructor
  · rintro ⟨ds, S1, e, h⟩
    refine ⟨ds, S1, e, ?_⟩
    by_cases z : ds.length ≤ cap
    · rw [if_pos z] at h; exact ⟨z, by simpa using h⟩
    · rw [if_neg z] at h; simp at h
  · rintro ⟨ds, S1, e, z, h⟩
    refine ⟨ds, S1, e, ?_⟩
    simpa [z] using h
@[simp] theorem w_lst (fr : FA) : W (eLst fr env S) Q ↔ W (fr env S) fun ds S1 => ds.length ≤ cap ∧ W (some (D.ref S1.length, S1 ++ [.lst ds])) Q := by
  unfold eLst
  rw [W_th]
  constructor
  · rintro ⟨ds, S1, e, h⟩
    refine ⟨ds, S1, e, ?_⟩
    by_cases z : ds.length ≤ cap
    · rw [if_pos z] at h; exact ⟨z, h⟩
    · rw [if_neg z] at h; simp at h
  · rintro ⟨ds, S1, e, z, h⟩
    refine ⟨ds, S1, e, ?_⟩
    simpa [z] using h
@[simp] theorem w_call (F : FF) (fr : FA) : W (eCall F fr env S) Q ↔ W (fr env S) fun ds S1 => W (F ds S1) Q := by unfold eCall; simp
@[simp] theorem w_tB (fe : FE) : W (tB fe env S) QT ↔ W (fe env S) fun d S1 => ∃ b, d = .bl b ∧ QT b S1 := by
  unfold tB
  rw [W_th]
  constructor
  · rintro ⟨d, S1, e, h⟩
    refine ⟨d, S1, e, ?_⟩
    cases d with
    | bl b => exact ⟨b, rfl, by simpa using h⟩
    | _ => simp at h
  · rintro ⟨d, S1, e, b, rfl, h⟩
    exact ⟨_, S1, e, by simpa using h⟩
@[simp] theorem w_tNot (t : FT) : W (tNot t env S) QT ↔ W (t env S) fun b S1 => QT (!b) S1 := by unfold tNot; simp
@[simp] theorem w_tAnd (a b : FT) : W (tAnd a b env S) QT ↔ W (a env S) fun k S1 => if k = true then W (b env S1) QT else QT false S1 := by
  unfold tAnd
  rw [W_th]
  constructor <;>
  · rintro ⟨d, S1, e, h⟩
    refine ⟨d, S1, e, ?_⟩
    cases d <;> simpa using h
@[simp] theorem w_tOr (a b : FT) : W (tOr a b env S) QT ↔ W (a env S) fun k S1 => if k = true then QT true S1 else W (b env S1) QT := by
  unfold tOr
  rw [W_th]
  constructor <;>
  · rintro ⟨d, S1, e, h⟩
    refine ⟨d, S1, e, ?_⟩
    cases d <;> simpa using h
@[simp] theorem w_eIf (t : FT) (a b : FE) : W (eIf t a b env S) Q ↔ W (t env S) fun k S1 => if k = true then W (a env S1) Q else W (b env S1) Q := by
  unfold eIf
  rw [W_th]
  constructor <;>
  · rintro ⟨d, S1, e, h⟩
    refine ⟨d, S1, e, ?_⟩
    cases d <;> simpa using h
@[simp] theorem w_isN (a : FE) : W (eIsN a env S) Q ↔ W (a env S) fun x S1 => Q (.bl (match x with | .non => true | _ => false)) S1 := by
  unfold eIsN
  rw [W_th]
  constructor <;>
  · rintro ⟨d, S1, e, h⟩
    refine ⟨d, S1, e, ?_⟩
    cases d <;> simpa using h
@[simp] theorem w_notN (a : FE) : W (eNotN a env S) Q ↔ W (a env S) fun x S1 => Q (.bl (match x with | .non => false | _ => true)) S1 := by
  unfold eNotN
  rw [W_th]
  constructor <;>
  · rintro ⟨d, S1, e, h⟩
    refine ⟨d, S1, e, ?_⟩
    cases d <;> simpa using h
@[simp] theorem w_gnm (i : Nat) (d : D) : W (gNm i d env S) QE ↔ QE (env.set i (some d)) S := W_some ..
@[simp] theorem w_gnils (S : Sto) : W (gNils [] env S) QE ↔ QE env S := W_some ..
@[simp] theorem w_gcns (g : FG) (gs : FGs) (d : D) (r : List D) : W (gCns g gs (d :: r) env S) QE ↔ W (g d env S) fun e1 S1 => W (gs r e1 S1) QE := by unfold gCns; simp
theorem w_gtp {n : Nat} {gs : FGs} {ds : List D} (h : ds.length = n) : W (gTp n gs (.tup ds) env S) QE ↔ W (gs ds env S) QE := by unfold gTp; simp only [if_pos h]
theorem w_gtpp {n : Nat} {gs : FGs} {ds : List D} (h : ds.length = n) : W (gTp n gs (.pr ds) env S) QE ↔ W (gs ds env S) QE := by unfold gTp; simp only [if_pos h]
@[simp] theorem w_add (i j : Int) : W (oAdd (.int i) (.int j) S) Q ↔ Q (.int (i + j)) S := W_some ..
@[simp] theorem w_sub (i j : Int) : W (oSub (.int i) (.int j) S) Q ↔ Q (.int (i - j)) S := W_some ..
@[simp] theorem w_neg (i : Int) : W (oNeg (.int i) S) Q ↔ Q (.int (-i)) S := W_some ..
@[simp] theorem w_lt (i j : Int) : W (oLt (.int i) (.int j) S) Q ↔ Q (.bl (decide (i < j))) S := W_some ..
@[simp] theorem w_le (i j : Int) : W (oLe (.int i) (.int j) S) Q ↔ Q (.bl (decide (i ≤ j))) S := W_some ..
@[simp] theorem w_gt (i j : Int) : W (oGt (.int i) (.int j) S) Q ↔ Q (.bl (decide (j < i))) S := W_some ..
@[simp] theorem w_ge (i j : Int) : W (oGe (.int i) (.int j) S) Q ↔ Q (.bl (decide (j ≤ i))) S := W_some ..
theorem w_mul {i j : Int} (h : okMul i j = true) : W (oMul (.int i) (.int j) S) Q ↔ Q (.int (i * j)) S := by unfold oMul; simp only [if_pos h, W_some]
theorem okMul_l {i j : Int} (h1 : -18446744073709551616 < i) (h2 : i < 18446744073709551616) : okMul i j = true := by unfold okMul; simp [h1, h2]
theorem okMul_r {i j : Int} (h1 : -18446744073709551616 < j) (h2 : j < 18446744073709551616) : okMul i j = true := by unfold okMul; simp [h1, h2]
theorem w_div {i j : Int} (h1 : 0 < j) (h2 : j < 18446744073709551616) : W (oDiv (.int i) (.int j) S) Q ↔ Q (.int (i / j)) S := by unfold oDiv okDiv; simp [h1, h2]
theorem w_mod {i j : Int} (h1 : 0 < j) : W (oMod (.int i) (.int j) S) Q ↔ Q (.int (i % j)) S := by unfold oMod; simp [h1]
@[simp] theorem w_abs (i : Int) : W (fAbs [.int i] S) Q ↔ Q (.int (if i < 0 then -i else i)) S := W_some ..
@[simp] theorem w_int (i : Int) : W (fInt [.int i] S) Q ↔ Q (.int i) S := W_some ..
@[simp] theorem w_intb (b : Bool) : W (fInt [.bl b] S) Q ↔ Q (.int (if b = true then 1 else 0)) S := W_some ..
@[simp] theorem w_max2 (i j : Int) : W (fMax [.int i, .int j] S) Q ↔ Q (.int (if j > i then j else i)) S := W_some ..
@[simp] theorem w_min2 (i j : Int) : W (fMin [.int i, .int j] S) Q ↔ Q (.int (if j < i then j else i)) S := W_some ..
theorem w_len {n : Nat} {ds : List D} (h : getL S n = some ds) : W (fLen [.ref n] S) Q ↔ Q (.int ds.length) S := by unfold fLen; simp [h]
theorem w_list {n : Nat} {ds : List D} (h : getL S n = some ds) : W (fList [.ref n] S) Q ↔ W (some (D.ref S.length, S ++ [.lst ds])) Q := by unfold fList; simp [h]
theorem w_max1 {n : Nat} {ds : List D} {ns : List Int} (h : getL S n = some ds) (e : intsD ds = some ns) (h0 : ns ≠ []) : W (fMax [.ref n] S) Q ↔ Q (.int (maxL ns)) S := by unfold fMax ints1; simp [h, e, h0]
theorem w_min1 {n : Nat} {ds : List D} {ns : List Int} (h : getL S n = some ds) (e : intsD ds = some ns) (h0 : ns ≠ []) : W (fMin [.ref n] S) Q ↔ Q (.int (minL ns)) S := by unfold fMin ints1; simp [h, e, h0]
theorem w_sum {n : Nat} {ds : List D} {ns : List Int} (h : getL S n = some ds) (e : intsD ds = some ns) : W (fSum [.ref n] S) Q ↔ Q (.int ns.sum) S := by unfold fSum ints1; simp [h, e]
theorem intsD_map : ∀ ns : List Int, intsD (ns.map D.int) = some ns
  | [] => rfl
  | n :: ns => by
    show (intsD (ns.map D.int)).map _ = _
    rw [intsD_map ns]
    rfl
theorem atI_nat {α : Type} {xs : List α} {k : Nat} {x : α} (h : xs[k]? = some x) : atI xs (k : Int) = some x := by
  have hk := (List.getElem?_eq_some_iff.mp h).1
  unfold atI ixN
  rw [if_pos (by omega), if_pos (by omega)]
  simpa using h
theorem atI_last {α : Type} {xs : List α} {x : α} (h : xs.getLast? = some x) : atI xs (-1) = some x := by
  have h0 : xs ≠ [] := by
    rintro rfl
    cases h
  have hl : 0 < xs.length := List.length_pos_iff.mpr h0
  unfold atI ixN
  rw [if_neg (by omega), if_pos (by omega)]
  rw [List.getLast?_eq_getElem?] at h
  show xs[((-1 : Int) + xs.length).toNat]? = some x
  rw [show ((-1 : Int) + xs.length).toNat = xs.length - 1 by omega]
  exact h
theorem w_ixL {n : Nat} {ds : List D} {i : Int} {d : D} (h : getL S n = some ds) (e : atI ds i = some d) : W (oIx (.ref n) (.int i) S) Q ↔ Q d S := by unfold oIx; simp [h, e]
theorem w_ixT {ds : List D} {i : Int} {d : D} (e : atI ds i = some d) : W (oIx (.tup ds) (.int i) S) Q ↔ Q d S := by unfold oIx; simp [e]
theorem w_ixDs {n : Nat} {kvs : List (Key × D)} {x : Str} {d : D} (h : S[n]? = some (.dic kvs)) (e : valG kvs (.inr x) = some d) : W (oIx (.ref n) (.str x) S) Q ↔ Q d S := by unfold oIx getL getD keyD; simp [h, e]
theorem cut_none {α : Type} (xs : List α) (k : Nat) : cutG xs none (some (k : Int)) = xs.take k := by
  unfold cutG
  rw [HT.sIx_none, HT.sIx_nat]
  simp [List.take_eq_take_iff]
theorem cut_from {α : Type} (xs : List α) (k : Nat) : cutG xs (some (k : Int)) none = xs.drop k := by
  unfold cutG
  rw [HT.sIx_none, HT.sIx_nat]
  by_cases h : k ≤ xs.length
  · rw [Nat.min_eq_left h]
    rw [← List.length_drop, List.take_length]
  · rw [Nat.min_eq_right (by omega)]
    simp
    omega
theorem w_sl {fe : FE} {fl fh : FO} : W (eSl fe fl fh env S) Q ↔ W (fe env S) fun x S1 => W (fl env S1) fun l S2 => W (fh env S2) fun h S3 => W (oSl x l h S3) Q := by unfold eSl; simp
@[simp] theorem w_pno {QO : Option Int → Sto → Prop} : W (pNo env S) QO ↔ QO none S := W_some ..
@[simp] theorem w_ppart {fe : FE} {QO : Option Int → Sto → Prop} : W (pPart fe env S) QO ↔ W (fe env S) fun d S1 => ∃ i, d = .int i ∧ QO (some i) S1 := by
  unfold pPart
  rw [W_th]
  constructor
  · rintro ⟨d, S1, e, h⟩
    refine ⟨d, S1, e, ?_⟩
    cases d with
    | int b => exact ⟨b, rfl, by simpa using h⟩
    | _ => simp at h
  · rintro ⟨d, S1, e, b, rfl, h⟩
    exact ⟨_, S1, e, by simpa using h⟩
theorem w_slL {n : Nat} {ds : List D} {lo hi : Option Int} (h : getL S n = some ds) : W (oSl (.ref n) lo hi S) Q ↔ W (some (D.ref S.length, S ++ [.lst (cutG ds lo hi)])) Q := by unfold oSl; simp [h]
theorem w_bm {T : String} {F : D → FF} {fo : FE} {fr : FA} : W (eBm T F fo fr env S) Q ↔ W (fo env S) fun x S1 => tyD T x S1 = true ∧ W (fr env S1) fun ds S2 => W (F x ds S2) Q := by
  unfold eBm
  rw [W_th]
  constructor
  · rintro ⟨x, S1, e, h⟩
    refine ⟨x, S1, e, ?_⟩
    by_cases z : tyD T x S1 = true
    · rw [if_pos z] at h; exact ⟨z, by simpa using h⟩
    · rw [if_neg z] at h; simp at h
  · rintro ⟨x, S1, e, z, h⟩
    refine ⟨x, S1, e, ?_⟩
    simpa [z] using h
theorem tyL {n : Nat} {ds : List D} (h : S[n]? = some (.lst ds)) : tyD "list" (.ref n) S = true := by unfold tyD; simp [h]
end

/-! ### equality -/
mutual
def dPy : D → PyData
  | .non => .none
  | .bl b => .bool b
  | .int i => .int i
  | .str x => .str x
  | .tup ds => .tuple (dPys ds)
  | .pr _ => .none
  | .ref _ => .none
def dPys : List D → List PyData
  | [] => []
  | d :: ds => dPy d :: dPys ds
end
mutual
def noRef : D → Bool
  | .ref _ => false
  | .pr _ => false
  | .tup ds => noRefs ds
  | _ => true
def noRefs : List D → Bool
  | [] => true
  | d :: ds => noRef d && noRefs ds
end
mutual
theorem toPy_no {g : Nat → Option PyData} : ∀ {d : D}, noRef d = true → toPyG g d = some (dPy d)
  | .non, _ => rfl
  | .bl _, _ => rfl
  | .int _, _ => rfl
  | .str _, _ => rfl
  | .tup ds, h => by
    show (toPysG g ds).map _ = _
    rw [toPys_no (ds := ds) h]
    rfl
  | .pr _, h => nomatch h
  | .ref _, h => nomatch h
theorem toPys_no {g : Nat → Option PyData} : ∀ {ds : List D}, noRefs ds = true → toPysG g ds = some (dPys ds)
  | [], _ => rfl
  | d :: ds, h => by
    have h' := Bool.and_eq_true_iff.mp (show (noRef d && noRefs ds) = true from h)
    show (toPyG g d).bind _ = _
    rw [toPy_no h'.1, Option.bind_some, toPys_no h'.2]
    rfl
end
theorem toPy_nr {S : Sto} {d : D} (h : noRef d = true) : toPy S d = some (dPy d) := toPy_no h
theorem toPy_lst {S : Sto} {n : Nat} {ds : List D} (h : getL S n = some ds) (k : noRefs ds = true) : toPy S (.ref n) = some (.list (dPys ds)) := by
  show refPy S 4 n = _
  unfold refPy
  rw [h, Option.bind_some, toPys_no k]
  rfl
/-- data that can be compared: depth at most 60 -/
def Sh (p : PyData) : Prop := p.canLay0 = true ∧ p.depth ≤ 30
theorem Sh.ok {p : PyData} (h : Sh p) : SeqAt.shaped p = true := by
  unfold SeqAt.shaped
  rw [h.1, Bool.true_and]
  exact decide_eq_true (by have := h.2; omega)
theorem sh_int (i : Int) : Sh (.int i) := ⟨by simp [PyData.canLay0], by simp [PyData.depth]⟩
theorem sh_non : Sh .none := ⟨by simp [PyData.canLay0], by simp [PyData.depth]⟩
theorem sh_bl (b : Bool) : Sh (.bool b) := ⟨by simp [PyData.canLay0], by simp [PyData.depth]⟩
theorem canAll {ps : List PyData} (h : ∀ p ∈ ps, p.canLay0 = true ∧ p.depth ≤ 10) : PyData.canLayAll0 ps = true ∧ PyData.depthAll ps ≤ 10 := by
  induction ps with
  | nil => exact ⟨by simp [PyData.canLayAll0], by simp [PyData.depthAll]⟩
  | cons p ps ih =>
    obtain ⟨h1, h2⟩ := ih fun q hq => h q (List.mem_cons_of_mem _ hq)
    obtain ⟨h3, h4⟩ := h p List.mem_cons_self
    refine ⟨by rw [PyData.canLayAll0, h3, h1]; rfl, ?_⟩
    rw [PyData.depthAll]
    omega
theorem sh_list {ps : List PyData} (h : ∀ p ∈ ps, p.canLay0 = true ∧ p.depth ≤ 10) : Sh (.list ps) := by
  obtain ⟨h1, h2⟩ := canAll h
  exact ⟨by rw [PyData.canLay0]; exact h1, by rw [PyData.depth]; omega⟩
theorem sh_tuple {ps : List PyData} (h : ∀ p ∈ ps, p.canLay0 = true ∧ p.depth ≤ 10) : Sh (.tuple ps) := by
  obtain ⟨h1, h2⟩ := canAll h
  exact ⟨by rw [PyData.canLay0]; exact h1, by rw [PyData.depth]; omega⟩
section
variable {S : Sto} {Q : D → Sto → Prop}
theorem w_eqS {x y : D} {p : PyData} (hx : toPy S x = some p) (hy : toPy S y = some p) (h : Sh p) : W (oEq x y S) Q ↔ Q (.bl true) S := by
  unfold oEq
  rw [hx, hy]
  simp only [h.ok, Bool.and_self, if_true, SeqAt.eqv_refl p h.1, W_some]
theorem w_neS {x y : D} {p : PyData} (hx : toPy S x = some p) (hy : toPy S y = some p) (h : Sh p) : W (oNe x y S) Q ↔ Q (.bl false) S := by
  unfold oNe
  rw [hx, hy]
  simp only [h.ok, Bool.and_self, if_true, SeqAt.eqv_refl p h.1, W_some, Bool.not_true]
theorem w_eqP {x y : D} {p q : PyData} (hx : toPy S x = some p) (hy : toPy S y = some q) (h : Sh p) (k : Sh q) : W (oEq x y S) Q ↔ Q (.bl (PyData.eqv p q)) S := by
  unfold oEq
  rw [hx, hy]
  simp only [h.ok, k.ok, Bool.and_self, if_true, W_some]
theorem w_neP {x y : D} {p q : PyData} (hx : toPy S x = some p) (hy : toPy S y = some q) (h : Sh p) (k : Sh q) : W (oNe x y S) Q ↔ Q (.bl (!PyData.eqv p q)) S := by
  unfold oNe
  rw [hx, hy]
  simp only [h.ok, k.ok, Bool.and_self, if_true, W_some]
@[simp] theorem w_eqI (i j : Int) : W (oEq (.int i) (.int j) S) Q ↔ Q (.bl (decide (i = j))) S := by
  rw [w_eqP (p := .int i) (q := .int j) rfl rfl (sh_int i) (sh_int j)]
  have : PyData.eqv (.int i) (.int j) = decide (i = j) := by
    rw [PyData.eqv]
    by_cases q : i = j <;> simp [q]
  rw [this]
@[simp] theorem w_neI (i j : Int) : W (oNe (.int i) (.int j) S) Q ↔ Q (.bl (!decide (i = j))) S := by
  rw [w_neP (p := .int i) (q := .int j) rfl rfl (sh_int i) (sh_int j)]
  have : PyData.eqv (.int i) (.int j) = decide (i = j) := by
    rw [PyData.eqv]
    by_cases q : i = j <;> simp [q]
  rw [this]
@[simp] theorem w_eqB (i j : Bool) : W (oEq (.bl i) (.bl j) S) Q ↔ Q (.bl (i == j)) S := by
  rw [w_eqP (p := .bool i) (q := .bool j) rfl rfl (sh_bl i) (sh_bl j)]
  rw [PyData.eqv]
@[simp] theorem w_neB (i j : Bool) : W (oNe (.bl i) (.bl j) S) Q ↔ Q (.bl (!(i == j))) S := by
  rw [w_neP (p := .bool i) (q := .bool j) rfl rfl (sh_bl i) (sh_bl j)]
  rw [PyData.eqv]
end
end FL
/-! FL13: loops and comprehensions by values; the tape of the laws. -/
namespace FL
open PySem L2

/-! ### loops -/
def QL (N : Env → Sto → Prop) (Q : Out → Sto → Prop) : Out → Sto → Prop := fun o S => match o with
  | .nx e => N e S
  | .ct e => N e S
  | .bk e => Q (.nx e) S
  | .rt d => Q (.rt d) S
@[simp] theorem QL_nx (N : Env → Sto → Prop) (Q : Out → Sto → Prop) (e : Env) (S : Sto) : QL N Q (.nx e) S ↔ N e S := Iff.rfl
@[simp] theorem QL_ct (N : Env → Sto → Prop) (Q : Out → Sto → Prop) (e : Env) (S : Sto) : QL N Q (.ct e) S ↔ N e S := Iff.rfl
@[simp] theorem QL_bk (N : Env → Sto → Prop) (Q : Out → Sto → Prop) (e : Env) (S : Sto) : QL N Q (.bk e) S ↔ Q (.nx e) S := Iff.rfl
@[simp] theorem QL_rt (N : Env → Sto → Prop) (Q : Out → Sto → Prop) (d : D) (S : Sto) : QL N Q (.rt d) S ↔ Q (.rt d) S := Iff.rfl
theorem w_for {fi : FI} {g : FG} {b : FS} {env : Env} {S : Sto} {Q : Out → Sto → Prop} : W (sFor fi g b env S) Q ↔ W (fi env S) fun it S1 => W (forI it g b (it.len + 1) 0 env S1) Q := by unfold sFor; simp
theorem for_inv {it : ItD} {ds : List D} {g : FG} {b : FS} {Q : Out → Sto → Prop} (Inv : Nat → Env → Sto → Prop) (hit : ∀ i env S, Inv i env S → it.it S i = some ds[i]?) (hlen : ds.length ≤ it.len)
    (step : ∀ i d env S, ds[i]? = some d → Inv i env S → W (g d env S) fun e1 S1 => W (b e1 S1) (QL (Inv (i + 1)) Q)) (fin : ∀ env S, Inv ds.length env S → Q (.nx env) S) {env : Env} {S : Sto} (h0 : Inv 0 env S) :
    W (forI it g b (it.len + 1) 0 env S) Q := by
  have key : ∀ (m i : Nat) (env : Env) (S : Sto), ds.length < i + m → i ≤ ds.length → Inv i env S → W (forI it g b m i env S) Q := by
    intro m
    induction m with
    | zero => intro i env S h1 h2; omega
    | succ m ih =>
      intro i env S h1 h2 hI
      unfold forI
      rw [hit i env S hI]
      by_cases hz : i < ds.length
      · rw [List.getElem?_eq_getElem hz]
        simp only [W_th]
        obtain ⟨e1, S1, q1, o, S2, q2, h⟩ := step i _ env S (List.getElem?_eq_getElem hz) hI
        refine ⟨e1, S1, q1, o, S2, q2, ?_⟩
        cases o with
        | nx e => exact ih (i + 1) e S2 (by omega) (by omega) h
        | ct e => exact ih (i + 1) e S2 (by omega) (by omega) h
        | bk e => simpa using h
        | rt d => simpa using h
      · have e : i = ds.length := by omega
        subst e
        rw [List.getElem?_eq_none (Nat.le_refl _)]
        simpa using fin env S hI
  exact key _ 0 env S (by omega) (Nat.zero_le _) h0
/-- a loop over a list that stays -/
theorem for_lst {n : Nat} {ds : List D} {g : FG} {b : FS} {Q : Out → Sto → Prop} (Inv : Nat → Env → Sto → Prop) (hit : ∀ i env S, Inv i env S → getL S n = some ds)
    (step : ∀ i d env S, ds[i]? = some d → Inv i env S → W (g d env S) fun e1 S1 => W (b e1 S1) (QL (Inv (i + 1)) Q)) (fin : ∀ env S, Inv ds.length env S → Q (.nx env) S) {env : Env} {S : Sto} (h0 : Inv 0 env S) :
    W (forI (.lst n ds.length) g b (ds.length + 1) 0 env S) Q :=
  for_inv (it := .lst n ds.length) Inv (fun i env S h => by unfold ItD.lst; simp [hit i env S h]) (Nat.le_refl _) step fin h0
theorem for_fix {ds : List D} {g : FG} {b : FS} {Q : Out → Sto → Prop} (Inv : Nat → Env → Sto → Prop)
    (step : ∀ i d env S, ds[i]? = some d → Inv i env S → W (g d env S) fun e1 S1 => W (b e1 S1) (QL (Inv (i + 1)) Q)) (fin : ∀ env S, Inv ds.length env S → Q (.nx env) S) {env : Env} {S : Sto} (h0 : Inv 0 env S) :
    W (forI (.fix ds) g b (ds.length + 1) 0 env S) Q :=
  for_inv (it := .fix ds) Inv (fun i env S h => rfl) (Nat.le_refl _) step fin h0
theorem rng_len (lo : Int) (n : Nat) : (rngD lo n).length = n := by simp [rngD]
theorem rng_get {lo : Int} {n i : Nat} {d : D} (h : (rngD lo n)[i]? = some d) : d = .int (lo + i) ∧ i < n := by
  have hl := (List.getElem?_eq_some_iff.mp h).1
  rw [rng_len] at hl
  unfold rngD at h
  rw [List.getElem?_map, List.getElem?_range hl] at h
  exact ⟨(Option.some.inj h).symm, hl⟩
/-- a loop over range(a, b) -/
theorem for_rng {lo : Int} {n : Nat} {g : FG} {b : FS} {Q : Out → Sto → Prop} (Inv : Nat → Env → Sto → Prop)
    (step : ∀ i env S, i < n → Inv i env S → W (g (.int (lo + i)) env S) fun e1 S1 => W (b e1 S1) (QL (Inv (i + 1)) Q)) (fin : ∀ env S, Inv n env S → Q (.nx env) S) {env : Env} {S : Sto} (h0 : Inv 0 env S) :
    W (forI (.fix (rngD lo n)) g b ((rngD lo n).length + 1) 0 env S) Q :=
  for_fix Inv (fun i d env S h q => by obtain ⟨rfl, hl⟩ := rng_get h; exact step i env S hl q) (fun env S q => fin env S (by rw [rng_len] at q; exact q)) h0
section
variable {env : Env} {S : Sto} {QI : ItD → Sto → Prop}
theorem w_iseqL {fe : FE} (h : W (fe env S) fun d S1 => ∃ n ds, d = .ref n ∧ getL S1 n = some ds ∧ QI (.lst n ds.length) S1) : W (iSeq fe env S) QI := by
  unfold iSeq
  rw [W_th]
  obtain ⟨d, S1, e, n, ds, rfl, h, q⟩ := h
  refine ⟨_, S1, e, ?_⟩
  unfold getL at h
  simp only
  split at h
  · rename_i e1
    cases h
    simpa [e1] using q
  · rename_i e1
    cases h
    simpa [e1] using q
  · cases h
theorem w_iseqT {fe : FE} (h : W (fe env S) fun d S1 => ∃ ds, d = .tup ds ∧ QI (.fix ds) S1) : W (iSeq fe env S) QI := by
  unfold iSeq
  rw [W_th]
  obtain ⟨d, S1, e, ds, rfl, q⟩ := h
  exact ⟨_, S1, e, by simpa using q⟩
theorem w_rng1 {fr : FA} (h : W (fr env S) fun ds S1 => ∃ j : Int, ds = [.int j] ∧ -4611686018427387904 ≤ j ∧ j < 4611686018427387904 ∧ QI (.fix (rngD 0 j.toNat)) S1) : W (iRng1 fr env S) QI := by
  unfold iRng1
  rw [W_th]
  obtain ⟨d, S1, e, j, rfl, h1, h2, q⟩ := h
  exact ⟨_, S1, e, by simpa [h1, h2] using q⟩
theorem w_rng2 {fr : FA} (h : W (fr env S) fun ds S1 => ∃ i j : Int, ds = [.int i, .int j] ∧ -4611686018427387904 ≤ i ∧ i < 4611686018427387904 ∧ -4611686018427387904 ≤ j ∧ j < 4611686018427387904 ∧ QI (.fix (rngD i (j - i).toNat)) S1) : W (iRng2 fr env S) QI := by
  unfold iRng2
  rw [W_th]
  obtain ⟨d, S1, e, i, j, rfl, h1, h2, h3, h4, q⟩ := h
  exact ⟨_, S1, e, by simpa [h1, h2, h3, h4] using q⟩
end

/-! ### list comprehensions -/
theorem lc_inv {it : ItD} {ds : List D} {g : FG} {tt : FT} {te : FE} {n : Nat} {env : Env} (Inv : Nat → List D → Sto → Prop)
    (hit : ∀ i acc S, Inv i acc S → S[n]? = some (.lst acc) → it.it S i = some ds[i]?) (hlen : ds.length ≤ it.len)
    (step : ∀ i d acc S, ds[i]? = some d → Inv i acc S → S[n]? = some (.lst acc) → W (g d env S) fun e1 S1 => W (tt e1 S1) fun k S2 =>
      if k = true then W (te e1 S2) fun y S3 => S3[n]? = some (.lst acc) ∧ acc.length < cap ∧ Inv (i + 1) (acc ++ [y]) (S3.set n (.lst (acc ++ [y]))) else S2[n]? = some (.lst acc) ∧ Inv (i + 1) acc S2)
    {S : Sto} (h0 : Inv 0 [] S) (hn : S[n]? = some (.lst [])) : ∃ S' acc, lcI it g tt te n env (it.len + 1) 0 S = some S' ∧ S'[n]? = some (.lst acc) ∧ Inv ds.length acc S' := by
  have key : ∀ (m i : Nat) (acc : List D) (S : Sto), ds.length < i + m → i ≤ ds.length → Inv i acc S → S[n]? = some (.lst acc) → ∃ S' acc', lcI it g tt te n env m i S = some S' ∧ S'[n]? = some (.lst acc') ∧ Inv ds.length acc' S' := by
    intro m
    induction m with
    | zero => intro i acc S h1 h2; omega
    | succ m ih =>
      intro i acc S h1 h2 hI hn
      unfold lcI
      rw [hit i acc S hI hn]
      by_cases hz : i < ds.length
      · rw [List.getElem?_eq_getElem hz]
        obtain ⟨e1, S1, q1, k, S2, q2, h⟩ := step i _ acc S (List.getElem?_eq_getElem hz) hI hn
        simp only [q1, th_some, q2]
        cases k with
        | true =>
          rw [if_pos rfl] at h ⊢
          obtain ⟨y, S3, q3, h1', h2', h3'⟩ := h
          simp only [q3, th_some, h1', if_pos h2']
          exact ih (i + 1) _ _ (by omega) (by omega) h3' (set_at h1')
        | false =>
          rw [if_neg Bool.false_ne_true] at h ⊢
          exact ih (i + 1) acc S2 (by omega) (by omega) h.2 h.1
      · have e : i = ds.length := by omega
        subst e
        rw [List.getElem?_eq_none (Nat.le_refl _)]
        exact ⟨S, acc, rfl, hn, hI⟩
  exact key _ 0 [] S (by omega) (Nat.zero_le _) h0 hn
theorem w_lc {fi : FI} {g : FG} {tt : FT} {te : FE} {vs : List Nat} {env : Env} {S : Sto} {Q : D → Sto → Prop}
    (h : W (fi env S) fun it S1 => ∃ S2, lcI it g tt te S1.length (wipeE env vs) (it.len + 1) 0 (S1 ++ [.lst []]) = some S2 ∧ Q (.ref S1.length) S2) : W (eLc fi g tt te vs env S) Q := by
  unfold eLc
  rw [W_th]
  obtain ⟨it, S1, e, S2, e2, q⟩ := h
  refine ⟨it, S1, e, ?_⟩
  simpa [e2] using q
/-- a comprehension whose elements are values of the items -/
theorem w_lcm {fi : FI} {g : FG} {tt : FT} {te : FE} {vs : List Nat} {env : Env} {S : Sto} {Q : D → Sto → Prop} {ds : List D} (v : D → D) (p : D → Bool)
    (hi : W (fi env S) fun it S1 => Ap S S1 ∧ ds.length ≤ it.len ∧ ∀ S2, Ap S1 S2 → ∀ i, it.it S2 i = some ds[i]?)
    (hb : ∀ d ∈ ds, ∀ S2, Ap S S2 → W (g d (wipeE env vs) S2) fun e1 S3 => W (tt e1 S3) fun k S4 => k = p d ∧ Ap S2 S4 ∧ (p d = true → W (te e1 S4) fun y S5 => y = v d ∧ Ap S4 S5))
    (hl : ds.length ≤ cap)
    (hq : ∀ n S', Ap S S' → S.length ≤ n → S'[n]? = some (.lst ((ds.filter p).map v)) → Q (.ref n) S') : W (eLc fi g tt te vs env S) Q := by
  refine w_lc ?_
  obtain ⟨it, S1, e, a1, hlen, hit⟩ := hi
  refine ⟨it, S1, e, ?_⟩
  refine Exists.elim (lc_inv (it := it) (ds := ds) (g := g) (tt := tt) (te := te) (n := S1.length) (env := wipeE env vs) (S := S1 ++ [.lst []]) (fun i acc S' => Ap S1 S' ∧ acc = ((ds.take i).filter p).map v ∧ acc.length ≤ i)
    (fun i acc S' h _ => hit S' h.1 i) hlen (fun i d acc S' hd hI hn => ?_) ⟨Ap.app _ _, rfl, Nat.le_refl _⟩ (new_at _ _)) (fun S2 hh => ?_)
  · obtain ⟨aS, ea, la⟩ := hI
    have hi' := (List.getElem?_eq_some_iff.mp hd).1
    obtain ⟨e1, S3, q1, k, S4, q2, rfl, a4, h⟩ := hb d (List.mem_of_getElem? hd) S' (a1.trans aS)
    refine ⟨e1, S3, q1, _, S4, q2, ?_⟩
    have tk : ds.take (i + 1) = ds.take i ++ [d] := by rw [List.take_add_one, hd]; rfl
    cases hp : p d with
    | true =>
      refine iteT ?_
      obtain ⟨y, S5, q3, rfl, a5⟩ := h hp
      refine ⟨_, S5, q3, a5 _ _ (a4 _ _ hn), by omega, (aS.trans (a4.trans a5)).set (Nat.le_refl _), ?_, by simp; omega⟩
      rw [tk, List.filter_append, List.map_append, ea]
      simp [hp]
    | false =>
      refine iteF ?_
      refine ⟨a4 _ _ hn, aS.trans a4, ?_, by omega⟩
      rw [tk, List.filter_append, List.map_append, ea]
      simp [hp]
  · obtain ⟨acc, e2, e3, a2, e4, _⟩ := hh
    rw [List.take_length] at e4
    rw [e4] at e3
    exact ⟨S2, e2, hq _ _ (a1.trans a2) a1.len e3⟩
theorem filter_yes {α : Type} (ds : List α) : ds.filter (fun _ => true) = ds := List.filter_eq_self.mpr fun _ _ => rfl
@[simp] theorem w_yes {env : Env} {S : Sto} {QT : Bool → Sto → Prop} : W (tYs env S) QT ↔ QT true S := W_some ..

/-! ### the tape -/
def tapeKV (m : Nat) (a l s t : Int) : List (Key × D) := [(.inr "cells", .ref m), (.inr "at", .int a), (.inr "left", .int l), (.inr "seed", .int s), (.inr "salt", .int t)]
def Tape (S : Sto) (n m : Nat) : Prop := ∃ (cells : List Int) (a l s t : Int), S[n]? = some (.dic (tapeKV m a l s t)) ∧ S[m]? = some (.lst (cells.map D.int)) ∧ (∀ x ∈ cells, 0 ≤ x) ∧ 0 ≤ a ∧ 0 ≤ l ∧ 0 ≤ s ∧ s < 2147483647 ∧ 0 ≤ t
theorem Tape.ap {S S' : Sto} {n m : Nat} (h : Tape S n m) (a : Ap S S') : Tape S' n m := by
  obtain ⟨cells, x1, x2, x3, x4, h1, h2, h3⟩ := h
  exact ⟨cells, x1, x2, x3, x4, a _ _ h1, a _ _ h2, h3⟩
theorem Tape.lt {S : Sto} {n m : Nat} (h : Tape S n m) : n < S.length := by
  obtain ⟨cells, x1, x2, x3, x4, h1, _⟩ := h
  exact lt_of_at h1
theorem Tape.ltm {S : Sto} {n m : Nat} (h : Tape S n m) : m < S.length := by
  obtain ⟨cells, x1, x2, x3, x4, h1, h2, _⟩ := h
  exact lt_of_at h2
theorem Tape.ne {S : Sto} {n m q : Nat} {ds : List D} (h : Tape S n m) (g : S[q]? = some (.lst ds)) : q ≠ n := fun e => by
  obtain ⟨cells, x1, x2, x3, x4, h1, _⟩ := h
  rw [e, h1] at g
  cases g
theorem Tape.set {S : Sto} {n m q : Nat} {o : O} (h : Tape S n m) (h1 : q ≠ n) (h2 : q ≠ m) : Tape (S.set q o) n m := by
  obtain ⟨cells, x1, x2, x3, x4, g1, g2, h3⟩ := h
  exact ⟨cells, x1, x2, x3, x4, by rw [List.getElem?_set_ne h1]; exact g1, by rw [List.getElem?_set_ne h2]; exact g2, h3⟩
theorem Kn.setO {n q : Nat} {S S1 : Sto} {o : O} (h : Kn n S S1) (hq : S.length ≤ q) : Kn n S (S1.set q o) := fun m o' z e => by
  have := (List.getElem?_eq_some_iff.mp e).1
  rw [List.getElem?_set_ne (by omega)]
  exact h m o' z e
theorem v_cells (m : Nat) (a l s t : Int) : valG (tapeKV m a l s t) (.inr "cells") = some (.ref m) := by rfl
theorem v_at (m : Nat) (a l s t : Int) : valG (tapeKV m a l s t) (.inr "at") = some (.int a) := by rfl
theorem v_left (m : Nat) (a l s t : Int) : valG (tapeKV m a l s t) (.inr "left") = some (.int l) := by rfl
theorem v_seed (m : Nat) (a l s t : Int) : valG (tapeKV m a l s t) (.inr "seed") = some (.int s) := by rfl
theorem v_salt (m : Nat) (a l s t : Int) : valG (tapeKV m a l s t) (.inr "salt") = some (.int t) := by rfl
theorem p_at (m : Nat) (a l s t x : Int) : putG (tapeKV m a l s t) (.inr "at") (.int x) = tapeKV m x l s t := by rfl
theorem p_left (m : Nat) (a l s t x : Int) : putG (tapeKV m a l s t) (.inr "left") (.int x) = tapeKV m a x s t := by rfl
theorem p_salt (m : Nat) (a l s t x : Int) : putG (tapeKV m a l s t) (.inr "salt") (.int x) = tapeKV m a l s x := by rfl
theorem tyDic {n : Nat} {kvs : List (Key × D)} {S : Sto} (h : S[n]? = some (.dic kvs)) : getL S n = none := by unfold getL; rw [h]
theorem w_setS {n : Nat} {kvs : List (Key × D)} {S : Sto} {env : Env} {fo : FE} {x : Str} {d : D} {QE : Env → Sto → Prop} (ho : fo env S = some (.ref n, S)) (h : S[n]? = some (.dic kvs)) (hz : kvs.length < cap) : W (gIx fo (eC (.str x)) d env S) QE ↔ QE env (S.set n (.dic (putG kvs (.inr x) d))) := by
  unfold gIx
  rw [ho]
  simp [eC, h, keyD, hz]
def b_take : FS := sSeq (sIf (tAnd (tB (eBin oEq (eBin oIx (eVar 0) (eC (.str "left"))) (eC (.int 0)))) (tB (eBin oLt (eBin oIx (eVar 0) (eC (.str "at"))) (eCall fLen (aCons (eBin oIx (eVar 0) (eC (.str "cells"))) (aNil)))))) (sSeq (sAsg (eBin oIx (eBin oIx (eVar 0) (eC (.str "cells"))) (eBin oIx (eVar 0) (eC (.str "at")))) (gIx (eVar 0) (eC (.str "left")))) (sAsg (eBin oAdd (eBin oIx (eVar 0) (eC (.str "at"))) (eC (.int 1))) (gIx (eVar 0) (eC (.str "at"))))) (sNil)) (sSeq (sIf (tB (eBin oGt (eBin oIx (eVar 0) (eC (.str "left"))) (eC (.int 0)))) (sSeq (sAsg (eBin oMod (eCall fInt (aCons (eBin oIx (eVar 0) (eC (.str "left"))) (aNil))) (eVar 1)) (gNm 2)) (sSeq (sAsg (eBin oDiv (eBin oIx (eVar 0) (eC (.str "left"))) (eVar 1)) (gIx (eVar 0) (eC (.str "left")))) (sRet (eVar 2)))) (sNil)) (sSeq (sAsg (eBin oAdd (eBin oIx (eVar 0) (eC (.str "salt"))) (eC (.int 1))) (gIx (eVar 0) (eC (.str "salt")))) (sSeq (sAsg (eBin oMod (eCall fInt (aCons (eBin oAdd (eBin oMul (eBin oIx (eVar 0) (eC (.str "seed"))) (eC (.int 48271))) (eBin oMul (eBin oIx (eVar 0) (eC (.str "salt"))) (eC (.int 69621)))) (aNil))) (eC (.int 2147483647))) (gNm 3)) (sSeq (sAsg (eBin oMod (eCall fInt (aCons (eBin oAdd (eBin oAdd (eBin oMul (eVar 3) (eVar 3)) (eBin oMul (eBin oIx (eVar 0) (eC (.str "salt"))) (eC (.int 40692)))) (eC (.int 12345))) (aNil))) (eC (.int 2147483399))) (gNm 3)) (sRet (eBin oMod (eCall fInt (aCons (eVar 3) (aNil))) (eVar 1)))))))
def f_take : FF := fnF 4 2 b_take
theorem getL_dic {n : Nat} {kvs : List (Key × D)} {S : Sto} (h : S[n]? = some (.dic kvs)) : getL S n = none := by unfold getL; rw [h]
theorem tk_small (m : Nat) (a l s t : Int) : (tapeKV m a l s t).length < cap := by show 5 < 10000000; decide
theorem set_same {S : Sto} {n : Nat} {o : O} (h : S[n]? = some o) : S.set n o = S := by
  apply List.ext_getElem?
  intro i
  by_cases e : n = i
  · subst e
    rw [set_at h, h]
  · rw [List.getElem?_set_ne e]
abbrev e4 (n : Nat) (k : Int) (x y : Option D) : Env := [some (.ref n), some (.int k), x, y]
section
variable {S : Sto} {n m : Nat} {k a l s t : Int} {x y : Option D} {Q : D → Sto → Prop}
theorem w_v0 : W (eVar 0 (e4 n k x y) S) Q ↔ Q (.ref n) S := w_var rfl
theorem w_v1 : W (eVar 1 (e4 n k x y) S) Q ↔ Q (.int k) S := w_var rfl
theorem w_v2 {d : D} : W (eVar 2 (e4 n k (some d) y) S) Q ↔ Q d S := w_var rfl
theorem w_v3 {d : D} : W (eVar 3 (e4 n k x (some d)) S) Q ↔ Q d S := w_var rfl
theorem w_tg {z : Str} {d : D} {QE : Env → Sto → Prop} (h : S[n]? = some (.dic (tapeKV m a l s t))) : W (gIx (eVar 0) (eC (.str z)) d (e4 n k x y) S) QE ↔ QE (e4 n k x y) (S.set n (.dic (putG (tapeKV m a l s t) (.inr z) d))) := w_setS rfl h (tk_small ..)
end
/-- a number below k is taken from the tape -/
theorem take_ok {S : Sto} {n m : Nat} {k : Int} (hT : Tape S n m) (hk : 0 < k) (hk2 : k < 18446744073709551616) : W (f_take [.ref n, .int k] S) fun d S' => ∃ r, d = .int r ∧ 0 ≤ r ∧ r < k ∧ Kn n S S' ∧ Tape S' n m ∧ S'.length = S.length := by
  obtain ⟨cells, a, l, s, t, h1, h2, hc, ha, hl, hs0, hs1, ht⟩ := hT
  have hmn : m ≠ n := fun e => by rw [e, h1] at h2; cases h2
  refine w_fn rfl ?_
  show W (b_take (e4 n k none none) S) _
  unfold b_take
  rw [w_seq]
  have first : ∀ Q : Out → Sto → Prop, (∀ a l, 0 ≤ a → 0 ≤ l → Q (.nx (e4 n k none none)) (S.set n (.dic (tapeKV m a l s t)))) →
      W (sIf (tAnd (tB (eBin oEq (eBin oIx (eVar 0) (eC (.str "left"))) (eC (.int 0)))) (tB (eBin oLt (eBin oIx (eVar 0) (eC (.str "at"))) (eCall fLen (aCons (eBin oIx (eVar 0) (eC (.str "cells"))) (aNil)))))) (sSeq (sAsg (eBin oIx (eBin oIx (eVar 0) (eC (.str "cells"))) (eBin oIx (eVar 0) (eC (.str "at")))) (gIx (eVar 0) (eC (.str "left")))) (sAsg (eBin oAdd (eBin oIx (eVar 0) (eC (.str "at"))) (eC (.int 1))) (gIx (eVar 0) (eC (.str "at"))))) (sNil) (e4 n k none none) S) Q := by
    intro Q hQ
    have same : Q (.nx (e4 n k none none)) S := by
      have := hQ a l ha hl
      rw [set_same h1] at this
      exact this
    simp only [w_sif, w_tAnd, w_tB, w_bin, w_v0, w_c, w_ixDs h1 (v_left m a l s t), w_eqI, D.bl.injEq, exists_eq_left']
    by_cases e : l = 0
    · simp only [e, decide_true, if_true, w_ixDs h1 (v_at m a l s t), w_ixDs h1 (v_cells m a l s t), w_call, w_acons, w_anil, w_bin, w_v0, w_c, w_tB, w_len (getL_of h2), w_lt, D.bl.injEq, exists_eq_left', List.length_map]
      by_cases e2 : a < cells.length
      · obtain ⟨j, rfl⟩ : ∃ j : Nat, a = j := ⟨a.toNat, by omega⟩
        have hj : j < cells.length := by omega
        have e3 : (cells.map D.int)[j]? = some (.int cells[j]) := by rw [List.getElem?_map, List.getElem?_eq_getElem hj]; rfl
        have h1' := set_at (o' := .dic (tapeKV m j cells[j] s t)) h1
        simp only [e2, decide_true, if_true, w_seq, w_asg, w_bin, w_v0, w_c, w_ixDs h1 (v_at m j l s t), w_ixDs h1 (v_cells m j l s t), w_ixL (getL_of h2) (atI_nat e3), w_tg h1, p_left, QS_nx, w_ixDs h1' (v_at m j cells[j] s t), w_add, w_tg h1', p_at, List.set_set]
        exact hQ _ _ (by omega) (hc _ (List.getElem_mem hj))
      · simpa [e2] using same
    · simpa [e] using same
  refine first _ fun a l ha ha0 => ?_
  clear first
  have h1' := set_at (o' := .dic (tapeKV m a l s t)) h1
  have h2' : (S.set n (.dic (tapeKV m a l s t)))[m]? = some (.lst (cells.map D.int)) := by rw [List.getElem?_set_ne hmn.symm]; exact h2
  have kn := Kn.set n S (.dic (tapeKV m a l s t))
  have ln : (S.set n (.dic (tapeKV m a l s t))).length = S.length := List.length_set
  generalize S.set n (.dic (tapeKV m a l s t)) = S1 at h1' h2' kn ln
  have fin : ∀ (l t : Int), 0 ≤ l → 0 ≤ t → Kn n S (S1.set n (.dic (tapeKV m a l s t))) ∧ Tape (S1.set n (.dic (tapeKV m a l s t))) n m ∧ (S1.set n (.dic (tapeKV m a l s t))).length = S.length := by
    intro l t q3 q4
    refine ⟨kn.trans (Kn.set _ _ _), ⟨cells, a, l, s, t, set_at h1', by rw [List.getElem?_set_ne hmn.symm]; exact h2', hc, ha, q3, hs0, hs1, q4⟩, by rw [List.length_set, ln]⟩
  have md : ∀ x : Int, 0 ≤ x % k ∧ x % k < k := fun x => ⟨Int.emod_nonneg _ (by omega), Int.emod_lt_of_pos _ hk⟩
  simp only [QS_nx, w_seq, w_sif, w_tB, w_bin, w_v0, w_v1, w_c, w_ixDs h1' (v_left m a l s t), w_gt, D.bl.injEq, exists_eq_left']
  by_cases e : 0 < l
  · have h3 := set_at (o' := .dic (tapeKV m a (l / k) s t)) h1'
    simp only [e, decide_true, if_true, w_seq, w_asg, w_bin, w_call, w_acons, w_anil, w_v0, w_v1, w_c, w_ixDs h1' (v_left m a l s t), w_int, w_mod hk, w_gnm, QS_nx, List.set_cons_succ, List.set_cons_zero, w_div hk hk2]
    rw [w_tg h1', p_left]
    simp only [QS_nx, w_ret, w_v2, QS_rt, QF_rt]
    obtain ⟨f1, f2, f3⟩ := fin (l / k) t (Int.ediv_nonneg ha0 (by omega)) ht
    exact ⟨_, rfl, (md l).1, (md l).2, f1, f2, f3⟩
  · have h3 := set_at (o' := .dic (tapeKV m a l s (t + 1))) h1'
    have ok1 : okMul s 48271 = true := okMul_r (by decide) (by decide)
    have ok2 : okMul (t + 1) 69621 = true := okMul_r (by decide) (by decide)
    have ok3 : okMul (t + 1) 40692 = true := okMul_r (by decide) (by decide)
    have ok4 : okMul ((s * 48271 + (t + 1) * 69621) % 2147483647) ((s * 48271 + (t + 1) * 69621) % 2147483647) = true := by
      have q1 := Int.emod_nonneg (s * 48271 + (t + 1) * 69621) (show (2147483647 : Int) ≠ 0 by decide)
      have q2 := Int.emod_lt_of_pos (s * 48271 + (t + 1) * 69621) (show (0 : Int) < 2147483647 by decide)
      exact okMul_l (by omega) (by omega)
    simp only [e, decide_false, Bool.false_eq_true, if_false, w_nil, QS_nx, w_seq, w_asg, w_bin, w_v0, w_c, w_ixDs h1' (v_salt m a l s t), w_add]
    rw [w_tg h1', p_salt]
    simp only [QS_nx, w_seq, w_asg, w_bin, w_call, w_acons, w_anil, w_v0, w_v1, w_v3, w_c, w_ixDs h3 (v_salt m a l s (t + 1)), w_ixDs h3 (v_seed m a l s (t + 1)), w_mul ok1, w_mul ok2, w_mul ok3, w_add, w_int, w_mod (show (0 : Int) < 2147483647 by decide), w_mod (show (0 : Int) < 2147483399 by decide), w_gnm, List.set_cons_succ, List.set_cons_zero, w_mul ok4, w_ret, w_mod hk, QF_rt, QS_rt]
    obtain ⟨f1, f2, f3⟩ := fin l (t + 1) ha0 (by omega)
    exact ⟨_, rfl, (md _).1, (md _).2, f1, f2, f3⟩
end FL
/-! FL14: the tape is made. -/
namespace FL
open PySem L2
theorem w_dic {fr : FA} {env : Env} {S : Sto} {Q : D → Sto → Prop} (h : W (fr env (S ++ [.dic []])) fun ds S1 => S1[S.length]? = some (.dic []) ∧ ∃ ps, pairD ds = some ps ∧ ps.length ≤ 15 ∧ Q (.ref S.length) (S1.set S.length (.dic (mergeG [] ps)))) : W (eDic fr env S) Q := by
  unfold eDic
  rw [W_th]
  obtain ⟨ds, S1, e, h1, ps, h2, h3, q⟩ := h
  refine ⟨ds, S1, e, ?_⟩
  simpa [h1, h2, h3] using q
def b_tape : FS := sSeq (sAsg (eLc (iSeq (eVar 0)) (gNm 3) (tYs) (eCall fAbs (aCons (eCall fInt (aCons (eVar 3) (aNil))) (aNil))) [3]) (gNm 1)) (sSeq (sAsg (eC (.int 7)) (gNm 2)) (sSeq (sFor (iSeq (eVar 1)) (gNm 3) (sAsg (eBin oMod (eCall fInt (aCons (eBin oAdd (eBin oMul (eVar 2) (eC (.int 31))) (eVar 3)) (aNil))) (eC (.int 2147483647))) (gNm 2))) (sRet (eDic (aPairs [(eC (.str "cells"), eVar 1), (eC (.str "at"), eC (.int 0)), (eC (.str "left"), eC (.int 0)), (eC (.str "seed"), eVar 2), (eC (.str "salt"), eC (.int 0))])))))
def f_tape : FF := fnF 4 1 b_tape
def absI (i : Int) : Int := if i < 0 then -i else i
theorem absI_nn (i : Int) : 0 ≤ absI i := by unfold absI; split <;> omega
theorem tape_ok {ns : List Int} (hl : ns.length ≤ 63) : W (f_tape [.ref 0] [.ro (ns.map D.int)]) fun d S' => ∃ n m, d = .ref n ∧ Tape S' n m := by
  have g0 : getL [.ro (ns.map D.int)] 0 = some (ns.map D.int) := getL_ro rfl
  refine w_fn rfl ?_
  show W (b_tape [some (.ref 0), none, none, none] _) _
  unfold b_tape
  simp only [w_seq, w_asg]
  refine w_lcm (ds := ns.map D.int) (fun d => match d with | .int i => .int (absI i) | d => d) (fun _ => true) ?_ ?_ (by simp [cap]; omega) ?_
  · refine w_iseqL ((w_var rfl).mpr ⟨0, _, rfl, g0, Ap.refl _, Nat.le_refl _, fun S2 a i => ?_⟩)
    unfold ItD.lst
    simp [getL_ap g0 a]
  · intro d hd S2 a
    obtain ⟨i, _, rfl⟩ := List.mem_map.mp hd
    simp only [w_gnm, w_yes, w_call, w_acons, w_anil, wipeE, List.set_cons_succ, List.set_cons_zero]
    refine ⟨trivial, Ap.refl _, fun _ => ?_⟩
    refine (w_var rfl).mpr ?_
    simp only [w_int, w_abs]
    exact ⟨rfl, Ap.refl _⟩
  · intro n S1 a1 ln g1
    rw [filter_yes, List.map_map] at g1
    have g1 : S1[n]? = some (.lst ((ns.map absI).map D.int)) := by
      rw [g1, List.map_map]
      rfl
    simp only [w_gnm, List.set_cons_succ, List.set_cons_zero, QS_nx, w_seq, w_asg, w_c]
    rw [w_for]
    refine w_iseqL ((w_var rfl).mpr ⟨n, _, rfl, getL_of g1, ?_⟩)
    refine for_lst (n := n) (ds := (ns.map absI).map D.int) (fun i env S => ∃ (s : Int) (y : Option D), env = [some (.ref 0), some (.ref n), some (.int s), y] ∧ 0 ≤ s ∧ s < 2147483647 ∧ S = S1) (fun i env S ⟨_, _, _, _, _, e⟩ => by rw [e]; exact getL_of g1) ?_ ?_ ⟨7, none, rfl, by decide, by decide, rfl⟩
    · rintro i d env S hd ⟨s, y, rfl, h1, h2, rfl⟩
      obtain ⟨z, _, rfl⟩ := List.mem_map.mp (List.mem_of_getElem? hd)
      simp only [w_gnm, List.set_cons_succ, List.set_cons_zero, w_asg, w_bin, w_call, w_acons, w_anil]
      refine (w_var rfl).mpr ?_
      rw [w_c, w_mul (okMul_r (by decide) (by decide))]
      refine (w_var rfl).mpr ?_
      simp only [w_add, w_int, w_c, w_mod (show (0 : Int) < 2147483647 by decide), w_gnm, List.set_cons_succ, List.set_cons_zero, QL_nx]
      exact ⟨_, _, rfl, Int.emod_nonneg _ (by decide), Int.emod_lt_of_pos _ (by decide), trivial⟩
    · rintro env S ⟨s, y, rfl, h1, h2, rfl⟩
      rw [QS_nx, w_ret]
      refine w_dic ?_
      unfold aPairs aPairs aPairs aPairs aPairs aPairs
      simp only [w_acons, w_anil, w_c]
      refine (w_var rfl).mpr ?_
      refine (w_var rfl).mpr ?_
      have ne : n ≠ S.length := by
        have := lt_of_at g1
        omega
      refine ⟨new_at _ _, _, rfl, (by show 5 ≤ 15; decide), ?_⟩
      rw [QF_rt]
      refine ⟨S.length, n, rfl, ns.map absI, 0, 0, s, 0, set_at (new_at _ _), ?_, ?_, by decide, by decide, h1, h2, by decide⟩
      · rw [List.getElem?_set_ne ne.symm, List.getElem?_append_left (lt_of_at g1)]
        exact g1
      · intro x hx
        obtain ⟨z, _, rfl⟩ := List.mem_map.mp hx
        exact absI_nn z
end FL
/-! FL15: more of the values: slots, while, lists of optional numbers. -/
namespace FL
open PySem L2
section
variable {env : Env} {S : Sto} {Q : D → Sto → Prop} {QS' : Out → Sto → Prop} {QA : List D → Sto → Prop} {QT : Bool → Sto → Prop} {QE : Env → Sto → Prop}
theorem w_ev (i : Nat) : W (eVar i env S) Q ↔ match env[i]? with
    | some (some d) => Q d S
    | _ => False := by
  unfold eVar
  cases h : env[i]? with
  | none => simp
  | some x => cases x <;> simp
theorem w_gtp2 (gs : FGs) (a b : D) : W (gTp 2 gs (.tup [a, b]) env S) QE ↔ W (gs [a, b] env S) QE := w_gtp rfl
theorem w_gtp3 (gs : FGs) (a b c : D) : W (gTp 3 gs (.tup [a, b, c]) env S) QE ↔ W (gs [a, b, c] env S) QE := w_gtp rfl
theorem w_gtp2p (gs : FGs) (a b : D) : W (gTp 2 gs (.pr [a, b]) env S) QE ↔ W (gs [a, b] env S) QE := w_gtpp rfl
theorem w_ixT0 (a : D) (r : List D) : W (oIx (.tup (a :: r)) (.int 0) S) Q ↔ Q a S := w_ixT (atI_nat (k := 0) rfl)
theorem w_ixT1 (a b : D) (r : List D) : W (oIx (.tup (a :: b :: r)) (.int 1) S) Q ↔ Q b S := w_ixT (atI_nat (k := 1) rfl)
theorem w_ixT2 (a b c : D) (r : List D) : W (oIx (.tup (a :: b :: c :: r)) (.int 2) S) Q ↔ Q c S := w_ixT (atI_nat (k := 2) rfl)
theorem w_ch (fa : FE) (t : FC2) : W (eCh fa t env S) Q ↔ W (fa env S) fun x S1 => W (t x env S1) Q := by unfold eCh; simp
theorem w_chL (r : F2) (fb : FE) (x : D) : W (chL r fb x env S) Q ↔ W (fb env S) fun y S1 => W (r x y S1) Q := by unfold chL; simp
theorem w_chK (r : F2) (fb : FE) (t : FC2) (x : D) : W (chK r fb t x env S) Q ↔ W (fb env S) fun y S1 => W (r x y S1) fun k S2 => match k with
    | .bl b => if b = true then W (t y env S2) Q else Q (.bl false) S2
    | _ => False := by
  unfold chK
  rw [W_th]
  have key : ∀ (y : D) (S1 : Sto), W (th (r x y S1) fun k S2 => match k with
      | .bl true => t y env S2
      | .bl false => some (.bl false, S2)
      | _ => none) Q ↔ W (r x y S1) fun k S2 => match k with
      | .bl b => if b = true then W (t y env S2) Q else Q (.bl false) S2
      | _ => False := by
    intro y S1
    rw [W_th]
    constructor <;>
    · rintro ⟨k, S2, e, h⟩
      refine ⟨k, S2, e, ?_⟩
      cases k with
      | bl b => cases b <;> simpa using h
      | _ => simp at h
  constructor
  · rintro ⟨y, S1, e, h⟩
    exact ⟨y, S1, e, (key y S1).mp h⟩
  · rintro ⟨y, S1, e, h⟩
    exact ⟨y, S1, e, (key y S1).mpr h⟩
theorem w_par2 (i j : Nat) (fr : FA) : W (sPar [i, j] fr env S) QS' ↔ W (fr env S) fun ds S1 => match ds with
    | [a, b] => QS' (.nx ((env.set i (some a)).set j (some b))) S1
    | _ => False := by
  rw [w_par]
  constructor
  · rintro ⟨ds, S1, e, h, q⟩
    match ds, h, q with
    | [a, b], _, q => exact ⟨_, S1, e, q⟩
  · rintro ⟨ds, S1, e, h⟩
    refine ⟨ds, S1, e, ?_⟩
    match ds, h with
    | [a, b], q => exact ⟨rfl, q⟩
theorem w_par3 (i j l : Nat) (fr : FA) : W (sPar [i, j, l] fr env S) QS' ↔ W (fr env S) fun ds S1 => match ds with
    | [a, b, c] => QS' (.nx (((env.set i (some a)).set j (some b)).set l (some c))) S1
    | _ => False := by
  rw [w_par]
  constructor
  · rintro ⟨ds, S1, e, h, q⟩
    match ds, h, q with
    | [a, b, c], _, q => exact ⟨_, S1, e, q⟩
  · rintro ⟨ds, S1, e, h⟩
    refine ⟨ds, S1, e, ?_⟩
    match ds, h with
    | [a, b, c], q => exact ⟨rfl, q⟩
theorem w_app {n : Nat} {us : List D} {d : D} (h : S[n]? = some (.lst us)) (hz : us.length < cap) : W (mAppend (.ref n) [d] S) Q ↔ Q .non (S.set n (.lst (us ++ [d]))) := by
  unfold mAppend
  simp [h, hz]
theorem w_popI {n k : Nat} {us : List D} {d : D} (h : S[n]? = some (.lst us)) (hk : us[k]? = some d) (hz : k < 1000000) : W (mPop (.ref n) [.int k] S) Q ↔ Q d (S.set n (.lst (us.eraseIdx k))) := by
  have hl := (List.getElem?_eq_some_iff.mp hk).1
  have e : seqIndex? (k : Int) us.length = some k := by
    have := ixN_seq (n := us.length) (i := k) (j := k) (by unfold ixN; rw [if_pos (by omega), if_pos (by omega)]; simp)
    exact this.1
  unfold mPop
  have z1 : (-1000000 : Int) ≤ (k : Int) := by omega
  have z2 : (k : Int) < 1000000 := by omega
  simp [h, e, hk, z1, z2]
theorem w_cat {n m : Nat} {xs ys : List D} (h1 : S[n]? = some (.lst xs)) (h2 : S[m]? = some (.lst ys)) (hz : xs.length + ys.length ≤ cap) : W (oAdd (.ref n) (.ref m) S) Q ↔ W (some (D.ref S.length, S ++ [.lst (xs ++ ys)])) Q := by
  unfold oAdd
  simp only [h1, h2, hz, if_true]
/-- optional numbers -/
def od : Option Int → D
  | none => .non
  | some i => .int i
theorem inD_od : ∀ xs : List (Option Int), inD .non (xs.map od) = decide (none ∈ xs)
  | [] => rfl
  | none :: xs => by simp [inD, od, eqD]
  | some i :: xs => by
    have := inD_od xs
    unfold inD at this ⊢
    rw [List.map_cons, List.any_cons, this]
    simp [od, eqD]
theorem flat_od (xs : List (Option Int)) : (xs.map od).all flatD = true := by
  rw [List.all_eq_true]
  intro d hd
  obtain ⟨x, _, rfl⟩ := List.mem_map.mp hd
  cases x <;> rfl
theorem w_inN {n : Nat} {xs : List (Option Int)} (h : getL S n = some (xs.map od)) : W (oIn .non (.ref n) S) Q ↔ Q (.bl (decide (none ∈ xs))) S := by
  have e : oInB .non (.ref n) S = some (decide (none ∈ xs)) := by
    unfold oInB
    simp only [h]
    rw [if_pos (by rw [flat_od]; rfl), inD_od]
  unfold oIn
  rw [e]
  simp
theorem w_ninN {n : Nat} {xs : List (Option Int)} (h : getL S n = some (xs.map od)) : W (oNotIn .non (.ref n) S) Q ↔ Q (.bl (!decide (none ∈ xs))) S := by
  have e : oInB .non (.ref n) S = some (decide (none ∈ xs)) := by
    unfold oInB
    simp only [h]
    rw [if_pos (by rw [flat_od]; rfl), inD_od]
  unfold oNotIn
  rw [e]
  simp
def odP : Option Int → PyData
  | none => .none
  | some i => .int i
theorem odPs : ∀ xs : List (Option Int), dPys (xs.map od) = xs.map odP
  | [] => rfl
  | x :: xs => by
    show dPy (od x) :: dPys (xs.map od) = _
    rw [odPs xs]
    cases x <;> rfl
theorem od_nr : ∀ xs : List (Option Int), noRefs (xs.map od) = true
  | [] => rfl
  | x :: xs => by
    show (noRef (od x) && noRefs (xs.map od)) = true
    rw [od_nr xs]
    cases x <;> rfl
theorem toPy_od {n : Nat} {xs : List (Option Int)} (h : getL S n = some (xs.map od)) : toPy S (.ref n) = some (.list (xs.map odP)) := by
  rw [toPy_lst h (od_nr xs), odPs]
theorem sh_od (xs : List (Option Int)) : Sh (.list (xs.map odP)) := sh_list fun p hp => by
  obtain ⟨x, _, rfl⟩ := List.mem_map.mp hp
  cases x
  · exact ⟨sh_non.1, Nat.le_trans (Nat.le_of_eq (show PyData.depth .none = 0 by simp [PyData.depth])) (by decide)⟩
  · exact ⟨(sh_int _).1, Nat.le_trans (Nat.le_of_eq (show PyData.depth (.int _) = 0 by simp [PyData.depth])) (by decide)⟩
theorem sh_odP (x : Option Int) : Sh (odP x) := by
  cases x
  · exact sh_non
  · exact sh_int _
theorem toPy_odP (x : Option Int) : toPy S (od x) = some (odP x) := by cases x <;> rfl
/-- a comprehension without tests, element by element -/
theorem w_lcg {fi : FI} {g : FG} {tt : FT} {te : FE} {vs : List Nat} {ds : List D} (v : Nat → D)
    (hi : W (fi env S) fun it S1 => Ap S S1 ∧ ds.length ≤ it.len ∧ ∀ S2, Ap S1 S2 → ∀ i, it.it S2 i = some ds[i]?)
    (hb : ∀ i d, ds[i]? = some d → ∀ S2, Ap S S2 → W (g d (wipeE env vs) S2) fun e1 S3 => W (tt e1 S3) fun k S4 => k = true ∧ Ap S2 S4 ∧ W (te e1 S4) fun y S5 => y = v i ∧ Ap S4 S5)
    (hl : ds.length ≤ cap)
    (hq : ∀ n S', Ap S S' → S.length ≤ n → S'[n]? = some (.lst ((List.range ds.length).map v)) → Q (.ref n) S') : W (eLc fi g tt te vs env S) Q := by
  refine w_lc ?_
  obtain ⟨it, S1, e, a1, hlen, hit⟩ := hi
  refine ⟨it, S1, e, ?_⟩
  refine Exists.elim (lc_inv (it := it) (ds := ds) (g := g) (tt := tt) (te := te) (n := S1.length) (env := wipeE env vs) (S := S1 ++ [.lst []]) (fun i acc S' => Ap S1 S' ∧ acc = (List.range i).map v)
    (fun i acc S' h _ => hit S' h.1 i) hlen (fun i d acc S' hd hI hn => ?_) ⟨Ap.app _ _, rfl⟩ (new_at _ _)) (fun S2 hh => ?_)
  · obtain ⟨aS, ea⟩ := hI
    have hi' := (List.getElem?_eq_some_iff.mp hd).1
    obtain ⟨e1, S3, q1, k, S4, q2, rfl, a4, h⟩ := hb i d hd S' (a1.trans aS)
    refine ⟨e1, S3, q1, _, S4, q2, ?_⟩
    refine iteT ?_
    obtain ⟨y, S5, q3, rfl, a5⟩ := h
    refine ⟨_, S5, q3, a5 _ _ (a4 _ _ hn), by rw [ea]; simp; omega, (aS.trans (a4.trans a5)).set (Nat.le_refl _), ?_⟩
    rw [ea, List.range_succ, List.map_append]
    rfl
  · obtain ⟨acc, e2, e3, a2, e4⟩ := hh
    rw [e4] at e3
    exact ⟨S2, e2, hq _ _ (a1.trans a2) a1.len e3⟩
theorem range_map {α : Type} (xs : List α) (w : α → D) (v : Nat → D) (h : ∀ i x, xs[i]? = some x → v i = w x) : (List.range xs.length).map v = xs.map w := by
  apply List.ext_getElem?
  intro i
  rw [List.getElem?_map, List.getElem?_map]
  by_cases hi : i < xs.length
  · rw [List.getElem?_range hi, List.getElem?_eq_getElem hi]
    exact congrArg some (h i _ (List.getElem?_eq_getElem hi))
  · rw [List.getElem?_eq_none (by simpa using hi), List.getElem?_eq_none (by omega)]
    rfl
/-- over a list that stands for xs -/
theorem w_lcx {α : Type} {f : α → D} {xs : List α} {fi : FI} {g : FG} {tt : FT} {te : FE} {vs : List Nat} (v : α → D)
    (hi : W (fi env S) fun it S1 => Ap S S1 ∧ ∃ m, it = .lst m xs.length ∧ getL S1 m = some (xs.map f))
    (hb : ∀ x ∈ xs, ∀ S2, Ap S S2 → W (g (f x) (wipeE env vs) S2) fun e1 S3 => W (tt e1 S3) fun k S4 => k = true ∧ Ap S2 S4 ∧ W (te e1 S4) fun y S5 => y = v x ∧ Ap S4 S5)
    (hl : xs.length ≤ cap)
    (hq : ∀ n S', Ap S S' → S.length ≤ n → S'[n]? = some (.lst (xs.map v)) → Q (.ref n) S') : W (eLc fi g tt te vs env S) Q := by
  refine w_lcg (ds := xs.map f) (fun i => match xs[i]? with | some x => v x | none => .non) ?_ ?_ (by simpa using hl) ?_
  · obtain ⟨it, S1, e, a, m, rfl, gl⟩ := hi
    refine ⟨_, S1, e, a, by simp [ItD.lst], fun S2 a2 i => ?_⟩
    unfold ItD.lst
    simp [getL_ap gl a2]
  · intro i d hd S2 a2
    rw [List.getElem?_map] at hd
    obtain ⟨x, hx, rfl⟩ := Option.map_eq_some_iff.mp hd
    have := hb x (List.mem_of_getElem? hx) S2 a2
    rw [hx]
    exact this
  · intro n S' a l h
    refine hq n S' a l ?_
    rw [h, List.length_map, range_map xs v]
    intro i x hx
    rw [hx]
/-- over a range -/
theorem w_lcr {n : Nat} {lo : Int} {fi : FI} {g : FG} {tt : FT} {te : FE} {vs : List Nat} (v : Nat → D)
    (hi : W (fi env S) fun it S1 => it = .fix (rngD lo n) ∧ S1 = S)
    (hb : ∀ k, k < n → ∀ S2, Ap S S2 → W (g (.int (lo + k)) (wipeE env vs) S2) fun e1 S3 => W (tt e1 S3) fun b S4 => b = true ∧ Ap S2 S4 ∧ W (te e1 S4) fun y S5 => y = v k ∧ Ap S4 S5)
    (hl : n ≤ cap)
    (hq : ∀ m S', Ap S S' → S.length ≤ m → S'[m]? = some (.lst ((List.range n).map v)) → Q (.ref m) S') : W (eLc fi g tt te vs env S) Q := by
  refine w_lcg (ds := rngD lo n) v ?_ ?_ (by rw [rng_len]; exact hl) ?_
  · obtain ⟨it, S1, e, rfl, rfl⟩ := hi
    exact ⟨_, _, e, Ap.refl _, Nat.le_refl _, fun S2 a i => rfl⟩
  · intro i d hd S2 a2
    obtain ⟨rfl, h⟩ := rng_get hd
    exact hb i h S2 a2
  · rw [rng_len]
    exact hq
/-- while, by a number that falls -/
theorem w_while {t : FT} {b : FS} (Inv : Nat → Env → Sto → Prop) (step : ∀ m env S, Inv m env S → W (t env S) fun k S1 => if k = true then W (b env S1) (QL (fun e S2 => ∃ m', m' < m ∧ Inv m' e S2) QS') else QS' (.nx env) S1) {m : Nat} (hm : m < 1000000) (h0 : Inv m env S) : W (sWhile t b env S) QS' := by
  have key : ∀ (n m : Nat) (env : Env) (S : Sto), m < n → Inv m env S → W (whileN t b n env S) QS' := by
    intro n
    induction n with
    | zero => intro m env S h; omega
    | succ n ih =>
      intro m env S h hI
      unfold whileN
      rw [W_th]
      obtain ⟨k, S1, e, q⟩ := step m env S hI
      refine ⟨k, S1, e, ?_⟩
      cases k with
      | false => simpa using q
      | true =>
        rw [if_pos rfl] at q
        obtain ⟨o, S2, e2, q⟩ := q
        show W (if true = true then _ else _) _
        rw [if_pos rfl, W_th]
        refine ⟨o, S2, e2, ?_⟩
        cases o with
        | nx e => obtain ⟨m', h1, h2⟩ := q; exact ih m' e S2 (by omega) h2
        | ct e => obtain ⟨m', h1, h2⟩ := q; exact ih m' e S2 (by omega) h2
        | bk e => simpa using q
        | rt d => simpa using q
  exact key fuel m env S hm h0
end
end FL
namespace FL
open PySem L2
theorem it_zip {n m : Nat} {us ws : List D} {S2 : Sto} (h1 : getL S2 n = some us) (h2 : getL S2 m = some ws) (k i : Nat) : (ItD.zip n m k).it S2 i = some (((us.zip ws).map fun p => D.pr [p.1, p.2])[i]?) := by
  unfold ItD.zip
  simp only [h1, h2, List.getElem?_map, List.zip_eq_zipWith, List.getElem?_zipWith]
  cases us[i]? <;> cases ws[i]? <;> rfl
theorem w_zip {env : Env} {S : Sto} {fr : FA} {QI : ItD → Sto → Prop} (h : W (fr env S) fun ds S1 => ∃ n m us ws, ds = [.ref n, .ref m] ∧ getL S1 n = some us ∧ getL S1 m = some ws ∧ QI (.zip n m (min us.length ws.length)) S1) : W (iZip fr env S) QI := by
  unfold iZip
  rw [W_th]
  obtain ⟨ds, S1, e, n, m, us, ws, rfl, h1, h2, q⟩ := h
  refine ⟨_, S1, e, ?_⟩
  simp only [h1, h2]
  simpa using q
section
variable {env : Env} {S : Sto} {Q : D → Sto → Prop}
/-- a comprehension whose elements draw from the tape -/
theorem w_lct {tp tm : Nat} {fi : FI} {g : FG} {tt : FT} {te : FE} {vs : List Nat} {ds : List D} (P : D → D → Prop) (hT : Tape S tp tm)
    (hi : W (fi env S) fun it S1 => Kn tp S S1 ∧ S.length ≤ S1.length ∧ Tape S1 tp tm ∧ ds.length ≤ it.len ∧ ∀ S2, Kn tp S1 S2 → ∀ i, it.it S2 i = some ds[i]?)
    (hb : ∀ d ∈ ds, ∀ S2, Kn tp S S2 → Tape S2 tp tm → S.length ≤ S2.length → W (g d (wipeE env vs) S2) fun e1 S3 => W (tt e1 S3) fun k S4 => k = true ∧ Kn tp S2 S4 ∧ W (te e1 S4) fun y S5 => P d y ∧ Kn tp S4 S5 ∧ Tape S5 tp tm ∧ S2.length ≤ S5.length)
    (hl : ds.length ≤ cap)
    (hq : ∀ (n : Nat) (S' : Sto) (ys : List D), Kn tp S S' → Tape S' tp tm → S.length ≤ n → n < S'.length → ys.length = ds.length → (∀ (j : Nat) (x y : D), ds[j]? = some x → ys[j]? = some y → P x y) → S'[n]? = some (.lst ys) → Q (.ref n) S') : W (eLc fi g tt te vs env S) Q := by
  refine w_lc ?_
  obtain ⟨it, S1, e, a1, l1, T1, hlen, hit⟩ := hi
  refine ⟨it, S1, e, ?_⟩
  have t1 := T1.lt
  have t2 := T1.ltm
  refine Exists.elim (lc_inv (it := it) (ds := ds) (g := g) (tt := tt) (te := te) (n := S1.length) (env := wipeE env vs) (S := S1 ++ [.lst []]) (fun i acc S' => Kn tp S1 S' ∧ Tape S' tp tm ∧ S1.length < S'.length ∧ acc.length = i ∧ ∀ (j : Nat) (x y : D), ds[j]? = some x → acc[j]? = some y → P x y)
    (fun i acc S' h _ => hit S' h.1 i) hlen (fun i d acc S' hd hI hn => ?_) ⟨(Ap.app _ _).kn tp, T1.ap (Ap.app _ _), by simp, rfl, fun j x y _ (h : ([] : List D)[j]? = some y) => by simp at h⟩ (new_at _ _)) (fun S2 hh => ?_)
  · obtain ⟨aS, TS, lS, ea, eP⟩ := hI
    have hi' := (List.getElem?_eq_some_iff.mp hd).1
    obtain ⟨e1, S3, q1, k, S4, q2, rfl, a4, h⟩ := hb d (List.mem_of_getElem? hd) S' (a1.trans aS) TS (by omega)
    refine ⟨e1, S3, q1, _, S4, q2, ?_⟩
    refine iteT ?_
    obtain ⟨y, S5, q3, hP, a5, T5, l5⟩ := h
    refine ⟨_, S5, q3, a5 _ _ (by omega) (a4 _ _ (by omega) hn), by omega, (aS.trans (a4.trans a5)).setO (Nat.le_refl _), T5.set (by omega) (by omega), by rw [List.length_set]; omega, by simp [ea], ?_⟩
    intro j x y' hx hy
    by_cases hj : j < acc.length
    · rw [List.getElem?_append_left hj] at hy
      exact eP j x y' hx hy
    · have hj2 : j = acc.length := by
        have := (List.getElem?_eq_some_iff.mp hy).1
        simp at this
        omega
      subst hj2
      rw [List.getElem?_append_right (Nat.le_refl _), Nat.sub_self] at hy
      cases hy
      rw [ea, hd] at hx
      cases hx
      exact hP
  · obtain ⟨acc, e2, e3, a2, T2, l2, e4, eP⟩ := hh
    exact ⟨S2, e2, hq _ _ acc (a1.trans a2) T2 l1 l2 e4 eP e3⟩
/-- an index that is drawn -/
theorem w_ixr {n : Nat} {ds : List D} {r : Int} (h : getL S n = some ds) (h0 : 0 ≤ r) (h1 : r < ds.length) (q : ∀ d ∈ ds, Q d S) : W (oIx (.ref n) (.int r) S) Q := by
  obtain ⟨j, rfl⟩ : ∃ j : Nat, r = j := ⟨r.toNat, by omega⟩
  have hj : j < ds.length := by omega
  rw [w_ixL h (FL.atI_nat (List.getElem?_eq_getElem hj))]
  exact q _ (List.getElem_mem hj)
end
end FL
/-! FL16: sorted(set(list of ints)). -/
namespace FL
open PySem PySem.Spec PyProof.Rows L2
/-- a set that has just been made -/
def void (w : World) : Obj := { cls := .type "set", dict := none, data := .set #[] 0 (.fresh 0 0 (!w.params.followText "set-order")) }
section
variable {P : Program} {w : World} {A : Around} {E : Value → Shared → Prop} {s : Shared}
/-- what set(list) leaves behind -/
def Left (w : World) (s : Shared) (ns : List Int) (s2 : Shared) : Prop :=
  ∃ h2 k c, s2 = { s with heap := h2, toks := k } ∧ SetR w h2 s.heap.objs.size (fun j => decide (j ∈ ns)) c ∧ c ≤ ns.length ∧
    ∀ b u, s.heap.get? b = some u → h2.get? b = some u
theorem void_setR {h : Heap} {a : Addr} {ns : List Int} (g : h.get? a = some (void w)) : SetR w h a (fun j => decide (j ∈ ns.take 0)) 0 := setR_new_at g
/-- the items go in, one by one -/
theorem fill_list {l : Addr} {items : Array Value} (ns : List Int) (free : A.handled = none) {h0 : Heap} (e0 : h0 = s.heap.push (void w)) (isl : h0.IsList l items) (lt : l < s.heap.objs.size) (are : IntsAre items.toList ns) (few : ns.length + 1 < scanBound)
    {Rr : Result → Shared → Prop} (done : ∀ s2, Left w s ns s2 → Rr (.ok (.ret .none)) s2) :
    codeAny (model P w) A (.builtin "set.update.loop" ⟨[.ref s.heap.objs.size, .ref h0.objs.size], []⟩) Rr { s with heap := h0.push { cls := .type "list_iterator", data := .fields #[.ref l, .int 0 0] } } := by
  subst e0
  have nlen : items.size = ns.length := by
    rw [← IntsAre.length are, Array.length_toList]
  have sz : (s.heap.push (void w)).objs.size = s.heap.objs.size + 1 := Heap.size_push ..
  have apart : l ≠ (s.heap.push (void w)).objs.size := fun z => Nat.ne_of_lt (Nat.lt_succ_of_lt lt) (z.trans sz)
  have outside : s.heap.objs.size ∉ [(s.heap.push (void w)).objs.size, l] := by
    intro z
    rcases List.mem_cons.mp z with z | z
    · exact Nat.ne_of_lt (Nat.lt_succ_self _) (Eq.trans z sz)
    · exact Nat.ne_of_gt lt (List.mem_singleton.mp z)
  have value : ∀ (i : Nat) (v : Value), items[i]? = some v → ∃ k t, ns[i]? = some k ∧ v = .int k t := by
    intro i v hv
    have il : i < ns.length := nlen ▸ (Array.getElem?_eq_some_iff.mp hv).1
    obtain ⟨t, et⟩ := IntsAre.int_at are i v (by rw [Array.getElem?_toList]; exact hv)
    have gd : ns.getD i 0 = ns[i] := by
      rw [List.getD_eq_getElem?_getD, List.getElem?_eq_getElem il, Option.getD_some]
    exact ⟨ns[i], t, List.getElem?_eq_getElem il, by rw [et, gd]⟩
  have there : ((s.heap.push (void w)).push { cls := .type "list_iterator", data := .fields #[.ref l, .int 0 0] }).get? s.heap.objs.size = some (void w) := Heap.get?_push_of_some _ (Heap.get?_push_size _ rfl)
  refine set_update_ints (Walks.list (A := A.in1) (by simpa using free) _ l apart items).toS s.heap.objs.size outside ns nlen few value items.size 0 _ (by omega) (Nat.zero_le _) ⟨⟨_, Heap.get?_push_size _ rfl, rfl, rfl⟩, isl.push _⟩ ⟨0, Nat.le_refl 0, void_setR there⟩ ?_
  intro s2 c mv cl set2
  refine done s2 ⟨s2.heap, s2.toks, c, ?_, set2, by omega, fun b u g => ?_⟩
  · obtain ⟨x1, x2, x3, x4, x5⟩ := s2
    have q1 : x2 = s.gens := mv.gens
    have q2 : x3 = s.drawn := mv.drawn
    have q3 : x5 = s.os := mv.os
    rw [q1, q2, q3]
  · have bl : b < s.heap.objs.size := Heap.lt_size g
    refine mv.heap b u (fun z => ?_) (Heap.get?_push_of_some _ (Heap.get?_push_of_some _ g))
    rcases List.mem_cons.mp z with z | z
    · exact Nat.ne_of_lt bl z
    · exact Nat.ne_of_lt (Nat.lt_succ_of_lt bl) (Eq.trans (List.mem_singleton.mp z) sz)
set_option maxRecDepth 100000 in
set_option maxHeartbeats 6400000 in
/-- set(l), l a list of ints -/
theorem call_set_lst {l : Addr} {items : Array Value} (ns : List Int) (free : A.handled = none) (isl : s.heap.IsList l items) (are : IntsAre items.toList ns) (few : ns.length + 1 < scanBound) {Q : Value → Shared → Prop}
    (next : ∀ s2, Left w s ns s2 → Q (.ref s.heap.objs.size) s2) : wpAny (model P w) A (call (.type "set") [.ref l]) Q E s := by
  obtain ⟨c0, rest, order⟩ := F.called_set.mro
  have p1 := F.called_set.made
  have p2 := F.called_set.sub
  have p3 := F.called_set.notType
  have p4 := F.called_set.canCreate
  have p5 := F.typeCall_set_1 (.ref l)
  have lt : l < s.heap.objs.size := by
    obtain ⟨ob, g, _⟩ := isl
    exact Heap.lt_size g
  -- type.__call__
  refine wpAny_call (codeAny_of_tree (?_ : wpAny _ _ (callAny (.type "set") _) _ _ _))
  refine wpAny_pure (And.intro (Code.quiet_builtin _ (by decide +kernel)) (codeAny_builtin F.entry_type_call ?_))
  rw [show Around.under A _ = _ from Around.under_plain (weight_type_call_type "set" [.ref l] []) rfl]
  repeat (any_goals (first | wp_step | assumption))
  -- set.__new__
  refine codeAny_mono (code_set_led1 (.ref l) (E := E) (Q₁ := fun v s1 => v = .ref s.heap.objs.size ∧ s1 = { s with heap := s.heap.push (void w) }) ⟨rfl, rfl⟩) fun got s1 mid => ?_
  match got, mid with
  | .error e, mid => exact mid
  | .ok (.ret v), ⟨ev, es⟩ =>
    subst ev es
    have here : (s.heap.push (void w)).get? s.heap.objs.size = some (void w) := Heap.get?_push_size _ rfl
    have ty : Shared.TypeIs { s with heap := s.heap.push (void w) } (.ref s.heap.objs.size) "set" := ⟨_, here, rfl⟩
    have p6 := F.called_set.init.lookup
    have p7 := F.called_set.init.bind (.ref s.heap.objs.size)
    repeat (any_goals (first | wp_step | assumption))
    -- set.__init__
    refine codeAny_mono (codeAny_call_builtin (R := wants (fun v s2 => v = .none ∧ Left w s ns s2) E) F.called_set.init.plain F.entry_set_init (check_set_init_1 ty ?_)) fun got2 s2 mid2 => ?_
    · have isl2 : (s.heap.push (void w)).IsList l items := isl.push _
      obtain ⟨ob, g, cl, m, dt⟩ := isl
      obtain ⟨oc, od_, odt, osl⟩ := ob
      simp only at cl dt
      subst cl dt
      have g2 : (s.heap.push (void w)).get? l = some { cls := .type "list", dict := od_, data := .seq items m, slots := osl } := Heap.get?_push_of_some _ g
      have q1 := F.sub_list_set
      have q2 := F.sub_list_frozenset
      have q3 : (Value.type "list" == Value.type "dict") = false := by decide
      unfold Builtin.«set.__init__» noKeywords
      unfold Builtin.Frozenset.updateFrom
      generalize walker : pyIter = it
      wp_walk
      subst walker
      refine wpAny_pyIter_list isl2 (wpAny_bind (wpAny_runValue ?_))
      refine fill_list ns (by simp [free]) rfl isl2 lt are few fun s2 left => ?_
      show wpAny _ _ _ _ _ _
      exact wpAny_pure (show wpAny _ _ (ret Value.none) _ _ s2 from wpAny_pure ⟨rfl, left⟩)
    · match got2, mid2 with
      | .error e, mid2 => exact mid2
      | .ok (.ret v), ⟨ev, left⟩ =>
        subst ev
        repeat (any_goals (first | wp_step | assumption))
        exact next s2 left
end
end FL
/-! FL17: sorted(set(list of ints)) as a rule; what it computes. -/
namespace FL
open PySem PySem.Spec PyProof.Rows L2
def insU (x : Int) : List Int → List Int
  | [] => [x]
  | y :: r => if x < y then x :: y :: r else if x = y then y :: r else y :: insU x r
def sortU (ns : List Int) : List Int := ns.foldr insU []
theorem mem_insU (x z : Int) : ∀ l : List Int, z ∈ insU x l ↔ z = x ∨ z ∈ l
  | [] => by simp [insU]
  | y :: r => by
    unfold insU
    by_cases h : x < y
    · rw [if_pos h]; simp
    · rw [if_neg h]
      by_cases e : x = y
      · rw [if_pos e, e]; simp
      · rw [if_neg e]
        simp only [List.mem_cons, mem_insU x z r]
        constructor
        · rintro (h | h | h)
          · exact .inr (.inl h)
          · exact .inl h
          · exact .inr (.inr h)
        · rintro (h | h | h)
          · exact .inr (.inl h)
          · exact .inl h
          · exact .inr (.inr h)
theorem insU_sorted (x : Int) : ∀ l : List Int, l.Pairwise (· < ·) → (insU x l).Pairwise (· < ·)
  | [], _ => by simp [insU]
  | y :: r, h => by
    rw [List.pairwise_cons] at h
    unfold insU
    by_cases h1 : x < y
    · rw [if_pos h1, List.pairwise_cons, List.pairwise_cons]
      refine ⟨fun z hz => ?_, h⟩
      rcases List.mem_cons.mp hz with rfl | hz
      · exact h1
      · exact Int.lt_trans h1 (h.1 z hz)
    · rw [if_neg h1]
      by_cases e : x = y
      · rw [if_pos e, List.pairwise_cons]
        exact h
      · rw [if_neg e, List.pairwise_cons]
        refine ⟨fun z hz => ?_, insU_sorted x r h.2⟩
        rcases (mem_insU x z r).mp hz with rfl | hz
        · omega
        · exact h.1 z hz
theorem mem_sortU (z : Int) : ∀ ns : List Int, z ∈ sortU ns ↔ z ∈ ns
  | [] => Iff.rfl
  | x :: ns => by
    show z ∈ insU x (sortU ns) ↔ _
    rw [mem_insU, mem_sortU z ns, List.mem_cons]
theorem sortU_sorted : ∀ ns : List Int, (sortU ns).Pairwise (· < ·)
  | [] => List.Pairwise.nil
  | x :: ns => insU_sorted x _ (sortU_sorted ns)
theorem strict_uniq : ∀ {l m : List Int}, l.Pairwise (· < ·) → m.Pairwise (· < ·) → (∀ z, z ∈ l ↔ z ∈ m) → l = m
  | [], [], _, _, _ => rfl
  | [], y :: m, _, _, h => absurd ((h y).mpr List.mem_cons_self) (by simp)
  | x :: l, [], _, _, h => absurd ((h x).mp List.mem_cons_self) (by simp)
  | x :: l, y :: m, hl, hm, h => by
    rw [List.pairwise_cons] at hl hm
    have exy : x = y := by
      rcases List.mem_cons.mp ((h x).mp List.mem_cons_self) with e | e
      · exact e
      · rcases List.mem_cons.mp ((h y).mpr List.mem_cons_self) with e2 | e2
        · exact e2.symm
        · have := hl.1 y e2
          have := hm.1 x e
          omega
    subst exy
    have : l = m := strict_uniq hl.2 hm.2 fun z => by
      constructor
      · intro hz
        rcases List.mem_cons.mp ((h z).mp (List.mem_cons_of_mem _ hz)) with e | e
        · have := hl.1 z hz
          omega
        · exact e
      · intro hz
        rcases List.mem_cons.mp ((h z).mpr (List.mem_cons_of_mem _ hz)) with e | e
        · have := hm.1 z hz
          omega
        · exact e
    rw [this]
/-- set(xs), xs a list of ints -/
def rSetL (X : Cx) : List V → Hp → VK → Prop := fun vs H Q => ∃ (a : Addr) (ns : List Int), vs = [V.ref a] ∧ SqL X.K H a (ns.map V.int) ∧ ns.length ≤ 1000 ∧ ∀ (p : Addr) (m : Nat), H p = none → m ≤ ns.length → Q (.ref p) (upd H p (SetO X.w p (fun j => decide (j ∈ ns)) m))
def eSortSet (fe : FE) : FE := fun env S => th (fe env S) fun d S1 => match d with
  | .ref n => match (getL S1 n).bind intsD with
    | some ns => if ns.length < 64 then some (.ref S1.length, S1 ++ [.lst ((sortU ns).map D.int)]) else none
    | none => none
  | _ => none
section
variable {c : FC} {X : Cx} {e : Expr} {fe : FE} {p p2 pos pos2 : Pos}
theorem cr_setL (hc : X.calm = true) : CallR X (.type "set") (rSetL X) := by
  intro pins s σ H vs us Q I r h
  obtain ⟨a, ns, rfl, hs, hl, q⟩ := h
  obtain ⟨its, rv, isl, _⟩ := I.list hs
  rw [Vals.ref1 r]
  refine call_set_lst ns (I.ok.hd hc) isl.isList (by simpa using ints_of_vals rv) (by unfold scanBound; omega) fun s2 left => ?_
  obtain ⟨h2, k, m, rfl, R, ml, kp⟩ := left
  exact ⟨.ref _, upd H s.heap.objs.size (SetO X.w s.heap.objs.size (fun j => decide (j ∈ ns)) m), I.laid (t' := k) (fun b u e => kp b u e) (Nat.le_refl _) (setO_new R), rfl, q _ m (I.hok.fresh (Nat.le_refl _)) ml⟩
theorem q_sortSet (hK : c.K = X.K) (hc : X.calm = true) (hg : Gl X "sorted") (hm : X.mg "sorted" = none) (hg2 : Gl X "set") (hm2 : X.mg "set" = none) (h : PE X e (tE c fe))
    (st : starEach [e] X.env = (false, eval e X.env) :: starEach [] X.env := by rfl)
    (st2 : starEach [.Call (.Name "set" p2) [e] [] pos2] X.env = (false, eval (.Call (.Name "set" p2) [e] [] pos2) X.env) :: starEach [] X.env := by rfl) :
    PE X (.Call (.Name "sorted" p) [.Call (.Name "set" p2) [e] [] pos2] [] pos) (tE c (eSortSet fe)) := by
  refine PE.w (pe_callB (cr_sortedSet hc) hg hm PyProof.Rows.boot_sorted (pa_cons (pe_callTy (cr_setL hc) hg2 hm2 PyProof.Rows.boot_set (pa_cons h pa_nil st) (he := st)) pa_nil st2) (he := st2)) fun σ H Q h => ?_
  obtain ⟨μ, env, S, d, S', he, hs, hf, ha⟩ := h
  obtain ⟨x, S1, h1, hf⟩ := th_inv hf
  refine ⟨μ, env, S, x, S1, he, hs, h1, fun μ1 H1 v e1 k1 r1 => ?_⟩
  cases x with
  | ref n =>
    obtain ⟨a, ha1, rfl⟩ := r1
    simp only at hf
    split at hf
    · rename_i ns g1
      split at hf
      · rename_i hz
        cases hf
        obtain ⟨ds, g2, g3⟩ := Option.bind_eq_some_iff.mp g1
        obtain ⟨a', xs, g4, q1, rr⟩ := getL_sq k1 g2
        rw [ha1] at g4
        cases g4
        rw [intsD_rep g3 rr] at q1
        refine ⟨a, ns, rfl, by rw [← hK]; exact q1, by omega, fun s m hp ml => ?_⟩
        refine ⟨s, _, m, rfl, upd_same, by omega, fun ms p3 o1 o2 o3 hp3 => ?_⟩
        have e : ms = sortU ns := strict_uniq o1 (sortU_sorted ns) fun z => by rw [o2 z, mem_sortU, decide_eq_true_eq]
        rw [e]
        have x1 : Ext c μ1 H1 μ1 (upd H1 s (SetO X.w s (fun j => decide (j ∈ ns)) m)) := Ext.upd (.inl hp)
        obtain ⟨y1, y2, y3⟩ := lst_new (k1.same hp) (ints_rep (sortU ns)) hp3
        exact ha _ _ _ ((e1.trans x1).trans y1) y2 y3
      · cases hf
    · cases hf
  | _ => cases hf
theorem w_sortSet {env : FL.Env} {S : Sto} {Q : D → Sto → Prop} (h : W (fe env S) fun d S1 => ∃ (n : Nat) (ns : List Int), d = .ref n ∧ getL S1 n = some (ns.map D.int) ∧ ns.length < 64 ∧ W (some (D.ref S1.length, S1 ++ [.lst ((sortU ns).map D.int)])) Q) : W (eSortSet fe env S) Q := by
  unfold eSortSet
  rw [W_th]
  obtain ⟨d, S1, e, n, ns, rfl, h1, h2, q⟩ := h
  refine ⟨_, S1, e, ?_⟩
  simpa [h1, intsD_map, h2] using q
end
end FL
/-! FL18: values of and, strings, tuples; comprehensions of two clauses. -/
namespace FL
open PySem L2
theorem W_pure {r : Option (D × Sto)} {v : D} {S : Sto} (h : W r fun d S' => d = v ∧ S' = S) {Q : D → Sto → Prop} : W r Q ↔ Q v S := by
  obtain ⟨d, S', e, rfl, rfl⟩ := h
  rw [e, W_some]
section
variable {env : FL.Env} {S : Sto} {Q : D → Sto → Prop}
theorem w_eAnd (fa fb : FE) : W (eAnd fa fb env S) Q ↔ W (fa env S) fun x S1 => match tru x S1 with
    | some b => if b = true then W (fb env S1) Q else Q x S1
    | none => False := by
  unfold eAnd
  rw [W_th]
  have key : ∀ (x : D) (S1 : Sto), W (match tru x S1 with
      | some true => fb env S1
      | some false => some (x, S1)
      | none => none) Q ↔ match tru x S1 with
      | some b => if b = true then W (fb env S1) Q else Q x S1
      | none => False := by
    intro x S1
    cases tru x S1 with
    | none => simp
    | some b => cases b <;> simp
  constructor
  · rintro ⟨x, S1, e, h⟩
    exact ⟨x, S1, e, (key x S1).mp h⟩
  · rintro ⟨x, S1, e, h⟩
    exact ⟨x, S1, e, (key x S1).mpr h⟩
theorem w_tTru {fe : FE} {QT : Bool → Sto → Prop} : W (tTru fe env S) QT ↔ W (fe env S) fun d S1 => match tru d S1 with
    | some b => QT b S1
    | none => False := by
  unfold tTru
  rw [W_th]
  have key : ∀ (x : D) (S1 : Sto), W ((tru x S1).map fun b => (b, S1)) QT ↔ match tru x S1 with
      | some b => QT b S1
      | none => False := by
    intro x S1
    cases tru x S1 <;> simp
  constructor
  · rintro ⟨x, S1, e, h⟩
    exact ⟨x, S1, e, (key x S1).mp h⟩
  · rintro ⟨x, S1, e, h⟩
    exact ⟨x, S1, e, (key x S1).mpr h⟩
theorem tru_bl (b : Bool) (S : Sto) : tru (.bl b) S = some b := rfl
theorem w_addT {xs ys : List D} (h : xs.length + ys.length ≤ cap) : W (oAdd (.tup xs) (.tup ys) S) Q ↔ Q (.tup (xs ++ ys)) S := by
  unfold oAdd
  simp [h]
theorem sh_str {x : Str} (h : PyData.strOk x = true) : Sh (.str x) := ⟨by rw [PyData.canLay0]; exact h, by simp [PyData.depth]⟩
theorem w_eqStr {x y : Str} (hx : PyData.strOk x = true) (hy : PyData.strOk y = true) : W (oEq (.str x) (.str y) S) Q ↔ Q (.bl (x == y)) S := by
  rw [w_eqP (p := .str x) (q := .str y) rfl rfl (sh_str hx) (sh_str hy)]
  rw [PyData.eqv]
theorem w_pow {i j : Int} (h : (decide (0 ≤ j) && decide (j ≤ 1000) && decide (i.natAbs < 18446744073709551616)) = true) : W (oPow (.int i) (.int j) S) Q ↔ Q (.int (i ^ j.toNat)) S := by
  unfold oPow
  simp only [h, if_true, W_some]
theorem dPys_ints : ∀ ns : List Int, dPys (ns.map D.int) = ns.map PyData.int
  | [] => rfl
  | n :: ns => by
    show dPy (.int n) :: dPys (ns.map D.int) = _
    rw [dPys_ints ns]
    rfl
theorem nr_ints : ∀ ns : List Int, noRefs (ns.map D.int) = true
  | [] => rfl
  | n :: ns => by
    show (noRef (.int n) && noRefs (ns.map D.int)) = true
    rw [nr_ints ns]
    rfl
theorem toPy_ints {n : Nat} {ns : List Int} (h : getL S n = some (ns.map D.int)) : toPy S (.ref n) = some (.list (ns.map PyData.int)) := by rw [toPy_lst h (nr_ints ns), dPys_ints]
theorem d_int (i : Int) : (PyData.int i).canLay0 = true ∧ (PyData.int i).depth ≤ 10 := ⟨(sh_int i).1, Nat.le_trans (Nat.le_of_eq (show PyData.depth (.int i) = 0 by simp [PyData.depth])) (by decide)⟩
theorem sh_ints (ns : List Int) : Sh (.list (ns.map PyData.int)) := sh_list fun p hp => by
  obtain ⟨i, _, rfl⟩ := List.mem_map.mp hp
  exact d_int i
theorem sh_pair (i j : Int) : Sh (.tuple [.int i, .int j]) := sh_tuple fun p hp => by
  simp only [List.mem_cons, List.not_mem_nil, or_false] at hp
  rcases hp with rfl | rfl <;> exact d_int _
theorem w_neT {i j : Int} : W (oNe (.tup [.int i, .int j]) (.tup [.int i, .int j]) S) Q ↔ Q (.bl false) S := w_neS (p := .tuple [.int i, .int j]) rfl rfl (sh_pair i j)
/-- a comprehension that starts from a list -/
theorem lc_invA {it : ItD} {ds : List D} {g : FG} {tt : FT} {te : FE} {n : Nat} {env : FL.Env} (Inv : Nat → List D → Sto → Prop) (acc0 : List D)
    (hit : ∀ i acc S, Inv i acc S → S[n]? = some (.lst acc) → it.it S i = some ds[i]?) (hlen : ds.length ≤ it.len)
    (step : ∀ i d acc S, ds[i]? = some d → Inv i acc S → S[n]? = some (.lst acc) → W (g d env S) fun e1 S1 => W (tt e1 S1) fun k S2 =>
      if k = true then W (te e1 S2) fun y S3 => S3[n]? = some (.lst acc) ∧ acc.length < cap ∧ Inv (i + 1) (acc ++ [y]) (S3.set n (.lst (acc ++ [y]))) else S2[n]? = some (.lst acc) ∧ Inv (i + 1) acc S2)
    {S : Sto} (h0 : Inv 0 acc0 S) (hn : S[n]? = some (.lst acc0)) : ∃ S' acc, lcI it g tt te n env (it.len + 1) 0 S = some S' ∧ S'[n]? = some (.lst acc) ∧ Inv ds.length acc S' := by
  have key : ∀ (m i : Nat) (acc : List D) (S : Sto), ds.length < i + m → i ≤ ds.length → Inv i acc S → S[n]? = some (.lst acc) → ∃ S' acc', lcI it g tt te n env m i S = some S' ∧ S'[n]? = some (.lst acc') ∧ Inv ds.length acc' S' := by
    intro m
    induction m with
    | zero => intro i acc S h1 h2; omega
    | succ m ih =>
      intro i acc S h1 h2 hI hn
      unfold lcI
      rw [hit i acc S hI hn]
      by_cases hz : i < ds.length
      · rw [List.getElem?_eq_getElem hz]
        obtain ⟨e1, S1, q1, k, S2, q2, h⟩ := step i _ acc S (List.getElem?_eq_getElem hz) hI hn
        simp only [q1, th_some, q2]
        cases k with
        | true =>
          rw [if_pos rfl] at h ⊢
          obtain ⟨y, S3, q3, h1', h2', h3'⟩ := h
          simp only [q3, th_some, h1', if_pos h2']
          exact ih (i + 1) _ _ (by omega) (by omega) h3' (set_at h1')
        | false =>
          rw [if_neg Bool.false_ne_true] at h ⊢
          exact ih (i + 1) acc S2 (by omega) (by omega) h.2 h.1
      · have e : i = ds.length := by omega
        subst e
        rw [List.getElem?_eq_none (Nat.le_refl _)]
        exact ⟨S, acc, rfl, hn, hI⟩
  exact key _ 0 acc0 S (by omega) (Nat.zero_le _) h0 hn
theorem w_lc2m {fi : FI} {g : FG} {tt : FT} {fi1 : FI} {g1 : FG} {tt1 : FT} {te : FE} {vs vs1 : List Nat} {us ws : List D} (p : D → Bool) (v : D → D → D)
    (hi : W (fi env S) fun it S1 => Ap S S1 ∧ us.length ≤ it.len ∧ ∀ S2, Ap S1 S2 → ∀ i, it.it S2 i = some us[i]?)
    (hb : ∀ a ∈ us, ∀ S2, Ap S S2 → W (g a (wipeE env vs) S2) fun e1 S3 => W (tt e1 S3) fun k S4 => k = p a ∧ Ap S2 S4 ∧ (p a = true → W (fi1 e1 S4) fun it1 S5 => Ap S4 S5 ∧ ws.length ≤ it1.len ∧ (∀ S6, Ap S S6 → ∀ j, it1.it S6 j = some ws[j]?) ∧
      ∀ b ∈ ws, ∀ S6, Ap S S6 → W (g1 b (wipeE e1 vs1) S6) fun e2 S7 => W (tt1 e2 S7) fun k2 S8 => k2 = true ∧ Ap S6 S8 ∧ W (te e2 S8) fun y S9 => y = v a b ∧ Ap S8 S9))
    (hl : us.length * ws.length < cap)
    (hq : ∀ n S', Ap S S' → S.length ≤ n → S'[n]? = some (.lst ((us.filter p).flatMap fun a => ws.map (v a))) → Q (.ref n) S') : W (eLc2 fi g tt fi1 g1 tt1 te vs vs1 env S) Q := by
  unfold eLc2
  rw [W_th]
  obtain ⟨it, S1, e, a1, hlen, hit⟩ := hi
  refine ⟨it, S1, e, ?_⟩
  have key : ∀ (m i : Nat) (S' : Sto) (acc : List D), us.length < i + m → i ≤ us.length → Ap S1 S' → S'[S1.length]? = some (.lst acc) → acc = ((us.take i).filter p).flatMap (fun a => ws.map (v a)) → acc.length ≤ i * ws.length →
      ∃ S2, lc2I it g tt fi1 g1 tt1 te vs1 S1.length (wipeE env vs) m i S' = some S2 ∧ Ap S1 S2 ∧ S2[S1.length]? = some (.lst ((us.filter p).flatMap fun a => ws.map (v a))) := by
    intro m
    induction m with
    | zero => intro i S' acc h1 h2; omega
    | succ m ih =>
      intro i S' acc h1 h2 aS hn ea la
      unfold lc2I
      rw [hit S' aS i]
      by_cases hz : i < us.length
      · have hd := List.getElem?_eq_getElem hz
        rw [hd]
        obtain ⟨e1, S3, q1, k, S4, q2, rfl, a4, h⟩ := hb us[i] (List.getElem_mem hz) S' (a1.trans aS)
        simp only [q1, th_some, q2]
        have tk : us.take (i + 1) = us.take i ++ [us[i]] := by rw [List.take_add_one, hd]; rfl
        have mul1 : (i + 1) * ws.length = i * ws.length + ws.length := Nat.succ_mul i ws.length
        cases hp : p us[i] with
        | true =>
          rw [if_pos rfl]
          obtain ⟨it1, S5, q5, a5, l5, hit1, hb1⟩ := h hp
          simp only [q5, th_some]
          obtain ⟨S6, acc6, r1, r2, r3, r4⟩ := lc_invA (it := it1) (ds := ws) (g := g1) (tt := tt1) (te := te) (n := S1.length) (env := wipeE e1 vs1) (fun j ac S7 => Ap S1 S7 ∧ ac = acc ++ (ws.take j).map (v us[i])) acc
            (fun j ac S7 hI _ => hit1 S7 (a1.trans hI.1) j) l5 (fun j b ac S7 hbj hI hn7 => by
              obtain ⟨aI, eI⟩ := hI
              obtain ⟨e2, S8, t1, k2, S9, t2, rfl, a9, y, S10, t3, rfl, a10⟩ := hb1 b (List.mem_of_getElem? hbj) S7 (a1.trans aI)
              refine ⟨e2, S8, t1, true, S9, t2, iteT ⟨_, S10, t3, a10 _ _ (a9 _ _ hn7), ?_, (aI.trans (a9.trans a10)).set (Nat.le_refl _), ?_⟩⟩
              · have hj := (List.getElem?_eq_some_iff.mp hbj).1
                rw [eI, List.length_append, List.length_map, List.length_take]
                have : i * ws.length + ws.length ≤ us.length * ws.length := by
                  rw [← mul1]
                  exact Nat.mul_le_mul_right _ hz
                omega
              · rw [eI, List.take_add_one, hbj, List.map_append, List.append_assoc]
                rfl) ⟨aS.trans (a4.trans a5), by simp⟩ ((a4.trans a5) _ _ hn)
          simp only [r1]
          rw [List.take_length] at r4
          refine ih (i + 1) S6 acc6 (by omega) (by omega) r3 r2 ?_ ?_
          · rw [r4, tk, List.filter_append, List.flatMap_append, ea]
            simp [hp]
          · rw [r4, List.length_append, List.length_map]
            omega
        | false =>
          rw [if_neg Bool.false_ne_true]
          refine ih (i + 1) S4 acc (by omega) (by omega) (aS.trans a4) (a4 _ _ hn) ?_ (by omega)
          rw [tk, List.filter_append, List.flatMap_append, ea]
          simp [hp]
      · have e : i = us.length := by omega
        subst e
        rw [List.getElem?_eq_none (Nat.le_refl _)]
        refine ⟨S', rfl, aS, ?_⟩
        rw [hn, ea, List.take_length]
  obtain ⟨S2, r1, r2, r3⟩ := key (it.len + 1) 0 (S1 ++ [.lst []]) [] (by omega) (Nat.zero_le _) (Ap.app _ _) (new_at _ _) rfl (Nat.zero_le _)
  have := hq _ _ (a1.trans r2) a1.len r3
  simpa [r1] using this
end
end FL
/-! FL19: comprehensions over lists of numbers. -/
namespace FL
open PySem L2
section
variable {env : FL.Env} {S : Sto} {Q : D → Sto → Prop}
def onI (v : Int → Int) : D → D
  | .int x => .int (v x)
  | d => d
def onP (p : Int → Bool) : D → Bool
  | .int x => p x
  | _ => false
theorem filter_ints (p : Int → Bool) : ∀ ns : List Int, (ns.map D.int).filter (onP p) = (ns.filter p).map D.int
  | [] => rfl
  | n :: ns => by
    rw [List.map_cons, List.filter_cons, List.filter_cons, filter_ints p ns]
    show (if p n = true then _ else _) = _
    split <;> rfl
theorem map_onI (v : Int → Int) : ∀ ns : List Int, (ns.map D.int).map (onI v) = (ns.map v).map D.int
  | [] => rfl
  | n :: ns => by
    rw [List.map_cons, List.map_cons, List.map_cons, List.map_cons, map_onI v ns]
    rfl
theorem w_lci {fi : FI} {g : FG} {tt : FT} {te : FE} {vs : List Nat} {ns : List Int} (v : Int → Int) (p : Int → Bool)
    (hi : W (fi env S) fun it S1 => Ap S S1 ∧ ns.length ≤ it.len ∧ ∀ S2, Ap S1 S2 → ∀ i, it.it S2 i = some (ns.map D.int)[i]?)
    (hb : ∀ x ∈ ns, ∀ S2, Ap S S2 → W (g (.int x) (wipeE env vs) S2) fun e1 S3 => W (tt e1 S3) fun k S4 => k = p x ∧ Ap S2 S4 ∧ (p x = true → W (te e1 S4) fun y S5 => y = .int (v x) ∧ Ap S4 S5))
    (hl : ns.length ≤ cap)
    (hq : ∀ n S', Ap S S' → S.length ≤ n → S'[n]? = some (.lst (((ns.filter p).map v).map D.int)) → Q (.ref n) S') : W (eLc fi g tt te vs env S) Q := by
  refine w_lcm (ds := ns.map D.int) (onI v) (onP p) ?_ (fun d hd S2 a => ?_) (by simpa using hl) (fun n S' a l h => hq n S' a l ?_)
  · obtain ⟨it, S1, e, h1, h2, h3⟩ := hi
    exact ⟨it, S1, e, h1, by simpa using h2, h3⟩
  · obtain ⟨x, hx, rfl⟩ := List.mem_map.mp hd
    exact hb x hx S2 a
  · rw [h, filter_ints, map_onI]
theorem w_lc2i {fi : FI} {g : FG} {tt : FT} {fi1 : FI} {g1 : FG} {tt1 : FT} {te : FE} {vs vs1 : List Nat} {ns ms : List Int} (p : Int → Bool) (v : Int → Int → Int)
    (hi : W (fi env S) fun it S1 => Ap S S1 ∧ ns.length ≤ it.len ∧ ∀ S2, Ap S1 S2 → ∀ i, it.it S2 i = some (ns.map D.int)[i]?)
    (hb : ∀ a ∈ ns, ∀ S2, Ap S S2 → W (g (.int a) (wipeE env vs) S2) fun e1 S3 => W (tt e1 S3) fun k S4 => k = p a ∧ Ap S2 S4 ∧ (p a = true → W (fi1 e1 S4) fun it1 S5 => Ap S4 S5 ∧ ms.length ≤ it1.len ∧ (∀ S6, Ap S S6 → ∀ j, it1.it S6 j = some (ms.map D.int)[j]?) ∧
      ∀ b ∈ ms, ∀ S6, Ap S S6 → W (g1 (.int b) (wipeE e1 vs1) S6) fun e2 S7 => W (tt1 e2 S7) fun k2 S8 => k2 = true ∧ Ap S6 S8 ∧ W (te e2 S8) fun y S9 => y = .int (v a b) ∧ Ap S8 S9))
    (hl : ns.length * ms.length < cap)
    (hq : ∀ n S', Ap S S' → S.length ≤ n → S'[n]? = some (.lst (((ns.filter p).flatMap fun a => ms.map (v a)).map D.int)) → Q (.ref n) S') : W (eLc2 fi g tt fi1 g1 tt1 te vs vs1 env S) Q := by
  refine w_lc2m (us := ns.map D.int) (ws := ms.map D.int) (onP p) (fun a b => match a with | .int x => onI (v x) b | _ => .non) ?_ (fun d hd S2 a => ?_) (by simpa using hl) (fun n S' a l h => hq n S' a l ?_)
  · obtain ⟨it, S1, e, h1, h2, h3⟩ := hi
    exact ⟨it, S1, e, h1, by simpa using h2, h3⟩
  · obtain ⟨x, hx, rfl⟩ := List.mem_map.mp hd
    refine (hb x hx S2 a).mono fun e1 S3 h => h.mono fun k S4 ⟨h1, h2, h3⟩ => ⟨h1, h2, fun hp => (h3 hp).mono fun it1 S5 ⟨k1, k2, k3, k4⟩ => ⟨k1, by simpa using k2, k3, fun b hb S6 a6 => ?_⟩⟩
    obtain ⟨y, hy, rfl⟩ := List.mem_map.mp hb
    exact k4 y hy S6 a6
  · rw [h, filter_ints, List.flatMap_map, List.map_flatMap]
    have e : (fun a => (ms.map D.int).map (onI (v a))) = fun a => (ms.map (v a)).map D.int := funext fun a => map_onI (v a) ms
    exact congrArg (fun f => some (O.lst (List.flatMap f (ns.filter p)))) e
/-- a list of numbers that stays, as what is walked -/
theorem hit_lst {n : Nat} {ns : List Int} {S1 : Sto} (h : getL S1 n = some (ns.map D.int)) (k : Nat) : ∀ S2, Ap S1 S2 → ∀ i, (ItD.lst n k).it S2 i = some (ns.map D.int)[i]? := by
  intro S2 a i
  unfold ItD.lst
  simp [getL_ap h a]
end
end FL
/-! FL20: classes by their names; a new instance; what is never read. -/
namespace FL
open PySem PySem.Spec PyProof.Rows L2
/-- the class that the module calls x -/
def ctK (K : PySem.W.Frag) : Str → Addr := fun x => match PySem.W.nsIn K mainGlobals x with
  | some (some (.ref C)) => C
  | _ => (0 : Nat)
theorem ctK_of {K : PySem.W.Frag} {x : Str} {C : Addr} (a : PySem.W.nsIn K mainGlobals x = some (some (.ref C))) : ctK K x = C := by
  unfold ctK
  rw [a]
theorem lenP {n : Nat} {fr : FA} (h : ∀ (env : FL.Env) (S : Sto) (ds : List D) (S' : Sto), fr env S = some (ds, S') → ds.length = n) : ∀ (env : FL.Env) (S : Sto) (ds : List D) (S' : Sto), fr env S = some (ds, S') → ds.length + 1 = n + 1 := fun env S ds S' q => by rw [h env S ds S' q]
/-- what is never read -/
def eNever : FE := fun _ _ => none
section
variable {c : FC} {X : Cx} {k : Nat} {x : Str} {ps : List Str} {F : FF} {e o : Expr} {es : List Expr} {fr : FA} {fo : FE} {p pos apos : Pos}
theorem q_enever : PE X e (tE c eNever) := ⟨fun pins s σ H Q I h => by
  obtain ⟨μ, env, S, d, S', he, hs, hf, ha⟩ := h
  cases hf⟩
theorem q_makeP {C : Str} {np : Nat} (hK : c.K = X.K) (h : Ip c X.prog X.w X.mg X.base k C ps F) (hr : Room (k + 1) X.A) (hg : Gl X C) (ha : PA X (e :: es) (tA c fr)) (hl : ∀ (env : FL.Env) (S : Sto) (ds : List D) (S' : Sto), fr env S = some (ds, S') → ds.length = np) (hp : np + 1 = ps.length := by rfl)
    (hdb : (C == ("__debug__" : Str)) = false := by decide) (he : starEach (e :: es) X.env = (false, eval e X.env) :: starEach es X.env := by rfl) (hpl : (backTo pos (starEach es X.env)).any (·.1) = false := by rfl) :
    PE X (.Call (.Name C p) (e :: es) [] pos) (tE c (eMake C F fr)) := by
  obtain ⟨f, fd, h1, h2, h3, h4⟩ := h.ex
  rw [hK] at h1 h3 h4
  exact q_make (n := ps.length) (E := fun _ _ _ => False) (pe_make h3 h1 hr hg h2 h4 .nil pass0 ha hdb he hpl) fun env S ds S' q => by rw [hl env S ds S' q, hp]
end
end FL
/-! FL21: sorted(d.items()), d a dict from numbers to numbers. -/
namespace FL
open PySem PySem.Spec PyProof.Rows L2
abbrev entI (e : Int × Int) : Key × V := (Sum.inl e.1, V.int e.2)
abbrev pairT (e : Int × Int) : HO := .tup [.int e.1, .int e.2]
/-- x stands after y or beside it -/
abbrev later (x y : Int × Int) : Prop := SrtO.lexB y x = false
def rSortItI : List V → Hp → VK → Prop := fun vs H Q => ∃ (p a : Addr) (ks : List (Int × Int)), vs = [.ref p] ∧ H p = some (DX.itemsO p a) ∧ Rd H a (.dK (ks.map entI)) ∧
  ∀ (H' : Hp) (l : Addr) (zs : List (Addr × Int × Int)), (∀ b o, H b = some o → H' b = some o) → H l = none → (zs.map (·.2)).Perm ks → (zs.map (·.2)).Pairwise later → H' l = some (.lst (zs.map fun z => V.ref z.1)) → (∀ z ∈ zs, ∃ o : Obj, H' z.1 = some (.frz o (pairT z.2)) ∧ o.dict = none) → Q (.ref l) H'
def adr : Value → Addr
  | .ref a => a
  | _ => (0 : Nat)
open Classical in
/-- the two numbers of the pair at v -/
noncomputable def two (h : Heap) (v : Value) : Int × Int := if p : ∃ q : Int × Int, Srt.IsPair h v q.1 q.2 then p.choose else (0, 0)
theorem two_of {h : Heap} {v : Value} {q : Int × Int} (p : Srt.IsPair h v q.1 q.2) : two h v = q := by
  have ex : ∃ q : Int × Int, Srt.IsPair h v q.1 q.2 := ⟨q, p⟩
  have sp := ex.choose_spec
  unfold two
  rw [dif_pos ex]
  obtain ⟨a, o, t, u, n, e, ho, hc, hd⟩ := p
  obtain ⟨a', o', t', u', n', e', ho', hc', hd'⟩ := sp
  rw [e] at e'
  cases e'
  rw [ho] at ho'
  cases ho'
  rw [hd] at hd'
  injection hd' with h1 h2
  have h3 := congrArg Array.toList h1
  simp only [List.cons.injEq, Value.int.injEq] at h3
  exact Prod.ext h3.1.1.symm h3.2.1.1.symm
theorem pairs_get {P : Program} {w : World} : ∀ {es : List DictEntry} {kvs : List (Key × Value)} {j : Nat} {e : DictEntry}, Pairs (mixKind P w) es kvs → es[j]? = some e → ∃ kv, kvs[j]? = some kv ∧ keyIs kv.1 e.key = true ∧ e.val = kv.2
  | _, _, j, e, .nil, h => by simp at h
  | _, _, 0, e, .cons h1 h2 _, h => by
    simp only [List.getElem?_cons_zero, Option.some.injEq] at h
    subst h
    exact ⟨_, rfl, h1, h2⟩
  | _, _, j + 1, e, .cons _ _ t, h => by
    simp only [List.getElem?_cons_succ] at h
    obtain ⟨kv, e1, e2⟩ := pairs_get (j := j) t h
    exact ⟨kv, by simpa using e1, e2⟩
section
variable {X : Cx}
/-- what already stands is tracked -/
theorem takeF {pins : List (Addr × Obj)} {σ : L2.St} {H0 : Hp} {s : Shared} {h' : Heap} {tk : Nat} {P : Addr → HO → Prop} (I0 : Inv X pins σ H0 s) : ∀ (L : List Addr) (H1 : Hp), Inv X pins σ H1 { s with heap := h', toks := tk } → L.Nodup →
    (∀ a ∈ L, s.heap.objs.size ≤ a ∧ H1 a = none ∧ ∃ u, P a u ∧ ∀ H2, ObjOk X.prog X.w H2 h' a u) → ∃ H2, Inv X pins σ H2 { s with heap := h', toks := tk } ∧ (∀ b o, H1 b = some o → H2 b = some o) ∧ ∀ a ∈ L, ∃ u, P a u ∧ H2 a = some u
  | [], H1, I1, _, _ => ⟨H1, I1, fun _ _ e => e, fun _ h => by cases h⟩
  | a :: L, H1, I1, hn, h => by
    obtain ⟨low, free, u, hP, good⟩ := h a List.mem_cons_self
    rw [List.nodup_cons] at hn
    have I2 : Inv X pins σ (upd H1 a u) { s with heap := h', toks := tk } := I1.take (h' := h') (t' := tk) (fun b ob _ e => e) (I0.fpOk low free) (good _)
    obtain ⟨H2, I3, g, q⟩ := takeF I0 L (upd H1 a u) I2 hn.2 fun b hb => by
      obtain ⟨x1, x2, x3⟩ := h b (List.mem_cons_of_mem _ hb)
      have ne : b ≠ a := fun z => hn.1 (z ▸ hb)
      exact ⟨x1, by rw [upd_ne ne]; exact x2, x3⟩
    refine ⟨H2, I3, fun b o e => g b o (by rw [upd_ne (ne_of_none e free)]; exact e), fun b hb => ?_⟩
    rcases List.mem_cons.mp hb with rfl | hb
    · exact ⟨u, hP, g _ _ upd_same⟩
    · exact q b hb
theorem cr_sortedItI (hc : X.calm = true) : CallR X (.builtin "sorted") rSortItI := by
  intro pins s σ H xs us Q I r h
  obtain ⟨p, a, ks, rfl, hp, ha, q⟩ := h
  obtain rfl := Vals.ref1 r
  have view : s.heap.IsItemsView p a := (show ObjOk X.prog X.w H s.heap p (DX.itemsO p a) from I.hok p _ hp).1
  obtain ⟨zl, _, vs, rel, ob, es, ep, hob0, hex, hdat, _, prs, _⟩ := dk_rd I.hok ha
  have l1 : ks.length = vs.length := by
    have := Paired.length rel
    rwa [List.length_map] at this
  have l2 : es.size = vs.length := by
    have := prs.length
    rwa [Array.length_toList] at this
  rw [List.length_map] at zl
  refine DT.sortedI (es := es) (ep := ep) (I.ok.hd hc) view ⟨ob, hob0, hex, hdat⟩ (by omega) fun h' tk as hk hlt hl hG => ?_
  have lak : as.length = ks.length := by omega
  have nd : as.Nodup := hG.rise.imp fun h => Nat.ne_of_lt h
  -- what stands at the j-th new pair
  have pr : ∀ (j : Nat) (b : Addr), as[j]? = some b → ∃ (e : Int × Int) (t u : Tok), ks[j]? = some e ∧ h'.get? b = some { cls := .type "tuple", data := .seq #[.int e.1 t, .int e.2 u] } := by
    intro j b hj
    obtain ⟨en, g1, g2⟩ := hG.pairs j b hj
    obtain ⟨kv, g3, g4, g5⟩ := pairs_get (j := j) prs (by rw [Array.getElem?_toList]; exact g1)
    obtain ⟨kv0, g6, g7, g8⟩ := DX.pget rel g3
    rw [List.getElem?_map] at g6
    obtain ⟨e, g9, rfl⟩ := Option.map_eq_some_iff.mp g6
    obtain ⟨u, g10⟩ := (show ∃ u, kv.2 = Value.int e.2 u from g8)
    have g7 : Sum.inl e.1 = kv.1 := g7
    rw [← g7] at g4
    rcases keyIs_shape g4 with ⟨i, t, ek, ev⟩ | ⟨x, t, ek, ev⟩
    · cases ek
      exact ⟨e, t, u, g9, by rw [g2, ev, g5, g10]⟩
    · cases ek
  have at2 : (h'.push { cls := .type "list", data := .seq (as.map Value.ref).toArray }).get? h'.objs.size = some (seqObj "list" (as.map Value.ref).toArray 0) := Heap.get?_push_size _ rfl
  have up2 : ∀ b o, h'.get? b = some o → (h'.push { cls := .type "list", data := .seq (as.map Value.ref).toArray }).get? b = some o := fun b o e => Heap.get?_push_of_some _ e
  have off : ∀ b o, h'.get? b = some o → b ≠ h'.objs.size := fun b o e => Nat.ne_of_lt (Heap.lt_size e)
  generalize h'.push { cls := .type "list", data := .seq (as.map Value.ref).toArray } = h2 at at2 up2 ⊢
  have ip : ∀ (j : Nat) (b : Addr), as[j]? = some b → ∃ e, ks[j]? = some e ∧ Srt.IsPair h2 (.ref b) e.1 e.2 := by
    intro j b hj
    obtain ⟨e, t, u, g1, g2⟩ := pr j b hj
    exact ⟨e, g1, b, _, t, u, 0, rfl, up2 _ _ g2, rfl, rfl⟩
  have tw : ∀ (j : Nat) (b : Addr) (e : Int × Int), as[j]? = some b → ks[j]? = some e → two h2 (.ref b) = e := by
    intro j b e h1 h2'
    obtain ⟨e', g1, g2⟩ := ip j b h1
    rw [h2'] at g1
    cases g1
    exact two_of g2
  have each : ∀ v ∈ as.map Value.ref, ∃ (j : Nat) (b : Addr) (e : Int × Int), v = .ref b ∧ as[j]? = some b ∧ ks[j]? = some e := by
    intro v hv
    obtain ⟨b, hb, rfl⟩ := List.mem_map.mp hv
    obtain ⟨j, hj⟩ := List.mem_iff_getElem?.mp hb
    obtain ⟨e, g, _⟩ := ip j b hj
    exact ⟨j, b, e, rfl, hj, g⟩
  have lz : (as.map Value.ref).length ≤ sizeLine := by rw [List.length_map]; omega
  refine wpAny_call_entry PyProof.Rows.slot_list_sort ⟨_, at2, rfl⟩ PyProof.Rows.entry_list_sort (SrtO.list_sort_ord (s := { s with heap := h2, toks := tk }) (SrtO.swo_lex (two h2)) at2 lz
    (fun n2 => SrtO.pairs_sortableO (s := { s with heap := h2, toks := tk }) (k := two h2) (by omega) (fun v hv => ?_) fun o e ec => ?_) fun out o1 o2 => ⟨.none, rfl, ?_⟩) (PyProof.Rows.args_list_sort _)
  · obtain ⟨j, b, e, rfl, g1, g2⟩ := each v hv
    obtain ⟨e', g3, g4⟩ := ip j b g1
    rw [g2] at g3
    cases g3
    rw [tw j b e g1 g2]
    exact g4
  · have z : some o = some (seqObj "list" (as.map Value.ref).toArray 0) := e.symm.trans at2
    cases z
    exact absurd (Value.type.inj ec) (by decide)
  · show EP X pins σ Q (.ref h'.objs.size) { s with heap := sortedHeap h2 h'.objs.size (as.map Value.ref) out.toArray, toks := tk }
    have oref : ∀ v ∈ out, ∃ (j : Nat) (b : Addr) (e : Int × Int), v = .ref b ∧ as[j]? = some b ∧ ks[j]? = some e := fun v hv => each v (o2.perm.mem_iff.mp hv)
    have kof : (as.map Value.ref).map (two h2) = ks := by
      apply List.ext_getElem?
      intro j
      rw [List.map_map, List.getElem?_map]
      cases hj : as[j]? with
      | none =>
        have := List.getElem?_eq_none_iff.mp hj
        rw [List.getElem?_eq_none (by omega)]
        rfl
      | some b =>
        obtain ⟨e, g1, _⟩ := ip j b hj
        rw [g1]
        exact congrArg some (tw j b e hj g1)
    -- the sorted pairs with their places
    have z1 : (out.map fun v => (adr v, two h2 v)).map (·.2) = out.map (two h2) := by rw [List.map_map]; rfl
    have z2 : ((out.map fun v => (adr v, two h2 v)).map (·.2)).Perm ks := by
      rw [z1, ← kof]
      exact o2.perm.map _
    have z3 : ((out.map fun v => (adr v, two h2 v)).map (·.2)).Pairwise later := by
      rw [z1, List.pairwise_map]
      exact o1
    have z4 : ((out.map fun v => (adr v, two h2 v)).map fun z => Value.ref z.1) = out := by
      rw [List.map_map]
      conv => rhs; rw [← List.map_id out]
      refine List.map_congr_left fun v hv => ?_
      obtain ⟨j, b, e, rfl, _⟩ := oref v hv
      rfl
    have z5 : ∀ z ∈ (out.map fun v => (adr v, two h2 v)), ∃ j : Nat, as[j]? = some z.1 ∧ ks[j]? = some z.2 := by
      intro z hz
      obtain ⟨v, hv, rfl⟩ := List.mem_map.mp hz
      obtain ⟨j, b, e, rfl, g1, g2⟩ := oref v hv
      exact ⟨j, g1, by rw [g2]; exact congrArg some (tw j b e g1 g2).symm⟩
    generalize (out.map fun v => (adr v, two h2 v)) = zs at z2 z3 z4 z5
    clear z1
    -- behind the sort
    have f1 : ∀ b o, b ≠ h'.objs.size → h2.get? b = some o → (sortedHeap h2 h'.objs.size (as.map Value.ref) out.toArray).get? b = some o := fun b o hb e => (sortedHeap_old hb (Heap.lt_size e)).trans e
    have f2 : ∀ b o, s.heap.get? b = some o → (sortedHeap h2 h'.objs.size (as.map Value.ref) out.toArray).get? b = some o := fun b o e => f1 b o (off _ _ (hk b o e)) (up2 b o (hk b o e))
    obtain ⟨ee, he⟩ := sortedHeap_at (vs := as.map Value.ref) (out := out.toArray) at2
    have J1 : Inv X pins σ H { s with heap := sortedHeap h2 h'.objs.size (as.map Value.ref) out.toArray, toks := tk } := I.kept (t' := tk) f2
    have n0 : H h'.objs.size = none := I.hok.fresh (Nat.le_of_lt hlt)
    have zlen : (zs.map fun z => V.ref z.1).length ≤ sizeLine := by
      have := z2.length_eq
      rw [List.length_map] at this ⊢
      omega
    have rv : Vals (zs.map fun z => V.ref z.1) out := by
      rw [← z4]
      exact vals_maps (fun z : Addr × Int × Int => V.ref z.1) (fun z => Value.ref z.1) zs fun _ _ => rfl
    have J2 : Inv X pins σ (upd H h'.objs.size (.lst (zs.map fun z => V.ref z.1))) { s with heap := sortedHeap h2 h'.objs.size (as.map Value.ref) out.toArray, toks := tk } :=
      J1.take (h' := sortedHeap h2 h'.objs.size (as.map Value.ref) out.toArray) (t' := tk) (fun b o _ e => e) (I.fpOk (Nat.le_of_lt hlt) n0) ⟨zlen, out, ee, rv, by simpa using he⟩
    obtain ⟨H2, J3, gr, tk2⟩ := takeF (P := fun b u => ∃ (j : Nat) (e : Int × Int) (ob : Obj), as[j]? = some b ∧ ks[j]? = some e ∧ u = .frz ob (pairT e) ∧ ob.dict = none) I as _ J2 nd fun b hb => by
      obtain ⟨j, hj⟩ := List.mem_iff_getElem?.mp hb
      obtain ⟨e, t, u, g1, g2⟩ := pr j b hj
      have low : s.heap.objs.size ≤ b := Nat.le_of_lt (hG.above b hb)
      refine ⟨low, ?_, _, ⟨j, e, _, hj, g1, rfl, rfl⟩, fun H3 => ⟨f1 _ _ (off _ _ g2) (up2 _ _ g2), by rw [sizeLine_eq]; show 2 ≤ 16777216; omega, [.int e.1 t, .int e.2 u], .cons ⟨t, rfl⟩ (.cons ⟨u, rfl⟩ .nil), ⟨_, f1 _ _ (off _ _ g2) (up2 _ _ g2), rfl, 0, rfl⟩⟩⟩
      rw [upd_ne (off _ _ g2)]
      exact I.hok.fresh low
    refine ⟨.ref h'.objs.size, H2, J3, rfl, q H2 h'.objs.size zs (fun b o e => gr b o (by rw [upd_ne (ne_of_none e n0)]; exact e)) n0 z2 z3 (gr _ _ upd_same) fun z hz => ?_⟩
    obtain ⟨i, i1, i2⟩ := z5 z hz
    obtain ⟨us, ⟨j, e, ob2, j1, j2, eu, hd2⟩, hH⟩ := tk2 z.1 (List.mem_of_getElem? i1)
    have eij : i = j := (List.getElem?_inj (List.getElem?_eq_some_iff.mp i1).1 nd).mp (i1.trans j1.symm)
    subst eij
    rw [i2] at j2
    cases j2
    rw [eu] at hH
    exact ⟨ob2, hH, hd2⟩
end
end FL
/-! FL22: sorted(d.items()) by data. -/
namespace FL
open PySem PySem.Spec PyProof.Rows L2
theorem grow_ext {c : FC} {μ : List Addr} {H H' : Hp} {l : Addr} (g : ∀ b o, H b = some o → H' b = some o) : Ext c μ H (μ ++ [l]) H' :=
  ⟨fun n a e => by
    rw [List.getElem?_append_left (List.getElem?_eq_some_iff.mp e).1]
    exact e, fun a xs h => h.imp (fun h => h.imp (fun h => g _ _ h) fun ⟨o, h⟩ => ⟨o, g _ _ h⟩) id, fun a o u h => g _ _ h⟩
theorem grow_lst {c : FC} {μ : List Addr} {S : Sto} {H H' : Hp} {l : Addr} {ds : List D} {xs : List V} (hs : StoOk c μ S H) (g : ∀ b o, H b = some o → H' b = some o) (hn : H l = none) (hl : H' l = some (.lst xs)) (r : Reps c (μ ++ [l]) H' ds xs) :
    StoOk c (μ ++ [l]) (S ++ [.lst ds]) H' ∧ Rep c (μ ++ [l]) H' (.ref S.length) (.ref l) := by
  have at_ : (μ ++ [l])[S.length]? = some l := by
    rw [← hs.len, List.getElem?_append_right (Nat.le_refl _), Nat.sub_self]
    rfl
  have old : ∀ n a, n < S.length → ((μ ++ [l])[n]? = some a ↔ μ[n]? = some a) := fun n a hn => by rw [List.getElem?_append_left (by rw [hs.len]; exact hn)]
  have key : ∀ n a o', S[n]? = some o' → own o' = true → μ[n]? = some a → a ≠ l := fun n a o' e ow e1 z => by
    obtain ⟨b, e2, rr⟩ := hs.stands n o' e
    rw [e1] at e2
    cases e2
    obtain ⟨u, q⟩ := rr.tracked ow
    rw [z, hn] at q
    cases q
  have split : ∀ (m : Nat) (o : O), (S ++ [O.lst ds])[m]? = some o → (m < S.length ∧ S[m]? = some o) ∨ (m = S.length ∧ o = .lst ds) := fun m o e => by
    by_cases hm : m < S.length
    · rw [List.getElem?_append_left hm] at e
      exact .inl ⟨hm, e⟩
    · have hlt := (List.getElem?_eq_some_iff.mp e).1
      rw [List.length_append] at hlt
      have em : m = S.length := by
        have : m < S.length + 1 := hlt
        omega
      subst em
      rw [List.getElem?_append_right (Nat.le_refl _), Nat.sub_self] at e
      exact .inr ⟨rfl, (Option.some.inj e).symm⟩
  refine ⟨⟨by simp [hs.len], fun n o e => ?_, fun n m a o1 o2 e1 e2 w1 w2 a1 a2 => ?_⟩, l, at_, rfl⟩
  · rcases split n o e with ⟨hn', e⟩ | ⟨rfl, rfl⟩
    · obtain ⟨a, e1, rr⟩ := hs.stands n o e
      exact ⟨a, (old n a hn').mpr e1, rr.mono (grow_ext g) fun u q => g _ _ q⟩
    · exact ⟨l, at_, xs, hl, r⟩
  · rcases split n o1 e1 with ⟨h1, e1⟩ | ⟨rfl, rfl⟩
    · rcases split m o2 e2 with ⟨h2, e2⟩ | ⟨rfl, rfl⟩
      · exact hs.inj n m a o1 o2 e1 e2 w1 w2 ((old n a h1).mp a1) ((old m a h2).mp a2)
      · rw [at_] at a2
        cases a2
        exact absurd rfl (key n l o1 e1 w1 ((old n l h1).mp a1))
    · rcases split m o2 e2 with ⟨h2, e2⟩ | ⟨rfl, rfl⟩
      · rw [at_] at a1
        cases a1
        exact absurd rfl (key m l o2 e2 w2 ((old m l h2).mp a2))
      · rfl
/-! ### pairs in order -/
def insP (x : Int × Int) : List (Int × Int) → List (Int × Int)
  | [] => [x]
  | y :: r => if SrtO.lexB x y = true then x :: y :: r else y :: insP x r
def sortP (l : List (Int × Int)) : List (Int × Int) := l.foldr insP []
theorem insP_perm (x : Int × Int) : ∀ l, (insP x l).Perm (x :: l)
  | [] => List.Perm.refl _
  | y :: r => by
    unfold insP
    split
    · exact List.Perm.refl _
    · exact ((insP_perm x r).cons y).trans (List.Perm.swap x y r)
theorem sortP_perm : ∀ l, (sortP l).Perm l
  | [] => List.Perm.refl _
  | x :: l => (insP_perm x _).trans ((sortP_perm l).cons x)
theorem later_iff {x y : Int × Int} : later x y ↔ ¬ (y.1 < x.1 ∨ (y.1 = x.1 ∧ y.2 < x.2)) := SrtO.lexB_no
theorem insP_sorted (x : Int × Int) : ∀ l, l.Pairwise later → (insP x l).Pairwise later
  | [], _ => List.pairwise_singleton _ _
  | y :: r, h => by
    rw [List.pairwise_cons] at h
    unfold insP
    cases e : SrtO.lexB x y with
    | true =>
      rw [if_pos rfl, List.pairwise_cons, List.pairwise_cons]
      have e' := SrtO.lexB_iff.mp e
      refine ⟨fun z hz => ?_, h⟩
      rcases List.mem_cons.mp hz with rfl | hz
      · rw [later_iff]
        omega
      · have := later_iff.mp (h.1 z hz)
        rw [later_iff]
        omega
    | false =>
      rw [if_neg Bool.false_ne_true, List.pairwise_cons]
      refine ⟨fun z hz => ?_, insP_sorted x r h.2⟩
      rcases List.mem_cons.mp ((insP_perm x r).mem_iff.mp hz) with rfl | hz
      · exact e
      · exact h.1 z hz
theorem sortP_sorted : ∀ l, (sortP l).Pairwise later
  | [] => List.Pairwise.nil
  | x :: l => insP_sorted x _ (sortP_sorted l)
theorem later_anti {x y : Int × Int} (h1 : later x y) (h2 : later y x) : x = y := by
  have a := later_iff.mp h1
  have b := later_iff.mp h2
  exact Prod.ext (by omega) (by omega)
theorem sortedP_uniq : ∀ {l m : List (Int × Int)}, l.Perm m → l.Pairwise later → m.Pairwise later → l = m
  | [], m, p, _, _ => (List.nil_perm.mp p).symm
  | x :: l, [], p, _, _ => by simpa using p.length_eq
  | x :: l, y :: m, p, hl, hm => by
    rw [List.pairwise_cons] at hl hm
    have exy : x = y := by
      rcases List.mem_cons.mp (p.mem_iff.mp List.mem_cons_self) with e | e
      · exact e
      · rcases List.mem_cons.mp (p.mem_iff.mpr List.mem_cons_self) with e2 | e2
        · exact e2.symm
        · exact later_anti (hl.1 y e2) (hm.1 x e)
    subst exy
    rw [sortedP_uniq p.cons_inv hl.2 hm.2]
/-! ### the rule -/
def intKV : List (Key × D) → Option (List (Int × Int))
  | [] => some []
  | (.inl k, .int v) :: r => (intKV r).map fun l => (k, v) :: l
  | _ :: _ => none
abbrev pD (e : Int × Int) : D := .tup [.int e.1, .int e.2]
theorem intKV_rep {c : FC} {μ : List Addr} {H : Hp} : ∀ {kvs : List (Key × D)} {ks : List (Int × Int)} {ys : List (Key × V)}, intKV kvs = some ks → RepKV c μ H kvs ys → ys = ks.map entI
  | [], ks, ys, h, r => by
    cases h
    exact r.inv0
  | (.inl k, .int v) :: rest, ks, ys, h, r => by
    obtain ⟨l, e1, rfl⟩ := Option.map_eq_some_iff.mp h
    obtain ⟨w, ys', rfl, rw1, r2⟩ := r.inv
    obtain rfl := (show w = .int v from rw1)
    rw [intKV_rep e1 r2]
    rfl
def eSortItems (fe : FE) : FE := fun env S => th (fe env S) fun d S1 => match d with
  | .ref n => match S1[n]? with
    | some (.dic kvs) => match intKV kvs with
      | some ks => if ks.length ≤ cap then some (.ref S1.length, S1 ++ [.lst ((sortP ks).map pD)]) else none
      | none => none
    | _ => none
  | _ => none
section
variable {c : FC} {X : Cx} {e : Expr} {fe : FE} {p apos cpos pos : Pos}
def rItemsI : V → List V → Hp → VK → Prop := fun x xs H Q => ∃ (a : Addr) (kvs : List (Key × V)), x = .ref a ∧ xs = [] ∧ H a = some (.dK kvs) ∧ ∀ q, H q = none → Q (.ref q) (upd H q (DX.itemsO q a))
theorem mt_itemsI : MtR X "dict.items" rItemsI := by
  intro pins s σ H x xs v us Q I rx rxs h
  obtain ⟨a, kvs, rfl, rfl, ha, q⟩ := h
  cases rx
  cases rxs
  obtain ⟨_, big, vs, _, ob, es, ep, g1, g2, g3, _⟩ := dk_of I.hok ha
  have free : H s.heap.objs.size = none := I.hok.fresh (Nat.le_refl _)
  refine DT.callItems (es := es) (ep := ep) big ⟨ob, g1, g2, g3⟩ ⟨.ref s.heap.objs.size, upd H s.heap.objs.size (DX.itemsO s.heap.objs.size a), ?_, rfl, q _ free⟩
  exact I.laid (t' := s.toks) (fun b u e => Heap.get?_push_of_some _ e) (Nat.le_refl _) (DX.itemsO_ok (Heap.get?_push_size _ rfl))
theorem pairs_rep {μ : List Addr} {H : Hp} : ∀ (zs : List (Addr × Int × Int)), (∀ z ∈ zs, ∃ o : Obj, H z.1 = some (.frz o (pairT z.2)) ∧ o.dict = none) → Reps c μ H ((zs.map (·.2)).map pD) (zs.map fun z => V.ref z.1)
  | [], _ => rfl
  | z :: zs, h => ⟨_, _, rfl, ⟨z.1, [.int z.2.1, .int z.2.2], rfl, .inl (h z List.mem_cons_self), _, _, rfl, rfl, _, _, rfl, rfl, rfl⟩, pairs_rep zs fun y hy => h y (List.mem_cons_of_mem _ hy)⟩
theorem q_sortItems (hK : c.K = X.K) (hc : X.calm = true) (hu : X.A.units + 64 < cLine) (hg : Gl X "sorted") (hm : X.mg "sorted" = none) (h : PE X e (tE c fe))
    (hb : attributeBase e "items" X.env (eval e X.env) = eval e X.env := by rfl) (hline : (apos.endLine == cpos.line) = true := by rfl)
    (st : starEach [.Call (.Attribute e "items" apos) [] [] cpos] X.env = (false, eval (.Call (.Attribute e "items" apos) [] [] cpos) X.env) :: starEach [] X.env := by rfl) :
    PE X (.Call (.Name "sorted" p) [.Call (.Attribute e "items" apos) [] [] cpos] [] pos) (tE c (eSortItems fe)) := by
  refine PE.w (pe_callB (cr_sortedItI hc) hg hm PyProof.Rows.boot_sorted (pa_cons (pe_bm0 PySem.F.plainAttrs_dict PySem.F.slot_dict_items PySem.F.type_dict_items mt_itemsI h hb hline) pa_nil st) (he := st)) fun σ H Q h => ?_
  obtain ⟨μ, env, S, d, S', he, hs, hf, ha⟩ := h
  obtain ⟨x, S1, h1, hf⟩ := th_inv hf
  refine ⟨μ, env, S, x, S1, he, hs, h1, fun μ1 H1 v e1 k1 r1 => ?_⟩
  cases x with
  | ref n =>
    obtain ⟨a, ha1, rfl⟩ := r1
    simp only at hf
    split at hf
    · rename_i kvs g1
      split at hf
      · rename_i ks g2
        split at hf
        · rename_i hz
          cases hf
          obtain ⟨a', g4, ys, q1, rr⟩ := k1.stands _ _ g1
          rw [ha1] at g4
          cases g4
          rw [intKV_rep g2 rr] at q1
          refine ⟨.inr (.inr (.inl ⟨rfl, .inl ⟨_, q1⟩⟩)), a, _, rfl, rfl, q1, fun w hw => ?_⟩
          have x1 : Ext c μ1 H1 μ1 (upd H1 w (DX.itemsO w a)) := Ext.upd (.inl hw)
          refine ⟨w, a, ks, rfl, upd_same, .inl (by rw [upd_ne (ne_of_none q1 hw)]; exact q1), fun H2 l zs g n0 o1 o2 hl hp => ?_⟩
          have ez : zs.map (·.2) = sortP ks := sortedP_uniq (o1.trans (sortP_perm ks).symm) o2 (sortP_sorted ks)
          have rp := pairs_rep (c := c) (μ := μ1 ++ [l]) (H := H2) zs hp
          rw [ez] at rp
          obtain ⟨y1, y2⟩ := grow_lst (k1.same hw) g n0 hl rp
          exact ha _ _ _ ((e1.trans x1).trans (grow_ext g)) y1 y2
        · cases hf
      · cases hf
    · cases hf
  | _ => cases hf
theorem w_sortItems {env : FL.Env} {S : Sto} {Q : D → Sto → Prop} (h : W (fe env S) fun d S1 => ∃ n kvs ks, d = .ref n ∧ S1[n]? = some (.dic kvs) ∧ intKV kvs = some ks ∧ ks.length ≤ cap ∧ W (some (D.ref S1.length, S1 ++ [.lst ((sortP ks).map pD)])) Q) : W (eSortItems fe env S) Q := by
  unfold eSortItems
  rw [W_th]
  obtain ⟨d, S1, e, n, kvs, ks, rfl, h1, h2, h3, q⟩ := h
  refine ⟨_, S1, e, ?_⟩
  simpa [h1, h2, h3] using q
end
end FL
/-! FL23: dict(tuple of pairs), dict(dict). -/
namespace FL
open PySem PySem.Spec PyProof.Rows L2
theorem pick {α : Type} {P : Nat → α → Prop} : ∀ n : Nat, (∀ j, j < n → ∃ x, P j x) → ∃ l : List α, l.length = n ∧ ∀ (j : Nat) (x : α), l[j]? = some x → P j x
  | 0, _ => ⟨[], rfl, fun j x h => by simp at h⟩
  | n + 1, h => by
    obtain ⟨l, e, q⟩ := pick n fun j hj => h j (by omega)
    obtain ⟨x, hx⟩ := h n (Nat.lt_succ_self n)
    refine ⟨l ++ [x], by simp [e], fun j y hy => ?_⟩
    by_cases hj : j < l.length
    · rw [List.getElem?_append_left hj] at hy
      exact q j y hy
    · have hlt := (List.getElem?_eq_some_iff.mp hy).1
      rw [List.length_append] at hlt
      have hl : j < l.length + 1 := hlt
      have ej : j = l.length := by omega
      subst ej
      rw [List.getElem?_append_right (Nat.le_refl _), Nat.sub_self] at hy
      cases hy
      rw [e]
      exact hx
section
variable {X : Cx}
theorem plainT {pins : List (Addr × Obj)} {σ : L2.St} {H : Hp} {s : Shared} {a : Addr} {xs : List V} (I : Inv X pins σ H s) (h : TupP X.K H a xs) : ∃ its : List Value, Vals xs its ∧ PlainSeq "tuple" s.heap a its.toArray ∧ xs.length ≤ sizeLine := by
  rcases h with ⟨o, h, hd⟩ | ⟨o, its, n, hk, hc, hd, hs, hz, r⟩
  · obtain ⟨g, z, its, r, ob, g2, hc, n, hdat⟩ := (show ObjOk X.prog X.w H s.heap a (.frz o (.tup xs)) from I.hok a _ h)
    rw [g] at g2
    cases g2
    exact ⟨its, r, ⟨o, n, g, hc, hd, hdat⟩, z⟩
  · have e := r.length
    have e2 : its.toList.length = its.size := Array.length_toList
    exact ⟨its.toList, r, ⟨o, n, I.kIn a o hk, hc, hd, by simpa using hs⟩, by omega⟩
def rDictT (K : PySem.W.Frag) : List V → Hp → VK → Prop := fun vs H Q => ∃ (a : Addr) (ps : List Addr) (kvs : List (Key × V)), vs = [V.ref a] ∧ TupP K H a (ps.map V.ref) ∧ Paired (fun p kv => SqT K H p [kV kv.1, kv.2]) ps kvs ∧
  ∀ p, H p = none → Q (.ref p) (upd H p (.dK (mergeK [] kvs)))
theorem call_dictT (hc : X.calm = true) : CallR X (.type "dict") (rDictT X.K) := by
  intro pins s σ H vs us Q I r h
  obtain ⟨a, ps, kvs, rfl, hT, hp, q⟩ := h
  rw [Vals.ref1 r]
  obtain ⟨its, rv, pl, hz⟩ := plainT I hT
  have ei := refs_at rv
  subst ei
  rw [List.length_map] at hz
  obtain ⟨prs, rel, hl, hpr⟩ := L2.pairs_of I hp
  obtain ⟨uvs, lu, hu⟩ := pick (P := fun j (x : Value × Value) => ∃ (q : Key × Value) (b : Addr), prs[j]? = some q ∧ ps[j]? = some b ∧ x.2 = q.2 ∧ keyIs q.1 x.1 = true ∧ IsTup s.heap b #[x.1, x.2]) prs.length fun j hj => by
    obtain ⟨b, u, e1, e2, e3⟩ := hpr j _ (List.getElem?_eq_getElem hj)
    exact ⟨(u, (prs[j]).2), _, b, List.getElem?_eq_getElem hj, e1, rfl, e3, e2⟩
  have items : PairItems s.heap (ps.map Value.ref).toArray (fun j => ps.getD j (0 : Nat)) uvs := by
    refine ⟨by simp [lu, hl], fun j k v e => ?_⟩
    obtain ⟨q', b, e1, e2, e3, e4, e5⟩ := hu j (k, v) e
    have eb : ps.getD j (0 : Nat) = b := by rw [List.getD_eq_getElem?_getD, e2]; rfl
    refine ⟨by simp [e2], .inl ?_⟩
    show s.heap.IsTuple (ps.getD j (0 : Nat)) _
    rw [eb]
    exact e5
  refine PySem.call_dict_pairs (knd := mixKind X.prog X.w) (kvs := prs) (PairArg.tuple a (ps.map Value.ref).toArray (fun j => ps.getD j (0 : Nat)) uvs) (I.ok.hd hc) ⟨pl, items⟩ ?_ (by rw [lu, hl]; exact hz) fun h2 tk hd2 k => ?_
  · exact ⟨lu.symm, fun i key v e => by
      obtain ⟨q', b, e1, e2, e3, e4, e5⟩ := hu i (key, v) e
      have e6 : v = q'.2 := e3
      subst e6
      exact ⟨q'.1, e1, e4⟩⟩
  · have big : (s.heap.objs.size == sysModules) = false := beq_eq_false_iff_ne.mpr (Nat.ne_of_gt I.big)
    have len : (mergeK [] kvs).length ≤ sizeLine := by
      have z := length_mergeK kvs []
      have z2 := rel.length
      rw [List.length_nil] at z
      omega
    exact ⟨.ref s.heap.objs.size, upd H s.heap.objs.size (.dK (mergeK [] kvs)), I.laid (t' := tk) (fun b u e => k b u (by simp) e) (Nat.le_refl _) ⟨len, big, merged [] prs, KV.merge rel .nil, hd2⟩, rfl, q _ (I.hok.fresh (Nat.le_refl _))⟩
end
end FL
/-! FL24: dict(tuple of pairs), dict(dict) on data. -/
namespace FL
open PySem PySem.Spec PyProof.Rows L2
def prsT : List D → Option (List (Key × D))
  | [] => some []
  | .tup [k, v] :: r => (keyD k).bind fun k' => (prsT r).map fun ps => (k', v) :: ps
  | _ => none
def fDict : FF := fun ds S => match ds with
  | [.tup ps] => (prsT ps).map fun kvs => (.ref S.length, S ++ [.dic (mergeG [] kvs)])
  | [.ref n] => (getD S n).map fun kvs => (.ref S.length, S ++ [.dic kvs])
  | _ => none
section
variable {X : Cx} {c : FC}
theorem prsT_rep {μ : List Addr} {H : Hp} : ∀ {ds : List D} {xs : List V} {kvs : List (Key × D)}, Reps c μ H ds xs → prsT ds = some kvs → ∃ (as : List Addr) (ys : List (Key × V)), xs = as.map V.ref ∧ RepKV c μ H kvs ys ∧ Paired (fun p kv => SqT c.K H p [kV kv.1, kv.2]) as ys := by
  intro ds
  induction ds with
  | nil =>
    intro xs kvs r h
    cases h
    have e : xs = [] := r
    subst e
    exact ⟨[], [], rfl, RepKV.nil, .nil⟩
  | cons d ds ih =>
    intro xs kvs r h
    obtain ⟨v, vs, rfl, r1, r2⟩ := r
    unfold prsT at h
    split at h
    · rename_i e
      cases e
    · rename_i k w r' e
      injection e with e1 e2
      subst e1
      subst e2
      obtain ⟨k', hk, h⟩ := Option.bind_eq_some_iff.mp h
      obtain ⟨ps, hp, e⟩ := Option.map_eq_some_iff.mp h
      subst e
      obtain ⟨as, ys, e3, q, pp⟩ := ih r2 hp
      subst e3
      obtain ⟨a, zs, rfl, t, v1, l1, rfl, rk, v2, l2, rfl, rv, e4⟩ := r1
      have e5 : l2 = [] := e4
      subst e5
      have ek := keyD_rep rk hk
      subst ek
      exact ⟨a :: as, (k', v2) :: ys, rfl, RepKV.cons rv q, .cons t.sq pp⟩
    · cases h
theorem dic_newG {μ : List Addr} {S : Sto} {H : Hp} {kvs : List (Key × D)} {ys : List (Key × V)} {p : Addr} (hs : StoOk c μ S H) (r : RepKV c μ H kvs ys) (hp : H p = none) :
    Ext c μ H (μ ++ [p]) (upd H p (.dK ys)) ∧ StoOk c (μ ++ [p]) (S ++ [.dic kvs]) (upd H p (.dK ys)) ∧ Rep c (μ ++ [p]) (upd H p (.dK ys)) (.ref S.length) (.ref p) := by
  have e : Ext c μ H (μ ++ [p]) (upd H p (.dK ys)) := Ext.new hp
  refine ⟨e, hs.alloc hp ⟨ys, upd_same, r.1, Reps.mono e _ _ r.2⟩, p, ?_, rfl⟩
  rw [← hs.len]
  simp
theorem cDict (hK : c.K = X.K) (hc : X.calm = true) : CallR X (.type "dict") (rA c fDict) := by
  refine CallR.w ((call_dictT hc).or call_dictD) fun xs H Q h => ?_
  obtain ⟨μ, S, ds, d, S', hs, rs, hf, ha⟩ := h
  unfold fDict at hf
  split at hf
  · obtain ⟨kvs, g, e⟩ := Option.map_eq_some_iff.mp hf
    cases e
    obtain ⟨v, rfl, a, ys, rfl, q, rr⟩ := rs.one_inv
    obtain ⟨as, zs, rfl, q2, pp⟩ := prsT_rep rr g
    refine .inl ⟨a, as, zs, rfl, by rw [← hK]; exact q, by rw [← hK]; exact pp, fun p hp => ?_⟩
    obtain ⟨x1, x2, x3⟩ := dic_newG hs (RepKV.merge q2 RepKV.nil) hp
    exact ha _ _ _ x1 x2 x3
  · obtain ⟨v, rfl, a, ha1, rfl⟩ := rs.one_inv
    obtain ⟨kvs, g, e⟩ := Option.map_eq_some_iff.mp hf
    cases e
    obtain ⟨a', ys, g1, q1, rr⟩ := getD_rd hs g
    rw [ha1] at g1
    cases g1
    refine .inr ⟨a, ys, rfl, q1, fun p hp => ?_⟩
    obtain ⟨x1, x2, x3⟩ := dic_newG hs rr hp
    exact ha _ _ _ x1 x2 x3
  · cases hf
end
end FL
/-! FL25: enumerate over a tuple. -/
namespace FL
open PySem PySem.Spec PyProof.Rows L2
open AutoSeq1 (wpAny_loadPart')
abbrev itOf (t : Addr) : Obj := { cls := .type "tuple_iterator", data := .fields #[.ref t, .int 0 0] }
abbrev enOf (i : Addr) : Obj := { cls := .type "enumerate", data := .fields #[.none, .bool false, .ref i, rawInt 0, .none, .none] }
theorem enum_newT (t : Addr) (us : Array Value) (k : Nat) (dd : Option Addr) (sls : Array (Option Value)) :
    Meets (Builtin.«enumerate.__new__» ⟨[.type "enumerate", .ref t], []⟩) (fun _ R s => s.heap.get? t = some { cls := .type "tuple", dict := dd, data := .seq us k, slots := sls } ∧
      R (.ok (.ret (.ref (s.heap.push (itOf t)).objs.size))) { s with heap := (s.heap.push (itOf t)).push (enOf s.heap.objs.size) }) :=
  .of_wp fun prog w A R s h => by
    obtain ⟨hp, gg, dr, tk, os⟩ := s
    obtain ⟨ht, h⟩ := h
    have subE := sub_enumerate
    have hI : Heap.IsTuple (Shared.heap ⟨hp, gg, dr, tk, os⟩) t us := ⟨_, ht, rfl, k, rfl⟩
    wp_walk using wpAny_loadPart' ht
    refine wpAny_stack_any fun st => wpAny_pure ?_
    split
    · rename_i c _ _ _ _ _
      cases (c == Value.type "enumerate")
      · wp_walk using wpAny_loadPart' ht, wpAny_pyIter_tuple hI
        exact ⟨_, rfl, h⟩
      · wp_walk using wpAny_loadPart' ht, wpAny_pyIter_tuple hI
        exact ⟨_, rfl, h⟩
    · wp_walk using wpAny_loadPart' ht, wpAny_pyIter_tuple hI
      exact ⟨_, rfl, h⟩
theorem call_enumT {prog : Program} {w : World} {A : Around} {E : Value → Shared → Prop} {s : Shared} {t : Addr} {us : Array Value} {Q : Value → Shared → Prop} (hT : s.heap.IsTuple t us)
    (h : ∀ g, IsEnum g (s.heap.objs.size + 1) s.heap.objs.size 0 .none → g.IsTupleIter s.heap.objs.size t 0 → (∀ b o, s.heap.get? b = some o → g.get? b = some o) → Q (.ref (s.heap.objs.size + 1)) { s with heap := g }) :
    wpAny (model prog w) A (call (.type "enumerate") [.ref t]) Q E s := by
  obtain ⟨⟨cc, dd, dat, sls⟩, ht, e1, k, e2⟩ := hT
  cases (show cc = .type "tuple" from e1)
  cases (show dat = .seq us k from e2)
  have sz : (s.heap.push (itOf t)).objs.size = s.heap.objs.size + 1 := Heap.size_push ..
  refine callType_new F.called_enumerate (by decide) (F.typeCall_enumerate_1 _) (F.newCall_enumerate_1 _) (fun ob => F.args_object_init_2 ob _) F.entry_enumerate_new (enum_newT t us k dd sls) ⟨ht, ?_⟩
  show _ ∧ _
  rw [sz]
  have q : IsEnum ((s.heap.push (itOf t)).push (enOf s.heap.objs.size)) (s.heap.objs.size + 1) s.heap.objs.size 0 .none := by
    have z := Heap.get?_push_size (s.heap.push (itOf t)) (o := enOf s.heap.objs.size) rfl
    rw [sz] at z
    exact z
  exact ⟨⟨_, q, rfl⟩, h _ q ⟨_, Heap.get?_push_of_some _ (Heap.get?_push_size _ rfl), rfl, rfl⟩ fun b o x => Heap.get?_push_of_some _ (Heap.get?_push_of_some _ x)⟩
/-- the tuple at a, each item in a new pair -/
def IteT (K : PySem.W.Frag) (a : Addr) : It :=
  ⟨fun i H => ∃ (xs : List V) (x : V), SqT K H a xs ∧ xs[i]? = some x, fun i H v H' => ∃ T x, v = .ref T ∧ H T = none ∧ H' = upd H T (.tup [.int (i : Nat), x]) ∧ ∀ xs, SqT K H a xs → xs[i]? = some x, fun i H => ∃ xs : List V, SqT K H a xs ∧ xs.length ≤ i⟩
theorem turn_enumT {P : Program} {w : World} {K : PySem.W.Frag} {elts : List Expr} {kk : Nat} {tpos : Pos} (a e it : Addr) :
    Turn P w K (.Tuple elts kk tpos) (IteT K a) [e, it] e (fun i h => (∃ old, IsEnum h e it ((i : Nat) : Int) old) ∧ h.IsTupleIter it a i ∧ e ≠ it ∧ a ≠ it ∧ a ≠ e) where
  mem := by simp
  obj := by
    intro i h st b hb
    obtain ⟨⟨old, he⟩, ⟨o, ho, hc, hd⟩, _⟩ := st
    have hb' : b = e ∨ b = it := by simpa using hb
    rcases hb' with rfl | rfl
    · exact ⟨_, he, fun v q => nomatch q⟩
    · exact ⟨o, ho, fun v q => by rw [hd] at q; cases q⟩
  keep := by
    intro i h h' st k
    obtain ⟨⟨old, he⟩, hi, r⟩ := st
    exact ⟨⟨old, k e (by simp) _ he⟩, hi.at fun o q => k it (by simp) o q, r⟩
  item := by
    intro X hP hw hK hc i pins s σ H E I hf st hg
    subst hP hw hK
    obtain ⟨⟨old, he⟩, hit, hne, hat, hae⟩ := st
    obtain ⟨xs, x, hq, hx⟩ := hg
    obtain ⟨its, rv, p, hz⟩ := I.tuple hq
    obtain ⟨u, hu, ru⟩ := rv.get hx
    have lt1 : e < s.heap.objs.size := Heap.lt_size he
    have lt2 : it < s.heap.objs.size := by obtain ⟨_, q, _⟩ := hit; exact Heap.lt_size q
    have hlt : i < its.toArray.size := by
      have z := (List.getElem?_eq_some_iff.mp hu).1
      simpa using z
    refine wpAny_pyNext_enum_itemD (Draws.tuple (A := X.A.in1) (show X.A.in1.handled = none from I.ok.hd hc) it a hat its.toArray) he ⟨hit, p⟩ hlt hne (by simp [hne, Ne.symm hae]) fun y h1 tk hy ho st1 hT hsz hk => ?_
    have ey : y = u := by
      have z : its[i]? = some y := by simpa using hy
      exact Option.some.inj (z.symm.trans hu)
    subst ey
    refine ⟨_, rfl, wpAny_letOwnedTupleGo_enum (s := { s with heap := h1, toks := tk + 1 }) ho fun h2 he2 sb => ?_⟩
    have gT : h2.get? s.heap.objs.size = some { cls := .type "tuple", data := .seq #[.int i tk, y] } := (sb.2 _ (Nat.ne_of_gt lt1)).trans hT
    have new : ObjOk X.prog X.w (upd H s.heap.objs.size (.tup [.int (i : Nat), x])) h2 s.heap.objs.size (.tup [.int (i : Nat), x]) :=
      ⟨by show 2 ≤ sizeLine; decide, [.int i tk, y], .cons ⟨_, rfl⟩ (.cons ru .nil), ⟨_, gT, rfl, _, rfl⟩⟩
    have I1 : Inv X pins σ (upd H s.heap.objs.size (.tup [.int (i : Nat), x])) { s with heap := h2, toks := tk + 1 } :=
      I.turnedNew (ch := [e, it]) (fun b ob hb q => (sb.2 b (fun z => hb (by simp [z]))).trans (hk b ob (fun z => hb (by simp [z])) (fun z => hb (by simp [z])) q)) hf (Nat.le_refl _) new
    refine ⟨.ref s.heap.objs.size, _, I1, rfl, ⟨_, x, rfl, I.hok.fresh (Nat.le_refl _), rfl, fun ys hy => by rw [I.tuple_inj hy hq]; exact hx⟩, ⟨⟨y, ?_⟩, st1.1.at fun o q => (sb.2 it (Ne.symm hne)).trans q, hne, hat, hae⟩, fun b hb => ?_⟩
    · have z : ((i + 1 : Nat) : Int) = (i : Int) + 1 := by omega
      rw [z]
      exact he2
    · have hb' : b < s.heap.objs.size := by
        have q : b = e ∨ b = it := by simpa using hb
        rcases q with rfl | rfl
        · exact lt1
        · exact lt2
      rw [upd_ne (Nat.ne_of_lt hb')]
      exact (hf b hb).1
  done := by
    intro X hP hw hK hc i pins s σ H E I hf st hg
    subst hP hw hK
    obtain ⟨⟨old, he⟩, hit, hne, hat, hae⟩ := st
    obtain ⟨xs, hq, hx⟩ := hg
    obtain ⟨its, rv, p, hz⟩ := I.tuple hq
    obtain ⟨f0, f1, f2, f3, f4, f5⟩ := hf it (by simp)
    have hl := rv.length
    have hT : s.TypeIs (.ref e) "enumerate" := ⟨_, he, rfl⟩
    unfold pyNext
    refine wpAny_bind (wpAny_attempt (wpAny_callSpecial?_slot (name := Str.ofString "__next__") hT F.slot_enumerate_next (wpAny_call_entry F.slot_enumerate_next hT F.entry_enumerate_next ?_ (F.args_enumerate_next_1 _))))
    show wpAny _ _ (field (.ref e) 2 >>= _) _ _ _
    refine wpAny_bind (wpAny_field he rfl (x := .ref it) rfl ?_)
    refine wpAny_bind (wpAny_nextOf_tuple_end (I.ok.hd hc) hit p (by simp; omega) fun g y ek hy => ?_)
    obtain ⟨o, ho, hcl⟩ := hy
    refine wpAny_bind (wpAny_isInstance (T := "StopIteration") (b := true) ⟨o, ho, hcl⟩ isSubtype_stop ?_)
    exact wpAny_pure ⟨rfl, I.turned (t' := s.toks) (fun b o hb q => ek b o hb q) f0 f1 f3 f4 f5⟩
  self := fun A i s Q E st h => let ⟨⟨_, he⟩, _⟩ := st; wpAny_pyIter_enum he h
def iEnumTA (K : PySem.W.Frag) (ta : TA) : TI := fun σ H R => ta σ H fun vs H1 => ∃ a xs, vs = [.ref a] ∧ SqT K H1 a xs ∧ R (IteT K a) H1
theorem pi_enumT {X : Cx} {e : Expr} {ta : TA} {p pos tpos : Pos} {elts : List Expr} {kk : Nat} (hg : Gl X "enumerate") (hm : X.mg "enumerate" = none) (ha : PA X [e] ta) (hs : starEach [e] X.env = [(false, eval e X.env)] := by rfl) :
    PI X (.Tuple elts kk tpos) (.Call (.Name "enumerate" p) [e] [] pos) (iEnumTA X.K ta) := by
  refine ⟨fun pins s σ H R I h => ?_⟩
  refine Call_ (ld_blt I hg hm boot_enumerate (PyProof.Rows.callWith_type1 (thn (ha.run pos pins s σ H _ I h) fun us s1 ⟨vs, H1, I1, r1, q1⟩ => ?_) hs rfl))
  obtain ⟨a, xs, rfl, hq, q⟩ := q1
  obtain ⟨u, rfl, rx⟩ := vals1 r1
  cases rx
  obtain ⟨its, rv, p', hz⟩ := I1.tuple hq
  have lta : a < s1.heap.objs.size := by obtain ⟨_, z, _⟩ := p'; exact Heap.lt_size z
  refine call_enumT p' fun g he hit hk => wpAny_pyIter_enum he ?_
  have I2 : Inv X pins σ H1 { s1 with heap := g } := I1.kept (t' := s1.toks) hk
  refine ⟨s1.heap.objs.size + 1, [s1.heap.objs.size + 1, s1.heap.objs.size], _, _, H1, rfl, I2, turn_enumT a (s1.heap.objs.size + 1) s1.heap.objs.size, ⟨⟨.none, he⟩, hit, Nat.succ_ne_self _, Nat.ne_of_lt lta, Nat.ne_of_lt (Nat.lt_succ_of_lt lta)⟩, fun b hb => ?_, q⟩
  have le : s1.heap.objs.size ≤ b := by
    have hb' : b = s1.heap.objs.size + 1 ∨ b = s1.heap.objs.size := by simpa using hb
    rcases hb' with rfl | rfl
    · exact Nat.le_succ _
    · exact Nat.le_refl _
  exact I1.fpOk le (I1.hok.fresh le)
/-! on data -/
def enumD (i : Nat) (d : D) : D := .pr [.int (i : Nat), d]
def iEnumT (fr : FA) : FI := fun env S => th (fr env S) fun ds S1 => match ds with
  | [.tup us] => some (.fix (us.mapIdx enumD), S1)
  | _ => none
theorem q_ienumT {X : Cx} {c : FC} {e : Expr} {fr : FA} (hK : c.K = X.K) {elts : List Expr} {kk : Nat} {tpos p pos : Pos} (hg : Gl X "enumerate") (hm : X.mg "enumerate" = none) (ha : PA X [e] (tA c fr)) (hs : starEach [e] X.env = [(false, eval e X.env)] := by rfl) :
    PI X (.Tuple elts kk tpos) (.Call (.Name "enumerate" p) [e] [] pos) (tI c (iEnumT fr)) := by
  refine PI.w (pi_enumT hg hm ha hs) fun σ H R h => ?_
  obtain ⟨μ, env, S, it, S', he, hs, hf, ha⟩ := h
  obtain ⟨ds, S1, h1, hf⟩ := th_inv hf
  refine ⟨μ, env, S, ds, S1, he, hs, h1, fun μ1 H1 vs e1 k1 r1 => ?_⟩
  split at hf
  · rename_i us
    cases hf
    obtain ⟨v, rfl, a, xs, rfl, q, r⟩ := r1.one_inv
    refine ⟨a, xs, rfl, by rw [← hK]; exact q.sq, ha _ _ _ e1 k1 ?_⟩
    intro μ2 H2 S2 e2 k2 i
    have q2 : SqT c.K H2 a xs := e2.tup a xs q.sq
    have r2 := Reps.mono e2 _ _ r
    refine ⟨fun g => ?_, fun d g => ?_⟩
    · refine ⟨xs, by rw [← hK]; exact q2, ?_⟩
      have g' : (us.mapIdx enumD)[i]? = none := Option.some.inj g
      rw [r2.len]
      simpa using g'
    · have g' : (us.mapIdx enumD)[i]? = some d := Option.some.inj g
      rw [List.getElem?_mapIdx] at g'
      obtain ⟨d', g7, g8⟩ := Option.map_eq_some_iff.mp g'
      obtain ⟨v, g9, rv⟩ := r2.get g7
      refine ⟨⟨xs, v, by rw [← hK]; exact q2, g9⟩, fun x H' y => ?_⟩
      obtain ⟨T, x', rfl, hT, rfl, fv⟩ := y
      have ex : x' = v := Option.some.inj ((fv xs (by rw [← hK]; exact q2)).symm.trans g9)
      subst ex
      subst g8
      obtain ⟨x1, x2, x3⟩ := pr_new (ds := [.int i, d']) (vs := [.int i, x']) k2 ⟨_, _, rfl, rfl, _, _, rfl, rv, rfl⟩ hT
      exact ⟨μ2, x1, x2, x3⟩
  · cases hf
end FL
/-! FL26: tuple * int. -/
namespace FL
open PySem PySem.Spec PyProof.Rows L2
open AutoSeq1 (wpAny_loadPart')
theorem tuple_mul_one (l : Addr) (us : Array Value) (n : Nat) (dd : Option Addr) (sls : Array (Option Value)) (t : Tok) :
    Meets (Builtin.«tuple.__mul__» ⟨[.ref l, .int 1 t], []⟩) (fun _ R s => s.heap.get? l = some { cls := .type "tuple", dict := dd, data := .seq us n, slots := sls } ∧ R (.ok (.ret (Value.ref l))) s) :=
  .of_wp fun prog w A R s h => by
    obtain ⟨hp, gg, dr, tk, os⟩ := s
    obtain ⟨hl, h⟩ := h
    have f1 := AutoSeq1.idx_int
    wp_walk using wpAny_loadPart' hl
    exact ⟨_, rfl, h⟩
def rRepF (K : PySem.W.Frag) : R2 := fun x y H Q => ∃ a k xs, x = .ref a ∧ y = .int k ∧ SqT K H a xs ∧ xs ≠ [] ∧ 1 ≤ k ∧ k ≤ 1000 ∧ xs.length ≤ 1000 ∧ (k = 1 → Q (.ref a) H) ∧ (k ≠ 1 → NewT H (List.replicate k.toNat xs).flatten Q)
section
variable {X : Cx}
theorem op_repF : OpR X (binaryOp .Mult) (rRepF X.K) := by
  intro pins s σ H x y v u Q I rx ry h
  obtain ⟨a, k, xs, rfl, rfl, hT, hne, h1, h2, hz, q1, q2⟩ := h
  cases rx
  obtain ⟨t, rfl⟩ := ry
  obtain ⟨us, r, ⟨⟨cc, dd, dat, sls⟩, ho, e1, n, e2⟩, hs⟩ := I.tuple hT
  cases (show cc = .type "tuple" from e1)
  cases (show dat = .seq us.toArray n from e2)
  have len : us.length = xs.length := r.length.symm
  have pos : 0 < xs.length := List.length_pos_iff.mpr hne
  have emp : us.toArray.isEmpty = false := by
    cases us with
    | nil => exact absurd len.symm (Nat.ne_of_gt pos)
    | cons _ _ => rfl
  have sz : us.toArray.size = xs.length := by rw [List.size_toArray, len]
  refine wpAny_binaryOp_repeat_ref (T := "tuple") (U := "int") (by decide) ⟨_, ho, rfl⟩ (fun s' => typeIs_int s' k t) noFill_tuple_mul F.fills_int_mul F.slot_int_rmul repeat_tuple F.slot_int_index.lookup
    (call_meets F.slot_int_rmul (typeIs_int s k t) F.entry_int_rmul (F.args_int_rmul_2 _ _) (int_rmul_tuple k t a us.toArray n dd sls) ⟨ho, rfl, ⟨_, ho, rfl⟩, ?_⟩)
  by_cases hk : k = 1
  · subst hk
    exact call_meets F.slot_tuple_mul ⟨_, ho, rfl⟩ F.entry_tuple_mul (F.args_tuple_mul_2 _ _) (tuple_mul_one a us.toArray n dd sls t) ⟨ho, .ref a, H, I, rfl, q1 rfl⟩
  · have fl : (List.replicate k.toNat us).flatten.length ≤ sizeLine := by
      rw [PyProof.Rows.lm_len_rep_flat, len, sizeLine_eq]
      have z : k.toNat * xs.length ≤ 1000 * 1000 := Nat.mul_le_mul (by omega) hz
      omega
    have fl2 : (List.replicate k.toNat xs).flatten.length ≤ sizeLine := by
      rw [PyProof.Rows.lm_len_rep_flat, sizeLine_eq]
      have z : k.toNat * xs.length ≤ 1000 * 1000 := Nat.mul_le_mul (by omega) hz
      omega
    have big : ((us.toArray.size : Nat) : Int) * k ≤ 1000000 := by
      rw [sz]
      have z : ((xs.length : Nat) : Int) * k ≤ 1000 * k := Int.mul_le_mul_of_nonneg_right (by omega) (by omega)
      omega
    refine call_meets F.slot_tuple_mul ⟨_, ho, rfl⟩ F.entry_tuple_mul (F.args_tuple_mul_2 _ _) (tuple_mulW a us.toArray n dd sls k t ?_ ?_ ?_ (by omega) ?_ (by rw [size_rep, List.size_toArray]; exact fl)) ⟨ho, ?_⟩
    · rw [decide_eq_false (by omega), decide_eq_false (by omega)] <;> rfl
    · rw [emp, Bool.false_or]
      exact beq_eq_false_iff_ne.mpr hk
    · rw [emp, Bool.or_false]
      exact decide_eq_false (by omega)
    · unfold Builtin.Tuple.tupleTooMany
      rw [sizeLine_eq]
      exact decide_eq_false (by omega)
    · rw [size_rep]
      exact (q2 hk).go I fl2 (r.rep k.toNat)
end
def oMul2 : F2 := fun x y S => match x, y with
  | .tup us, .int k => if us ≠ [] ∧ 1 ≤ k ∧ k ≤ 1000 ∧ us.length ≤ 1000 then some (.tup (List.replicate k.toNat us).flatten, S) else none
  | _, _ => oMul x y S
section
variable {X : Cx} {c : FC}
theorem dMul2 (hK : c.K = X.K) : OpR X (binaryOp .Mult) (r2 c oMul2) := by
  refine OpR.w (op_repF.or (dMul (c := c))) fun x y H Q h => ?_
  obtain ⟨μ, S, dx, dy, d, S', hs, rx, ry, hf, ha⟩ := h
  unfold oMul2 at hf
  split at hf
  · rename_i us k
    split at hf
    · rename_i hz
      cases hf
      obtain ⟨z1, z2, z3, z4⟩ := hz
      obtain ⟨a, xs, rfl, q, r⟩ := rx
      obtain rfl := (show y = .int _ from ry)
      have hl := r.len
      refine .inl ⟨a, k, xs, rfl, rfl, by rw [← hK]; exact q.sq, fun e => z1 ?_, z2, z3, by omega, fun e => ?_, fun e p o hp hd => ?_⟩
      · rw [e] at hl
        exact List.eq_nil_of_length_eq_zero hl.symm
      · subst e
        have e2 : (List.replicate (1 : Int).toNat us).flatten = us := by simp
        exact ha.now hs (by rw [e2]; exact ⟨a, xs, rfl, q, r⟩)
      · obtain ⟨x1, x2, x3⟩ := tup_new hs (r.rep k.toNat) hp hd
        exact ha _ _ _ x1 x2 x3
    · cases hf
  · exact .inr ⟨μ, S, dx, dy, d, S', hs, rx, ry, hf, ha⟩
end
end FL
/-! K51: the defs of the law as functions, and their derivations (printed by gen.py) -/
namespace K51
open PySem PySem.Spec PyProof.Rows L2 FL
def topS (i : Nat) : Stmt := PySem.Challenge.pw_nocyclemore_k51_whole_caches_with_more_w.main.body.getD i (.Pass ⟨0, 0, 0, 0⟩)
abbrev s_of_cache : Stmt := topS 3
abbrev s_Cache_lines : Stmt := inClass (topS 12) 3
abbrev s__law_cut : Stmt := topS 16
abbrev s_aged : Stmt := topS 10
abbrev s_ways_sure : Stmt := topS 4
abbrev s_used : Stmt := topS 9
abbrev s_filled : Stmt := topS 8
abbrev s_missed : Stmt := topS 7
abbrev s_Cache_fill : Stmt := inClass (topS 12) 2
abbrev s_touched : Stmt := topS 6
abbrev s_verdicts : Stmt := topS 5
abbrev s_Cache_has : Stmt := inClass (topS 12) 1
abbrev s__law_need : Stmt := topS 17
abbrev s__law_take : Stmt := topS 15
abbrev s_nothing : Stmt := topS 2
abbrev s_anything : Stmt := topS 1
abbrev s_Cache___init__ : Stmt := inClass (topS 12) 0
abbrev s__law_tape : Stmt := topS 14
abbrev s_law : Stmt := topS 18
def b_of_cache : FS := sSeq (sAsg (eDic0) (gNm 2)) (sSeq (sAsg (eDic0) (gNm 3)) (sSeq (sFor (iSeq (eVar 1)) (gNm 4) (sFor (iEnumT (aCons (eVar 4) (aNil))) (gTp 2 (gCns (gNm 5) (gCns (gNm 6) (gNils)))) (sSeq (sAsg (eVar 5) (gIx (eVar 3) (eVar 6))) (sAsg (eIf (tB (eBin oEq (eBin oIx (eVar 0) (eC (.int 2))) (eC (.str "lru")))) (eVar 5) (eC (.int 0))) (gIx (eVar 2) (eVar 6)))))) (sRet (eTup (aCons (eCall fTuple (aCons (eSortItems (eVar 2)) (aNil))) (aCons (eCall fTuple (aCons (eSortItems (eVar 3)) (aNil))) (aNil)))))))
def f_of_cache : FF := fnF 7 2 b_of_cache
def b_Cache_lines : FS := sRet (eCall fTuple (aCons (eFld ["Cache"] (eVar 0) "rows") (aNil)))
def f_Cache_lines : FF := fnF 1 1 b_Cache_lines
def b__law_cut : FS := sRet (eTup (aCons (eCall fTuple (aCons (eLc (iSeq (eBin oIx (eVar 0) (eC (.int 0)))) (gNm 2) (tB (eBin oLt (eBin oIx (eVar 2) (eC (.int 1))) (eVar 1))) (eVar 2) [2]) (aNil))) (aCons (eIf (tB (eIsN (eBin oIx (eVar 0) (eC (.int 1))))) (eC .non) (eCall fTuple (aCons (eLc (iSeq (eBin oIx (eVar 0) (eC (.int 1)))) (gNm 2) (tB (eBin oLt (eBin oIx (eVar 2) (eC (.int 1))) (eVar 1))) (eVar 2) [2]) (aNil)))) (aNil))))
def f__law_cut : FF := fnF 3 2 b__law_cut
def b_aged : FS := sSeq (sAsg (eGet2 (eCall fDict (aCons (eVar 1) (aNil))) (eVar 2) (eBin oIx (eVar 0) (eC (.int 1)))) (gNm 3)) (sSeq (sAsg (eDic (aPairs [(eVar 2, eC (.int 0))])) (gNm 4)) (sSeq (sFor (iSeq (eVar 1)) (gTp 2 (gCns (gNm 5) (gCns (gNm 6) (gNils)))) (sIf (tB (eBin oNe (eVar 5) (eVar 2))) (sSeq (sAsg (eAnd (eBin oEq (eBin oIx (eVar 0) (eC (.int 2))) (eC (.str "lru"))) (eAnd (eBin oEq (eBin oMod (eVar 5) (eBin oIx (eVar 0) (eC (.int 0)))) (eBin oMod (eVar 2) (eBin oIx (eVar 0) (eC (.int 0))))) (eBin oLe (eVar 6) (eVar 3)))) (gNm 7)) (sSeq (sAsg (eIf (tTru (eVar 7)) (eBin oAdd (eVar 6) (eC (.int 1))) (eVar 6)) (gNm 8)) (sIf (tB (eBin oLt (eVar 8) (eBin oIx (eVar 0) (eC (.int 1))))) (sAsg (eVar 8) (gIx (eVar 4) (eVar 5))) (sNil)))) (sNil))) (sRet (eCall fTuple (aCons (eSortItems (eVar 4)) (aNil))))))
def f_aged : FF := fnF 9 3 b_aged
def b_ways_sure : FS := sRet (eIf (tB (eBin oEq (eBin oIx (eVar 0) (eC (.int 2))) (eC (.str "lru")))) (eBin oIx (eVar 0) (eC (.int 1))) (eC (.int 1)))
def f_ways_sure : FF := fnF 1 1 b_ways_sure
def b_used : FS := sSeq (sAsg (eVar 1) (gTp 2 (gCns (gNm 3) (gCns (gNm 4) (gNils))))) (sSeq (sAsg (eCall f_ways_sure (aCons (eVar 0) (aNil))) (gNm 5)) (sSeq (sAsg (eGet2 (eCall fDict (aCons (eVar 3) (aNil))) (eVar 2) (eVar 5)) (gNm 6)) (sSeq (sAsg (eDic (aPairs [(eVar 2, eC (.int 0))])) (gNm 7)) (sSeq (sFor (iSeq (eVar 3)) (gTp 2 (gCns (gNm 8) (gCns (gNm 9) (gNils)))) (sIf (tB (eBin oNe (eVar 8) (eVar 2))) (sSeq (sAsg (eIf (tAnd (tB (eBin oEq (eBin oMod (eVar 8) (eBin oIx (eVar 0) (eC (.int 0)))) (eBin oMod (eVar 2) (eBin oIx (eVar 0) (eC (.int 0)))))) (tB (eBin oLt (eVar 9) (eVar 6)))) (eBin oAdd (eVar 9) (eC (.int 1))) (eVar 9)) (gNm 10)) (sIf (tB (eBin oLt (eVar 10) (eVar 5))) (sAsg (eVar 10) (gIx (eVar 7) (eVar 8))) (sNil))) (sNil))) (sSeq (sIf (tB (eIsN (eVar 4))) (sRet (eTup (aCons (eCall fTuple (aCons (eSortItems (eVar 7)) (aNil))) (aCons (eC .non) (aNil))))) (sNil)) (sRet (eTup (aCons (eCall fTuple (aCons (eSortItems (eVar 7)) (aNil))) (aCons (eCall f_aged (aCons (eVar 0) (aCons (eVar 4) (aCons (eVar 2) (aNil))))) (aNil))))))))))
def f_used : FF := fnF 11 3 b_used
def b_filled : FS := sRet (eCall f_used (aCons (eVar 0) (aCons (eVar 1) (aCons (eVar 2) (aNil)))))
def f_filled : FF := fnF 3 3 b_filled
def b_missed : FS := sSeq (sAsg (eVar 0) (gTp 2 (gCns (gNm 2) (gCns (gNm 3) (gNils))))) (sRet (eTup (aCons (eVar 2) (aCons (eIf (tB (eIsN (eVar 3))) (eC .non) (eCall fTuple (aCons (eLc (iSeq (eVar 3)) (gNm 4) (tB (eBin oNe (eBin oIx (eVar 4) (eC (.int 0))) (eVar 1))) (eVar 4) [4]) (aNil)))) (aNil)))))
def f_missed : FF := fnF 5 2 b_missed
def b_Cache_fill : FS := sSeq (sAsg (eBin oMod (eVar 1) (eFld ["Cache"] (eVar 0) "sets")) (gNm 2)) (sSeq (sAsg (eCall fTuple (aCons (eLc (iSeq (eBin oIx (eFld ["Cache"] (eVar 0) "rows") (eVar 2))) (gNm 4) (tB (eBin oNe (eVar 4) (eVar 1))) (eVar 4) [4]) (aNil))) (gNm 3)) (sAsg (eSl (eBin oAdd (eTup (aCons (eVar 1) (aNil))) (eVar 3)) pNo (pPart (eFld ["Cache"] (eVar 0) "ways"))) (gIx (eFld ["Cache"] (eVar 0) "rows") (eVar 2))))
def f_Cache_fill : FF := fnF 5 2 b_Cache_fill
def b_touched : FS := sSeq (sIf (tB (eBin oEq (eBin oIx (eVar 0) (eC (.int 2))) (eC (.str "lru")))) (sRet (eCall f_used (aCons (eVar 0) (aCons (eVar 1) (aCons (eVar 2) (aNil)))))) (sNil)) (sSeq (sAsg (eVar 1) (gTp 2 (gCns (gNm 3) (gCns (gNm 4) (gNils))))) (sSeq (sIf (tTru (eCall fAny (aCons (eLc (iSeq (eVar 3)) (gTp 2 (gCns (gNm 5) (gCns (gNm 6) (gNils)))) (tYs) (eBin oEq (eVar 5) (eVar 2)) [5, 6]) (aNil)))) (sRet (eVar 1)) (sNil)) (sRet (eTup (aCons (eCall fTuple (aCons (eNever) (aNil))) (aCons (eVar 4) (aNil)))))))
def f_touched : FF := fnF 7 3 b_touched
def b_verdicts : FS := sSeq (sAsg (eVar 0) (gTp 2 (gCns (gNm 2) (gCns (gNm 3) (gNils))))) (sSeq (sIf (tTru (eCall fAny (aCons (eLc (iSeq (eVar 2)) (gTp 2 (gCns (gNm 4) (gCns (gNm 5) (gNils)))) (tYs) (eBin oEq (eVar 4) (eVar 1)) [4, 5]) (aNil)))) (sRet (eLst (aCons (eC (.bl true)) (aNil)))) (sNil)) (sSeq (sIf (tAnd (tB (eNotN (eVar 3))) (tNot (tTru (eCall fAny (aCons (eLc (iSeq (eVar 3)) (gTp 2 (gCns (gNm 4) (gCns (gNm 5) (gNils)))) (tYs) (eBin oEq (eVar 4) (eVar 1)) [4, 5]) (aNil)))))) (sRet (eLst (aCons (eC (.bl false)) (aNil)))) (sNil)) (sRet (eLst (aCons (eC (.bl true)) (aCons (eC (.bl false)) (aNil)))))))
def f_verdicts : FF := fnF 6 2 b_verdicts
def b_Cache_has : FS := sSeq (sAsg (eBin oMod (eVar 1) (eFld ["Cache"] (eVar 0) "sets")) (gNm 2)) (sSeq (sAsg (eBin oIx (eFld ["Cache"] (eVar 0) "rows") (eVar 2)) (gNm 3)) (sSeq (sIf (tB (eBin oNotIn (eVar 1) (eVar 3))) (sRet (eC (.bl false))) (sNil)) (sSeq (sIf (tB (eBin oEq (eFld ["Cache"] (eVar 0) "policy") (eC (.str "lru")))) (sAsg (eBin oAdd (eTup (aCons (eVar 1) (aNil))) (eCall fTuple (aCons (eLc (iSeq (eVar 3)) (gNm 4) (tB (eBin oNe (eVar 4) (eVar 1))) (eVar 4) [4]) (aNil)))) (gIx (eFld ["Cache"] (eVar 0) "rows") (eVar 2))) (sNil)) (sRet (eC (.bl true))))))
def f_Cache_has : FF := fnF 5 2 b_Cache_has
def b__law_need : FS := sSeq (sAsg (eMeth "Cache" "has" f_Cache_has (eVar 1) (aCons (eVar 3) (aNil))) (gNm 4)) (sSeq (sAsg (eCall f_verdicts (aCons (eVar 2) (aCons (eVar 3) (aNil)))) (gNm 5)) (sSeq (sIf (tTru (eVar 4)) (sRet (eTup (aCons (eVar 4) (aCons (eVar 5) (aCons (eCall f_touched (aCons (eVar 0) (aCons (eVar 2) (aCons (eVar 3) (aNil))))) (aNil)))))) (sNil)) (sSeq (sDrop (eMeth "Cache" "fill" f_Cache_fill (eVar 1) (aCons (eVar 3) (aNil)))) (sRet (eTup (aCons (eVar 4) (aCons (eVar 5) (aCons (eCall f_filled (aCons (eVar 0) (aCons (eCall f_missed (aCons (eVar 2) (aCons (eVar 3) (aNil)))) (aCons (eVar 3) (aNil))))) (aNil)))))))))
def f__law_need : FF := fnF 6 4 b__law_need
def b__law_take : FS := sSeq (sIf (tAnd (tB (eBin oEq (eBin oIx (eVar 0) (eC (.str "left"))) (eC (.int 0)))) (tB (eBin oLt (eBin oIx (eVar 0) (eC (.str "at"))) (eCall fLen (aCons (eBin oIx (eVar 0) (eC (.str "cells"))) (aNil)))))) (sSeq (sAsg (eBin oIx (eBin oIx (eVar 0) (eC (.str "cells"))) (eBin oIx (eVar 0) (eC (.str "at")))) (gIx (eVar 0) (eC (.str "left")))) (sAsg (eBin oAdd (eBin oIx (eVar 0) (eC (.str "at"))) (eC (.int 1))) (gIx (eVar 0) (eC (.str "at"))))) (sNil)) (sSeq (sIf (tB (eBin oGt (eBin oIx (eVar 0) (eC (.str "left"))) (eC (.int 0)))) (sSeq (sAsg (eBin oMod (eCall fInt (aCons (eBin oIx (eVar 0) (eC (.str "left"))) (aNil))) (eVar 1)) (gNm 2)) (sSeq (sAsg (eBin oDiv (eBin oIx (eVar 0) (eC (.str "left"))) (eVar 1)) (gIx (eVar 0) (eC (.str "left")))) (sRet (eVar 2)))) (sNil)) (sSeq (sAsg (eBin oAdd (eBin oIx (eVar 0) (eC (.str "salt"))) (eC (.int 1))) (gIx (eVar 0) (eC (.str "salt")))) (sSeq (sAsg (eBin oMod (eCall fInt (aCons (eBin oAdd (eBin oMul (eBin oIx (eVar 0) (eC (.str "seed"))) (eC (.int 48271))) (eBin oMul (eBin oIx (eVar 0) (eC (.str "salt"))) (eC (.int 69621)))) (aNil))) (eC (.int 2147483647))) (gNm 3)) (sSeq (sAsg (eBin oMod (eCall fInt (aCons (eBin oAdd (eBin oAdd (eBin oMul (eVar 3) (eVar 3)) (eBin oMul (eBin oIx (eVar 0) (eC (.str "salt"))) (eC (.int 40692)))) (eC (.int 12345))) (aNil))) (eC (.int 2147483399))) (gNm 3)) (sRet (eBin oMod (eCall fInt (aCons (eVar 3) (aNil))) (eVar 1)))))))
def f__law_take : FF := fnF 4 2 b__law_take
def b_nothing : FS := sRet (eTup (aCons (eTup (aNil)) (aCons (eTup (aNil)) (aNil))))
def f_nothing : FF := fnF 0 0 b_nothing
def b_anything : FS := sRet (eTup (aCons (eTup (aNil)) (aCons (eC .non) (aNil))))
def f_anything : FF := fnF 0 0 b_anything
def b_Cache___init__ : FS := sSeq (sAsg (eVar 1) (gTp 3 (gCns (gFd ["Cache"] (eVar 0) "sets") (gCns (gFd ["Cache"] (eVar 0) "ways") (gCns (gFd ["Cache"] (eVar 0) "policy") (gNils)))))) (sAsg (eLc (iSeq (eVar 2)) (gNm 3) (tYs) (eCall fTuple (aCons (eVar 3) (aNil))) [3]) (gFd ["Cache"] (eVar 0) "rows"))
def f_Cache___init__ : FF := fnF 4 3 b_Cache___init__
def b__law_tape : FS := sSeq (sAsg (eLc (iSeq (eVar 0)) (gNm 3) (tYs) (eCall fAbs (aCons (eCall fInt (aCons (eVar 3) (aNil))) (aNil))) [3]) (gNm 1)) (sSeq (sAsg (eC (.int 7)) (gNm 2)) (sSeq (sFor (iSeq (eVar 1)) (gNm 3) (sAsg (eBin oMod (eCall fInt (aCons (eBin oAdd (eBin oMul (eVar 2) (eC (.int 31))) (eVar 3)) (aNil))) (eC (.int 2147483647))) (gNm 2))) (sRet (eDic (aPairs [(eC (.str "cells"), eVar 1), (eC (.str "at"), eC (.int 0)), (eC (.str "left"), eC (.int 0)), (eC (.str "seed"), eVar 2), (eC (.str "salt"), eC (.int 0))])))))
def f__law_tape : FF := fnF 4 1 b__law_tape
def b_law : FS := sSeq (sAsg (eCall f__law_tape (aCons (eVar 0) (aNil))) (gNm 1)) (sSeq (sAsg (eBin oIx (eLst (aCons (eC (.int 1)) (aCons (eC (.int 2)) (aCons (eC (.int 4)) (aNil))))) (eCall f__law_take (aCons (eVar 1) (aCons (eC (.int 3)) (aNil))))) (gNm 2)) (sSeq (sAsg (eLst (aNil)) (gNm 3)) (sSeq (sFor (iRng1 (aCons (eVar 2) (aNil))) (gNm 4) (sSeq (sAsg (eLst (aNil)) (gNm 5)) (sSeq (sFor (iRng1 (aCons (eC (.int 4)) (aNil))) (gNm 6) (sSeq (sAsg (eBin oAdd (eVar 4) (eBin oMul (eVar 2) (eCall f__law_take (aCons (eVar 1) (aCons (eC (.int 6)) (aNil)))))) (gNm 7)) (sIf (tAnd (tB (eBin oNotIn (eVar 7) (eVar 5))) (tB (eBin oGt (eCall f__law_take (aCons (eVar 1) (aCons (eC (.int 3)) (aNil)))) (eC (.int 0))))) (sDrop (eBm "list" mAppend (eVar 5) (aCons (eVar 7) (aNil)))) (sNil)))) (sDrop (eBm "list" mAppend (eVar 3) (aCons (eCall fTuple (aCons (eVar 5) (aNil))) (aNil))))))) (sSeq (sAsg (eCall f__law_take (aCons (eVar 1) (aCons (eC (.int 3)) (aNil)))) (gNm 8)) (sSeq (sAsg (eLc (iSeq (eTup (aCons (eC (.int 1)) (aCons (eC (.int 2)) (aCons (eC (.int 3)) (aCons (eC (.int 4)) (aNil))))))) (gNm 19) (tYs) (eTup (aCons (eVar 2) (aCons (eVar 19) (aCons (eC (.str "lru")) (aNil))))) [19]) (gNm 9)) (sSeq (sAsg (eLc (iSeq (eVar 9)) (gNm 20) (tYs) (eIf (tB (eBin oNe (eVar 8) (eC (.int 1)))) (eCall fTuple (aCons (eLc (iSeq (eVar 3)) (gNm 5) (tYs) (eSl (eVar 5) pNo (pPart (eBin oIx (eVar 20) (eC (.int 1))))) [5]) (aNil))) (eBin oMul2 (eTup (aCons (eTup (aNil)) (aNil))) (eVar 2))) [20]) (gNm 10)) (sSeq (sAsg (eLc (iRng1 (aCons (eC (.int 4)) (aNil))) (gNm 6) (tYs) (eMake "Cache" f_Cache___init__ (aCons (eBin oIx (eVar 9) (eVar 6)) (aCons (eBin oIx (eVar 10) (eVar 6)) (aNil)))) [6]) (gNm 11)) (sSeq (sAsg (eLc (iRng1 (aCons (eC (.int 4)) (aNil))) (gNm 6) (tYs) (eIf (tB (eBin oEq (eVar 8) (eC (.int 0)))) (eCall f_of_cache (aCons (eBin oIx (eVar 9) (eVar 6)) (aCons (eBin oIx (eVar 10) (eVar 6)) (aNil)))) (eIf (tB (eBin oEq (eVar 8) (eC (.int 1)))) (eCall f_nothing aNil) (eCall f_anything aNil))) [6]) (gNm 12)) (sSeq (sAsg (eTup (aCons (eLc (iSeq (eVar 3)) (gNm 5) (tYs) (eIf (tB (eBin oEq (eVar 8) (eC (.int 1)))) (eLst (aNil)) (eCall fList (aCons (eVar 5) (aNil)))) [5]) (aCons (eLst (aCons (eC (.int 0)) (aCons (eC (.int 0)) (aCons (eC (.int 0)) (aCons (eC (.int 0)) (aNil)))))) (aNil)))) (gTp 2 (gCns (gNm 13) (gCns (gNm 14) (gNils))))) (sSeq (sFor (iRng1 (aCons (eC (.int 40)) (aNil))) (gNm 15) (sSeq (sAsg (eCall f__law_take (aCons (eVar 1) (aCons (eBin oMul (eC (.int 6)) (eVar 2)) (aNil)))) (gNm 7)) (sSeq (sAsg (eBin oMod (eCall fInt (aCons (eVar 7) (aNil))) (eVar 2)) (gNm 4)) (sSeq (sFor (iRng1 (aCons (eC (.int 4)) (aNil))) (gNm 6) (sSeq (sAsg (eCall f__law_need (aCons (eBin oIx (eVar 9) (eVar 6)) (aCons (eBin oIx (eVar 11) (eVar 6)) (aCons (eBin oIx (eVar 12) (eVar 6)) (aCons (eVar 7) (aNil)))))) (gTp 3 (gCns (gNm 16) (gCns (gNm 17) (gCns (gIx (eVar 12) (eVar 6)) (gNils)))))) (sSeq (sAsg (eBin oIn (eVar 7) (eSl (eBin oIx (eVar 13) (eVar 4)) pNo (pPart (eBin oAdd (eVar 6) (eC (.int 1)))))) (gNm 18)) (sSeq (sIf (tOr (tB (eBin oNe (eVar 16) (eVar 18))) (tB (eBin oNotIn (eVar 16) (eVar 17)))) (sRet (eC (.bl false))) (sNil)) (sAsg (eBin oAdd (eBin oIx (eVar 14) (eVar 6)) (eCall fInt (aCons (eNot (eVar 16)) (aNil)))) (gIx (eVar 14) (eVar 6))))))) (sSeq (sAsg (eBin oAdd (eLst (aCons (eVar 7) (aNil))) (eLc (iSeq (eBin oIx (eVar 13) (eVar 4))) (gNm 20) (tB (eBin oNe (eVar 20) (eVar 7))) (eVar 20) [20])) (gIx (eVar 13) (eVar 4))) (sFor (iRng1 (aCons (eC (.int 4)) (aNil))) (gNm 6) (sSeq (sIf (tOr (tB (eBin oNe (eMeth "Cache" "lines" f_Cache_lines (eBin oIx (eVar 11) (eVar 6)) aNil) (eCall fTuple (aCons (eLc (iRng1 (aCons (eVar 2) (aNil))) (gNm 21) (tYs) (eCall fTuple (aCons (eSl (eBin oIx (eVar 13) (eVar 21)) pNo (pPart (eBin oAdd (eVar 6) (eC (.int 1))))) (aNil))) [21]) (aNil))))) (tB (eBin oNe (eBin oIx (eVar 12) (eVar 6)) (eCall f__law_cut (aCons (eBin oIx (eVar 12) (eC (.int 3))) (aCons (eBin oAdd (eVar 6) (eC (.int 1))) (aNil))))))) (sRet (eC (.bl false))) (sNil)) (sIf (tOr (tTru (eCall fAny (aCons (eLc (iRng1 (aCons (eVar 6) (aNil))) (gNm 21) (tYs) (eBin oLt (eBin oIx (eVar 14) (eVar 21)) (eBin oIx (eVar 14) (eVar 6))) [21]) (aNil)))) (tAnd (tB (eBin oLt (eVar 8) (eC (.int 2)))) (tB (eBin oNe (eBin oIx (eVar 12) (eVar 6)) (eCall f_of_cache (aCons (eBin oIx (eVar 9) (eVar 6)) (aCons (eMeth "Cache" "lines" f_Cache_lines (eBin oIx (eVar 11) (eVar 6)) aNil) (aNil)))))))) (sRet (eC (.bl false))) (sNil))))))))) (sRet (eC (.bl true)))))))))))))
def f_law : FF := fnF 22 1 b_law
structure Txt (c : FC) (mg : Str → Option Value) : Prop where
  n_abs : mg "abs" = none
  n_any : mg "any" = none
  n_dict : mg "dict" = none
  n_enumerate : mg "enumerate" = none
  n_int : mg "int" = none
  n_len : mg "len" = none
  n_list : mg "list" = none
  n_range : mg "range" = none
  n_sorted : mg "sorted" = none
  n_tuple : mg "tuple" = none
  c_Cache : ClsK c ["Cache"]
  f_policy : FldK c ["Cache"] "policy"
  f_rows : FldK c ["Cache"] "rows"
  f_sets : FldK c ["Cache"] "sets"
  f_ways : FldK c ["Cache"] "ways"
section
variable {c : FC} {P : Program} {w : World} {mg : Str → Option Value} {base : Heap}
abbrev N_of_cache : List Str := ["told", "rows", "must", "may", "row", "age", "line"]
theorem sc_of_cache : FnScope N_of_cache ["told", "rows"] (defScope s_of_cache) := ⟨rfl, rfl, rfl, by decide +kernel, rfl, by decide +kernel, by decide +kernel⟩
theorem d_of_cache {f : Addr} {fd : FuncData} (F : Fun c.K "of_cache" "of_cache" s_of_cache f fd) (T : Txt c mg) : FnOk P w c.K mg base CX0 1 f fd ["told", "rows"] (spF c 2 f_of_cache) := by
  refine F.ok sc_of_cache len_spF (fun cdv A outer s H vs Q E hr h => ⟨_, ?_, start_red (N := N_of_cache) (np := 2) (b := b_of_cache) h⟩)
  exact q_scons (q_asg (q_dic0) (q_gnm sc_of_cache.nd)) (q_scons (q_asg (q_dic0) (q_gnm sc_of_cache.nd)) (q_scons (q_for PassesOwn.never rfl (q_iseq rfl (q_var 1)) (q_gnm sc_of_cache.nd) (q_sone (q_for PassesOwn.never rfl (q_ienumT rfl rfl T.n_enumerate (q_cons (q_var 4) (q_nil))) (q_gtp rfl rfl (q_gcns (q_gnm sc_of_cache.nd) (q_gcns (q_gnm sc_of_cache.nd) (q_gnil)))) (q_scons (q_asg (q_var 5) (q_gix hr.units (q_var 3) (q_var 6))) (q_sone (q_asg (q_if (q_tcmp (dEq rfl hr.units) (q_ix (dIx rfl hr.units) (q_var 0) (q_int)) (q_str)) (q_var 5) (q_int)) (q_gix hr.units (q_var 2) (q_var 6)))))))) (q_sone (q_ret (q_tup (q_cons (q_cb (pe_callTy (cTuple rfl) rfl T.n_tuple (by decide +kernel) (q_cons (q_sortItems rfl rfl hr.units rfl T.n_sorted (q_var 2)) (q_nil)))) (q_cons (q_cb (pe_callTy (cTuple rfl) rfl T.n_tuple (by decide +kernel) (q_cons (q_sortItems rfl rfl hr.units rfl T.n_sorted (q_var 3)) (q_nil)))) (q_nil))))))))
abbrev N_Cache_lines : List Str := ["self"]
theorem sc_Cache_lines : FnScope N_Cache_lines ["self"] (defScope s_Cache_lines) := ⟨rfl, rfl, rfl, by decide +kernel, rfl, by decide +kernel, by decide +kernel⟩
theorem d_Cache_lines {f : Addr} {fd : FuncData} (F : Fun c.K "lines" "Cache.lines" s_Cache_lines f fd) (T : Txt c mg) : FnOk P w c.K mg base CX0 1 f fd ["self"] (spF c 1 f_Cache_lines) := by
  refine F.ok sc_Cache_lines len_spF (fun cdv A outer s H vs Q E hr h => ⟨_, ?_, start_red (N := N_Cache_lines) (np := 1) (b := b_Cache_lines) h⟩)
  exact q_sone (q_ret (q_cb (pe_callTy (cTuple rfl) rfl T.n_tuple (by decide +kernel) (q_cons (q_fld rfl T.c_Cache T.f_rows (q_var 0)) (q_nil)))))
abbrev N__law_cut : List Str := ["known", "ways", "pair"]
theorem sc__law_cut : FnScope N__law_cut ["known", "ways"] (defScope s__law_cut) := ⟨rfl, rfl, rfl, by decide +kernel, rfl, by decide +kernel, by decide +kernel⟩
theorem d__law_cut {f : Addr} {fd : FuncData} (F : Fun c.K "_law_cut" "_law_cut" s__law_cut f fd) (T : Txt c mg) : FnOk P w c.K mg base CX0 1 f fd ["known", "ways"] (spF c 2 f__law_cut) := by
  refine F.ok sc__law_cut len_spF (fun cdv A outer s H vs Q E hr h => ⟨_, ?_, start_red (N := N__law_cut) (np := 2) (b := b__law_cut) h⟩)
  exact q_sone (q_ret (q_tup (q_cons (q_cb (pe_callTy (cTuple rfl) rfl T.n_tuple (by decide +kernel) (q_cons (q_lc [("pair", 2)] rfl sc__law_cut.nd (q_iseq rfl (q_ix (dIx rfl hr.units) (q_var 0) (q_int))) (blkOk_by (N := N__law_cut) (sc := defScope s__law_cut) (own := [("pair", 2)]) (by decide +kernel)) (fun _ _ _ _ _ => q_gnm sc__law_cut.nd) (fun _ _ _ _ _ => q_ts1 (q_tcmp (dLt) (q_ix (dIx rfl hr.units) (q_var 2) (q_int)) (q_var 1))) (fun _ _ _ _ _ => q_var 2)) (q_nil)))) (q_cons (q_if (q_tisN (q_ix (dIx rfl hr.units) (q_var 0) (q_int))) (q_non) (q_cb (pe_callTy (cTuple rfl) rfl T.n_tuple (by decide +kernel) (q_cons (q_lc [("pair", 2)] rfl sc__law_cut.nd (q_iseq rfl (q_ix (dIx rfl hr.units) (q_var 0) (q_int))) (blkOk_by (N := N__law_cut) (sc := defScope s__law_cut) (own := [("pair", 2)]) (by decide +kernel)) (fun _ _ _ _ _ => q_gnm sc__law_cut.nd) (fun _ _ _ _ _ => q_ts1 (q_tcmp (dLt) (q_ix (dIx rfl hr.units) (q_var 2) (q_int)) (q_var 1))) (fun _ _ _ _ _ => q_var 2)) (q_nil))))) (q_nil)))))
abbrev N_aged : List Str := ["told", "may", "line", "before", "left", "one", "age", "is_older", "older"]
theorem sc_aged : FnScope N_aged ["told", "may", "line"] (defScope s_aged) := ⟨rfl, rfl, rfl, by decide +kernel, rfl, by decide +kernel, by decide +kernel⟩
theorem d_aged {f : Addr} {fd : FuncData} (F : Fun c.K "aged" "aged" s_aged f fd) (T : Txt c mg) : FnOk P w c.K mg base CX0 1 f fd ["told", "may", "line"] (spF c 3 f_aged) := by
  refine F.ok sc_aged len_spF (fun cdv A outer s H vs Q E hr h => ⟨_, ?_, start_red (N := N_aged) (np := 3) (b := b_aged) h⟩)
  exact q_scons (q_asg (q_get2 (pe_dget2 (Nat.lt_of_le_of_lt (Nat.add_le_add_left (by decide : 1 ≤ 64) _) hr.units) (q_cb (pe_callTy (cDict rfl rfl) rfl T.n_dict (by decide +kernel) (q_cons (q_var 1) (q_nil)))) (q_var 2) (q_ix (dIx rfl hr.units) (q_var 0) (q_int)) ⟨rfl, rfl, rfl, rfl⟩)) (q_gnm sc_aged.nd)) (q_scons (q_asg (q_dic (fs := [(eVar 2, eC (.int 0))]) (pps_cons (q_var 2) (q_int) (pps_nil))) (q_gnm sc_aged.nd)) (q_scons (q_for PassesOwn.never rfl (q_iseq rfl (q_var 1)) (q_gtp rfl rfl (q_gcns (q_gnm sc_aged.nd) (q_gcns (q_gnm sc_aged.nd) (q_gnil)))) (q_sone (q_sif (q_tcmp (dNe rfl hr.units) (q_var 5) (q_var 2)) (q_scons (q_asg (q_and rfl (q_cmp (dEq rfl hr.units) (q_ix (dIx rfl hr.units) (q_var 0) (q_int)) (q_str)) (q_and rfl (q_cmp (dEq rfl hr.units) (q_bin (dMod) (q_var 5) (q_ix (dIx rfl hr.units) (q_var 0) (q_int))) (q_bin (dMod) (q_var 2) (q_ix (dIx rfl hr.units) (q_var 0) (q_int)))) (q_one (q_cmp (dLe) (q_var 6) (q_var 3))))) (q_gnm sc_aged.nd)) (q_scons (q_asg (q_if (q_tru rfl (q_var 7)) (q_bin (dAdd rfl) (q_var 6) (q_int)) (q_var 6)) (q_gnm sc_aged.nd)) (q_sone (q_sif (q_tcmp (dLt) (q_var 8) (q_ix (dIx rfl hr.units) (q_var 0) (q_int))) (q_sone (q_asg (q_var 8) (q_gix hr.units (q_var 4) (q_var 5)))) (q_snil))))) (q_snil)))) (q_sone (q_ret (q_cb (pe_callTy (cTuple rfl) rfl T.n_tuple (by decide +kernel) (q_cons (q_sortItems rfl rfl hr.units rfl T.n_sorted (q_var 4)) (q_nil))))))))
abbrev N_ways_sure : List Str := ["told"]
theorem sc_ways_sure : FnScope N_ways_sure ["told"] (defScope s_ways_sure) := ⟨rfl, rfl, rfl, by decide +kernel, rfl, by decide +kernel, by decide +kernel⟩
theorem d_ways_sure {f : Addr} {fd : FuncData} (F : Fun c.K "ways_sure" "ways_sure" s_ways_sure f fd) (T : Txt c mg) : FnOk P w c.K mg base CX0 1 f fd ["told"] (spF c 1 f_ways_sure) := by
  refine F.ok sc_ways_sure len_spF (fun cdv A outer s H vs Q E hr h => ⟨_, ?_, start_red (N := N_ways_sure) (np := 1) (b := b_ways_sure) h⟩)
  exact q_sone (q_ret (q_if (q_tcmp (dEq rfl hr.units) (q_ix (dIx rfl hr.units) (q_var 0) (q_int)) (q_str)) (q_ix (dIx rfl hr.units) (q_var 0) (q_int)) (q_int)))
abbrev N_used : List Str := ["told", "known", "line", "must", "may", "sure", "before", "kept", "one", "age", "older"]
theorem sc_used : FnScope N_used ["told", "known", "line"] (defScope s_used) := ⟨rfl, rfl, rfl, by decide +kernel, rfl, by decide +kernel, by decide +kernel⟩
theorem d_used {f : Addr} {fd : FuncData} (F : Fun c.K "used" "used" s_used f fd) (T : Txt c mg) (C_aged : Fp c P w mg base 1 "aged" ["told", "may", "line"] f_aged) (C_ways_sure : Fp c P w mg base 1 "ways_sure" ["told"] f_ways_sure) : FnOk P w c.K mg base CX0 2 f fd ["told", "known", "line"] (spF c 3 f_used) := by
  refine F.ok sc_used len_spF (fun cdv A outer s H vs Q E hr h => ⟨_, ?_, start_red (N := N_used) (np := 3) (b := b_used) h⟩)
  exact q_scons (q_asg (q_var 1) (q_gtp rfl rfl (q_gcns (q_gnm sc_used.nd) (q_gcns (q_gnm sc_used.nd) (q_gnil))))) (q_scons (q_asg (q_callP rfl (C_ways_sure.mono (by decide)) hr rfl (q_cons (q_var 0) (q_nil)) (lenS len0)) (q_gnm sc_used.nd)) (q_scons (q_asg (q_get2 (pe_dget2 (Nat.lt_of_le_of_lt (Nat.add_le_add_left (by decide : 1 ≤ 64) _) hr.units) (q_cb (pe_callTy (cDict rfl rfl) rfl T.n_dict (by decide +kernel) (q_cons (q_var 3) (q_nil)))) (q_var 2) (q_var 5) ⟨rfl, rfl, rfl, rfl⟩)) (q_gnm sc_used.nd)) (q_scons (q_asg (q_dic (fs := [(eVar 2, eC (.int 0))]) (pps_cons (q_var 2) (q_int) (pps_nil))) (q_gnm sc_used.nd)) (q_scons (q_for PassesOwn.never rfl (q_iseq rfl (q_var 3)) (q_gtp rfl rfl (q_gcns (q_gnm sc_used.nd) (q_gcns (q_gnm sc_used.nd) (q_gnil)))) (q_sone (q_sif (q_tcmp (dNe rfl hr.units) (q_var 8) (q_var 2)) (q_scons (q_asg (q_if (PW.pt (q_wand (q_tcmp (dEq rfl hr.units) (q_bin (dMod) (q_var 8) (q_ix (dIx rfl hr.units) (q_var 0) (q_int))) (q_bin (dMod) (q_var 2) (q_ix (dIx rfl hr.units) (q_var 0) (q_int)))) (q_wand1 (q_tcmp (dLt) (q_var 9) (q_var 6))))) (q_bin (dAdd rfl) (q_var 9) (q_int)) (q_var 9)) (q_gnm sc_used.nd)) (q_sone (q_sif (q_tcmp (dLt) (q_var 10) (q_var 5)) (q_sone (q_asg (q_var 10) (q_gix hr.units (q_var 7) (q_var 8)))) (q_snil)))) (q_snil)))) (q_scons (q_sif (q_tisN (q_var 4)) (q_sone (q_ret (q_tup (q_cons (q_cb (pe_callTy (cTuple rfl) rfl T.n_tuple (by decide +kernel) (q_cons (q_sortItems rfl rfl hr.units rfl T.n_sorted (q_var 7)) (q_nil)))) (q_cons (q_non) (q_nil)))))) (q_snil)) (q_sone (q_ret (q_tup (q_cons (q_cb (pe_callTy (cTuple rfl) rfl T.n_tuple (by decide +kernel) (q_cons (q_sortItems rfl rfl hr.units rfl T.n_sorted (q_var 7)) (q_nil)))) (q_cons (q_callP rfl (C_aged.mono (by decide)) hr rfl (q_cons (q_var 0) (q_cons (q_var 4) (q_cons (q_var 2) (q_nil)))) (lenS (lenS (lenS len0)))) (q_nil)))))))))))
abbrev N_filled : List Str := ["told", "known", "line"]
theorem sc_filled : FnScope N_filled ["told", "known", "line"] (defScope s_filled) := ⟨rfl, rfl, rfl, by decide +kernel, rfl, by decide +kernel, by decide +kernel⟩
theorem d_filled {f : Addr} {fd : FuncData} (F : Fun c.K "filled" "filled" s_filled f fd) (T : Txt c mg) (C_used : Fp c P w mg base 2 "used" ["told", "known", "line"] f_used) : FnOk P w c.K mg base CX0 3 f fd ["told", "known", "line"] (spF c 3 f_filled) := by
  refine F.ok sc_filled len_spF (fun cdv A outer s H vs Q E hr h => ⟨_, ?_, start_red (N := N_filled) (np := 3) (b := b_filled) h⟩)
  exact q_sone (q_ret (q_callP rfl (C_used.mono (by decide)) hr rfl (q_cons (q_var 0) (q_cons (q_var 1) (q_cons (q_var 2) (q_nil)))) (lenS (lenS (lenS len0)))))
abbrev N_missed : List Str := ["known", "line", "must", "may", "pair"]
theorem sc_missed : FnScope N_missed ["known", "line"] (defScope s_missed) := ⟨rfl, rfl, rfl, by decide +kernel, rfl, by decide +kernel, by decide +kernel⟩
theorem d_missed {f : Addr} {fd : FuncData} (F : Fun c.K "missed" "missed" s_missed f fd) (T : Txt c mg) : FnOk P w c.K mg base CX0 1 f fd ["known", "line"] (spF c 2 f_missed) := by
  refine F.ok sc_missed len_spF (fun cdv A outer s H vs Q E hr h => ⟨_, ?_, start_red (N := N_missed) (np := 2) (b := b_missed) h⟩)
  exact q_scons (q_asg (q_var 0) (q_gtp rfl rfl (q_gcns (q_gnm sc_missed.nd) (q_gcns (q_gnm sc_missed.nd) (q_gnil))))) (q_sone (q_ret (q_tup (q_cons (q_var 2) (q_cons (q_if (q_tisN (q_var 3)) (q_non) (q_cb (pe_callTy (cTuple rfl) rfl T.n_tuple (by decide +kernel) (q_cons (q_lc [("pair", 4)] rfl sc_missed.nd (q_iseq rfl (q_var 3)) (blkOk_by (N := N_missed) (sc := defScope s_missed) (own := [("pair", 4)]) (by decide +kernel)) (fun _ _ _ _ _ => q_gnm sc_missed.nd) (fun _ _ _ _ _ => q_ts1 (q_tcmp (dNe rfl hr.units) (q_ix (dIx rfl hr.units) (q_var 4) (q_int)) (q_var 1))) (fun _ _ _ _ _ => q_var 4)) (q_nil))))) (q_nil))))))
abbrev N_Cache_fill : List Str := ["self", "line", "at", "row", "one"]
theorem sc_Cache_fill : FnScope N_Cache_fill ["self", "line"] (defScope s_Cache_fill) := ⟨rfl, rfl, rfl, by decide +kernel, rfl, by decide +kernel, by decide +kernel⟩
theorem d_Cache_fill {f : Addr} {fd : FuncData} (F : Fun c.K "fill" "Cache.fill" s_Cache_fill f fd) (T : Txt c mg) : FnOk P w c.K mg base CX0 1 f fd ["self", "line"] (spF c 2 f_Cache_fill) := by
  refine F.ok sc_Cache_fill len_spF (fun cdv A outer s H vs Q E hr h => ⟨_, ?_, start_red (N := N_Cache_fill) (np := 2) (b := b_Cache_fill) h⟩)
  exact q_scons (q_asg (q_bin (dMod) (q_var 1) (q_fld rfl T.c_Cache T.f_sets (q_var 0))) (q_gnm sc_Cache_fill.nd)) (q_scons (q_asg (q_cb (pe_callTy (cTuple rfl) rfl T.n_tuple (by decide +kernel) (q_cons (q_lc [("one", 4)] rfl sc_Cache_fill.nd (q_iseq rfl (q_ix (dIx rfl hr.units) (q_fld rfl T.c_Cache T.f_rows (q_var 0)) (q_var 2))) (blkOk_by (N := N_Cache_fill) (sc := defScope s_Cache_fill) (own := [("one", 4)]) (by decide +kernel)) (fun _ _ _ _ _ => q_gnm sc_Cache_fill.nd) (fun _ _ _ _ _ => q_ts1 (q_tcmp (dNe rfl hr.units) (q_var 4) (q_var 1))) (fun _ _ _ _ _ => q_var 4)) (q_nil)))) (q_gnm sc_Cache_fill.nd)) (q_sone (q_asg (q_sl rfl (q_bin (dAdd rfl) (q_tup (q_cons (q_var 1) (q_nil))) (q_var 3)) q_pno (q_ppart (q_fld rfl T.c_Cache T.f_ways (q_var 0)))) (q_gix hr.units (q_fld rfl T.c_Cache T.f_rows (q_var 0)) (q_var 2)))))
abbrev N_touched : List Str := ["told", "known", "line", "must", "may", "one", "_"]
theorem sc_touched : FnScope N_touched ["told", "known", "line"] (defScope s_touched) := ⟨rfl, rfl, rfl, by decide +kernel, rfl, by decide +kernel, by decide +kernel⟩
theorem d_touched {f : Addr} {fd : FuncData} (F : Fun c.K "touched" "touched" s_touched f fd) (T : Txt c mg) (C_used : Fp c P w mg base 2 "used" ["told", "known", "line"] f_used) : FnOk P w c.K mg base CX0 3 f fd ["told", "known", "line"] (spF c 3 f_touched) := by
  refine F.ok sc_touched len_spF (fun cdv A outer s H vs Q E hr h => ⟨_, ?_, start_red (N := N_touched) (np := 3) (b := b_touched) h⟩)
  exact q_scons (q_sif (q_tcmp (dEq rfl hr.units) (q_ix (dIx rfl hr.units) (q_var 0) (q_int)) (q_str)) (q_sone (q_ret (q_callP rfl (C_used.mono (by decide)) hr rfl (q_cons (q_var 0) (q_cons (q_var 1) (q_cons (q_var 2) (q_nil)))) (lenS (lenS (lenS len0)))))) (q_snil)) (q_scons (q_asg (q_var 1) (q_gtp rfl rfl (q_gcns (q_gnm sc_touched.nd) (q_gcns (q_gnm sc_touched.nd) (q_gnil))))) (q_scons (q_sif (q_tru rfl (q_cb (pe_callB (cAny rfl rfl (cr_any rfl)) rfl T.n_any (by decide +kernel) (q_cons (q_lc [("one", 5), ("_", 6)] rfl sc_touched.nd (q_iseq rfl (q_var 3)) (blkOk_by (N := N_touched) (sc := defScope s_touched) (own := [("one", 5), ("_", 6)]) (by decide +kernel)) (fun _ _ _ _ _ => q_gtp rfl rfl (q_gcns (q_gnm sc_touched.nd) (q_gcns (q_gnm sc_touched.nd) (q_gnil)))) (fun _ _ _ _ _ => q_tsn) (fun _ _ _ _ _ => q_cmp (dEq rfl hr.units) (q_var 5) (q_var 2))) (q_nil))))) (q_sone (q_ret (q_var 1))) (q_snil)) (q_sone (q_ret (q_tup (q_cons (q_cb (pe_callTy (cTuple rfl) rfl T.n_tuple (by decide +kernel) (q_cons (q_enever) (q_nil)))) (q_cons (q_var 4) (q_nil))))))))
abbrev N_verdicts : List Str := ["known", "line", "must", "may", "one", "_"]
theorem sc_verdicts : FnScope N_verdicts ["known", "line"] (defScope s_verdicts) := ⟨rfl, rfl, rfl, by decide +kernel, rfl, by decide +kernel, by decide +kernel⟩
theorem d_verdicts {f : Addr} {fd : FuncData} (F : Fun c.K "verdicts" "verdicts" s_verdicts f fd) (T : Txt c mg) : FnOk P w c.K mg base CX0 1 f fd ["known", "line"] (spF c 2 f_verdicts) := by
  refine F.ok sc_verdicts len_spF (fun cdv A outer s H vs Q E hr h => ⟨_, ?_, start_red (N := N_verdicts) (np := 2) (b := b_verdicts) h⟩)
  exact q_scons (q_asg (q_var 0) (q_gtp rfl rfl (q_gcns (q_gnm sc_verdicts.nd) (q_gcns (q_gnm sc_verdicts.nd) (q_gnil))))) (q_scons (q_sif (q_tru rfl (q_cb (pe_callB (cAny rfl rfl (cr_any rfl)) rfl T.n_any (by decide +kernel) (q_cons (q_lc [("one", 4), ("_", 5)] rfl sc_verdicts.nd (q_iseq rfl (q_var 2)) (blkOk_by (N := N_verdicts) (sc := defScope s_verdicts) (own := [("one", 4), ("_", 5)]) (by decide +kernel)) (fun _ _ _ _ _ => q_gtp rfl rfl (q_gcns (q_gnm sc_verdicts.nd) (q_gcns (q_gnm sc_verdicts.nd) (q_gnil)))) (fun _ _ _ _ _ => q_tsn) (fun _ _ _ _ _ => q_cmp (dEq rfl hr.units) (q_var 4) (q_var 1))) (q_nil))))) (q_sone (q_ret (q_lst (q_cons (q_bl) (q_nil))))) (q_snil)) (q_scons (q_sif (PW.pt (q_wand (q_tnotN (q_var 3)) (q_wand1 (q_tnot (q_tru rfl (q_cb (pe_callB (cAny rfl rfl (cr_any rfl)) rfl T.n_any (by decide +kernel) (q_cons (q_lc [("one", 4), ("_", 5)] rfl sc_verdicts.nd (q_iseq rfl (q_var 3)) (blkOk_by (N := N_verdicts) (sc := defScope s_verdicts) (own := [("one", 4), ("_", 5)]) (by decide +kernel)) (fun _ _ _ _ _ => q_gtp rfl rfl (q_gcns (q_gnm sc_verdicts.nd) (q_gcns (q_gnm sc_verdicts.nd) (q_gnil)))) (fun _ _ _ _ _ => q_tsn) (fun _ _ _ _ _ => q_cmp (dEq rfl hr.units) (q_var 4) (q_var 1))) (q_nil))))))))) (q_sone (q_ret (q_lst (q_cons (q_bl) (q_nil))))) (q_snil)) (q_sone (q_ret (q_lst (q_cons (q_bl) (q_cons (q_bl) (q_nil))))))))
abbrev N_Cache_has : List Str := ["self", "line", "at", "row", "one"]
theorem sc_Cache_has : FnScope N_Cache_has ["self", "line"] (defScope s_Cache_has) := ⟨rfl, rfl, rfl, by decide +kernel, rfl, by decide +kernel, by decide +kernel⟩
theorem d_Cache_has {f : Addr} {fd : FuncData} (F : Fun c.K "has" "Cache.has" s_Cache_has f fd) (T : Txt c mg) : FnOk P w c.K mg base CX0 1 f fd ["self", "line"] (spF c 2 f_Cache_has) := by
  refine F.ok sc_Cache_has len_spF (fun cdv A outer s H vs Q E hr h => ⟨_, ?_, start_red (N := N_Cache_has) (np := 2) (b := b_Cache_has) h⟩)
  exact q_scons (q_asg (q_bin (dMod) (q_var 1) (q_fld rfl T.c_Cache T.f_sets (q_var 0))) (q_gnm sc_Cache_has.nd)) (q_scons (q_asg (q_ix (dIx rfl hr.units) (q_fld rfl T.c_Cache T.f_rows (q_var 0)) (q_var 2)) (q_gnm sc_Cache_has.nd)) (q_scons (q_sif (q_tcmp (dNotIn rfl hr.units) (q_var 1) (q_var 3)) (q_sone (q_ret (q_bl))) (q_snil)) (q_scons (q_sif (q_tcmp (dEq rfl hr.units) (q_fld rfl T.c_Cache T.f_policy (q_var 0)) (q_str)) (q_sone (q_asg (q_bin (dAdd rfl) (q_tup (q_cons (q_var 1) (q_nil))) (q_cb (pe_callTy (cTuple rfl) rfl T.n_tuple (by decide +kernel) (q_cons (q_lc [("one", 4)] rfl sc_Cache_has.nd (q_iseq rfl (q_var 3)) (blkOk_by (N := N_Cache_has) (sc := defScope s_Cache_has) (own := [("one", 4)]) (by decide +kernel)) (fun _ _ _ _ _ => q_gnm sc_Cache_has.nd) (fun _ _ _ _ _ => q_ts1 (q_tcmp (dNe rfl hr.units) (q_var 4) (q_var 1))) (fun _ _ _ _ _ => q_var 4)) (q_nil))))) (q_gix hr.units (q_fld rfl T.c_Cache T.f_rows (q_var 0)) (q_var 2)))) (q_snil)) (q_sone (q_ret (q_bl))))))
abbrev N__law_need : List Str := ["told", "cache", "known", "line", "here", "answers"]
theorem sc__law_need : FnScope N__law_need ["told", "cache", "known", "line"] (defScope s__law_need) := ⟨rfl, rfl, rfl, by decide +kernel, rfl, by decide +kernel, by decide +kernel⟩
theorem d__law_need {f : Addr} {fd : FuncData} (F : Fun c.K "_law_need" "_law_need" s__law_need f fd) (T : Txt c mg) (C_filled : Fp c P w mg base 3 "filled" ["told", "known", "line"] f_filled) (C_missed : Fp c P w mg base 1 "missed" ["known", "line"] f_missed) (C_Cache_fill : Mp c P w mg base 1 "Cache" "fill" ["self", "line"] f_Cache_fill) (C_touched : Fp c P w mg base 3 "touched" ["told", "known", "line"] f_touched) (C_verdicts : Fp c P w mg base 1 "verdicts" ["known", "line"] f_verdicts) (C_Cache_has : Mp c P w mg base 1 "Cache" "has" ["self", "line"] f_Cache_has) : FnOk P w c.K mg base CX0 4 f fd ["told", "cache", "known", "line"] (spF c 4 f__law_need) := by
  refine F.ok sc__law_need len_spF (fun cdv A outer s H vs Q E hr h => ⟨_, ?_, start_red (N := N__law_need) (np := 4) (b := b__law_need) h⟩)
  exact q_scons (q_asg (q_methP rfl C_Cache_has (hr.mono (by decide)) (q_var 1) (q_cons (q_var 3) (q_nil)) (lenP (lenS len0))) (q_gnm sc__law_need.nd)) (q_scons (q_asg (q_callP rfl (C_verdicts.mono (by decide)) hr rfl (q_cons (q_var 2) (q_cons (q_var 3) (q_nil))) (lenS (lenS len0))) (q_gnm sc__law_need.nd)) (q_scons (q_sif (q_tru rfl (q_var 4)) (q_sone (q_ret (q_tup (q_cons (q_var 4) (q_cons (q_var 5) (q_cons (q_callP rfl (C_touched.mono (by decide)) hr rfl (q_cons (q_var 0) (q_cons (q_var 2) (q_cons (q_var 3) (q_nil)))) (lenS (lenS (lenS len0)))) (q_nil))))))) (q_snil)) (q_scons (q_drop (q_methP rfl C_Cache_fill (hr.mono (by decide)) (q_var 1) (q_cons (q_var 3) (q_nil)) (lenP (lenS len0)))) (q_sone (q_ret (q_tup (q_cons (q_var 4) (q_cons (q_var 5) (q_cons (q_callP rfl (C_filled.mono (by decide)) hr rfl (q_cons (q_var 0) (q_cons (q_callP rfl (C_missed.mono (by decide)) hr rfl (q_cons (q_var 2) (q_cons (q_var 3) (q_nil))) (lenS (lenS len0))) (q_cons (q_var 3) (q_nil)))) (lenS (lenS (lenS len0)))) (q_nil))))))))))
abbrev N__law_take : List Str := ["tape", "many", "drawn", "mixed"]
theorem sc__law_take : FnScope N__law_take ["tape", "many"] (defScope s__law_take) := ⟨rfl, rfl, rfl, by decide +kernel, rfl, by decide +kernel, by decide +kernel⟩
theorem d__law_take {f : Addr} {fd : FuncData} (F : Fun c.K "_law_take" "_law_take" s__law_take f fd) (T : Txt c mg) : FnOk P w c.K mg base CX0 1 f fd ["tape", "many"] (spF c 2 f__law_take) := by
  refine F.ok sc__law_take len_spF (fun cdv A outer s H vs Q E hr h => ⟨_, ?_, start_red (N := N__law_take) (np := 2) (b := b__law_take) h⟩)
  exact q_scons (q_sif (PW.pt (q_wand (q_tcmp (dEq rfl hr.units) (q_ix (dIx rfl hr.units) (q_var 0) (q_str)) (q_int)) (q_wand1 (q_tcmp (dLt) (q_ix (dIx rfl hr.units) (q_var 0) (q_str)) (q_cb (pe_callB (cLen rfl) rfl T.n_len (by decide +kernel) (q_cons (q_ix (dIx rfl hr.units) (q_var 0) (q_str)) (q_nil)))))))) (q_scons (q_asg (q_ix (dIx rfl hr.units) (q_ix (dIx rfl hr.units) (q_var 0) (q_str)) (q_ix (dIx rfl hr.units) (q_var 0) (q_str))) (q_gix hr.units (q_var 0) (q_str))) (q_sone (q_asg (q_bin (dAdd rfl) (q_ix (dIx rfl hr.units) (q_var 0) (q_str)) (q_int)) (q_gix hr.units (q_var 0) (q_str))))) (q_snil)) (q_scons (q_sif (q_tcmp (dGt) (q_ix (dIx rfl hr.units) (q_var 0) (q_str)) (q_int)) (q_scons (q_asg (q_bin (dMod) (q_cb (pe_callTy (cInt) rfl T.n_int (by decide +kernel) (q_cons (q_ix (dIx rfl hr.units) (q_var 0) (q_str)) (q_nil)))) (q_var 1)) (q_gnm sc__law_take.nd)) (q_scons (q_asg (q_bin (dDiv) (q_ix (dIx rfl hr.units) (q_var 0) (q_str)) (q_var 1)) (q_gix hr.units (q_var 0) (q_str))) (q_sone (q_ret (q_var 2))))) (q_snil)) (q_scons (q_asg (q_bin (dAdd rfl) (q_ix (dIx rfl hr.units) (q_var 0) (q_str)) (q_int)) (q_gix hr.units (q_var 0) (q_str))) (q_scons (q_asg (q_bin (dMod) (q_cb (pe_callTy (cInt) rfl T.n_int (by decide +kernel) (q_cons (q_bin (dAdd rfl) (q_bin (dMul) (q_ix (dIx rfl hr.units) (q_var 0) (q_str)) (q_int)) (q_bin (dMul) (q_ix (dIx rfl hr.units) (q_var 0) (q_str)) (q_int))) (q_nil)))) (q_int)) (q_gnm sc__law_take.nd)) (q_scons (q_asg (q_bin (dMod) (q_cb (pe_callTy (cInt) rfl T.n_int (by decide +kernel) (q_cons (q_bin (dAdd rfl) (q_bin (dAdd rfl) (q_bin (dMul) (q_var 3) (q_var 3)) (q_bin (dMul) (q_ix (dIx rfl hr.units) (q_var 0) (q_str)) (q_int))) (q_int)) (q_nil)))) (q_int)) (q_gnm sc__law_take.nd)) (q_sone (q_ret (q_bin (dMod) (q_cb (pe_callTy (cInt) rfl T.n_int (by decide +kernel) (q_cons (q_var 3) (q_nil)))) (q_var 1))))))))
abbrev N_nothing : List Str := []
theorem sc_nothing : FnScope N_nothing [] (defScope s_nothing) := ⟨rfl, rfl, rfl, by decide +kernel, rfl, by decide +kernel, by decide +kernel⟩
theorem d_nothing {f : Addr} {fd : FuncData} (F : Fun c.K "nothing" "nothing" s_nothing f fd) (T : Txt c mg) : FnOk P w c.K mg base CX0 1 f fd [] (spF c 0 f_nothing) := by
  refine F.ok sc_nothing len_spF (fun cdv A outer s H vs Q E hr h => ⟨_, ?_, start_red (N := N_nothing) (np := 0) (b := b_nothing) h⟩)
  exact q_sone (q_ret (q_tup (q_cons (q_tup (q_nil)) (q_cons (q_tup (q_nil)) (q_nil)))))
abbrev N_anything : List Str := []
theorem sc_anything : FnScope N_anything [] (defScope s_anything) := ⟨rfl, rfl, rfl, by decide +kernel, rfl, by decide +kernel, by decide +kernel⟩
theorem d_anything {f : Addr} {fd : FuncData} (F : Fun c.K "anything" "anything" s_anything f fd) (T : Txt c mg) : FnOk P w c.K mg base CX0 1 f fd [] (spF c 0 f_anything) := by
  refine F.ok sc_anything len_spF (fun cdv A outer s H vs Q E hr h => ⟨_, ?_, start_red (N := N_anything) (np := 0) (b := b_anything) h⟩)
  exact q_sone (q_ret (q_tup (q_cons (q_tup (q_nil)) (q_cons (q_non) (q_nil)))))
abbrev N_Cache___init__ : List Str := ["self", "told", "lines", "row"]
theorem sc_Cache___init__ : FnScope N_Cache___init__ ["self", "told", "lines"] (defScope s_Cache___init__) := ⟨rfl, rfl, rfl, by decide +kernel, rfl, by decide +kernel, by decide +kernel⟩
theorem d_Cache___init__ {f : Addr} {fd : FuncData} (F : Fun c.K "__init__" "Cache.__init__" s_Cache___init__ f fd) (T : Txt c mg) : FnOk P w c.K mg base CX0 1 f fd ["self", "told", "lines"] (spF c 3 f_Cache___init__) := by
  refine F.ok sc_Cache___init__ len_spF (fun cdv A outer s H vs Q E hr h => ⟨_, ?_, start_red (N := N_Cache___init__) (np := 3) (b := b_Cache___init__) h⟩)
  exact q_scons (q_asg (q_var 1) (q_gtp rfl rfl (q_gcns (q_gfd rfl T.c_Cache T.f_sets (q_var 0)) (q_gcns (q_gfd rfl T.c_Cache T.f_ways (q_var 0)) (q_gcns (q_gfd rfl T.c_Cache T.f_policy (q_var 0)) (q_gnil)))))) (q_sone (q_asg (q_lc [("row", 3)] rfl sc_Cache___init__.nd (q_iseq rfl (q_var 2)) (blkOk_by (N := N_Cache___init__) (sc := defScope s_Cache___init__) (own := [("row", 3)]) (by decide +kernel)) (fun _ _ _ _ _ => q_gnm sc_Cache___init__.nd) (fun _ _ _ _ _ => q_tsn) (fun _ _ _ _ _ => q_cb (pe_callTy (cTuple rfl) rfl T.n_tuple (by decide +kernel) (q_cons (q_var 3) (q_nil))))) (q_gfd rfl T.c_Cache T.f_rows (q_var 0))))
abbrev N__law_tape : List Str := ["script", "cells", "seed", "cell"]
theorem sc__law_tape : FnScope N__law_tape ["script"] (defScope s__law_tape) := ⟨rfl, rfl, rfl, by decide +kernel, rfl, by decide +kernel, by decide +kernel⟩
theorem d__law_tape {f : Addr} {fd : FuncData} (F : Fun c.K "_law_tape" "_law_tape" s__law_tape f fd) (T : Txt c mg) : FnOk P w c.K mg base CX0 1 f fd ["script"] (spF c 1 f__law_tape) := by
  refine F.ok sc__law_tape len_spF (fun cdv A outer s H vs Q E hr h => ⟨_, ?_, start_red (N := N__law_tape) (np := 1) (b := b__law_tape) h⟩)
  exact q_scons (q_setLc (ps_setLc (i := 1) (own := [("cell", 3)]) rfl sc__law_tape.nd rfl rfl (sw_true rfl rfl rfl (by decide +kernel)) (q_iseq rfl (q_var 0)) (blkOk_by (N := N__law_tape) (sc := defScope s__law_tape) (own := [("cell", 3)]) (by decide +kernel)) (fun _ _ _ _ _ => q_gnm sc__law_tape.nd) (fun _ _ _ _ _ => q_tsn) (fun _ _ _ _ _ => q_cb (pe_callB (cAbs) rfl T.n_abs (by decide +kernel) (q_cons (q_cb (pe_callTy (cInt) rfl T.n_int (by decide +kernel) (q_cons (q_var 3) (q_nil)))) (q_nil)))))) (q_scons (q_asg (q_int) (q_gnm sc__law_tape.nd)) (q_scons (q_for PassesOwn.never rfl (q_iseq rfl (q_var 1)) (q_gnm sc__law_tape.nd) (q_sone (q_asg (q_bin (dMod) (q_cb (pe_callTy (cInt) rfl T.n_int (by decide +kernel) (q_cons (q_bin (dAdd rfl) (q_bin (dMul) (q_var 2) (q_int)) (q_var 3)) (q_nil)))) (q_int)) (q_gnm sc__law_tape.nd)))) (q_sone (q_ret (q_dic (fs := [(eC (.str "cells"), eVar 1), (eC (.str "at"), eC (.int 0)), (eC (.str "left"), eC (.int 0)), (eC (.str "seed"), eVar 2), (eC (.str "salt"), eC (.int 0))]) (pps_cons (q_str) (q_var 1) (pps_cons (q_str) (q_int) (pps_cons (q_str) (q_int) (pps_cons (q_str) (q_var 2) (pps_cons (q_str) (q_int) (pps_nil)))))))))))
abbrev N_law : List Str := ["script", "tape", "sets", "rows", "at", "row", "k", "line", "kind", "told", "starts", "caches", "known", "since", "misses", "turn", "here", "answers", "due", "ways", "one", "n"]
theorem sc_law : FnScope N_law ["script"] (defScope s_law) := ⟨rfl, rfl, rfl, by decide +kernel, rfl, by decide +kernel, by decide +kernel⟩
theorem d_law {f : Addr} {fd : FuncData} (F : Fun c.K "law" "law" s_law f fd) (T : Txt c mg) (C_of_cache : Fp c P w mg base 1 "of_cache" ["told", "rows"] f_of_cache) (C_Cache_lines : Mp c P w mg base 1 "Cache" "lines" ["self"] f_Cache_lines) (C__law_cut : Fp c P w mg base 1 "_law_cut" ["known", "ways"] f__law_cut) (C__law_need : Fp c P w mg base 4 "_law_need" ["told", "cache", "known", "line"] f__law_need) (C__law_take : Fp c P w mg base 1 "_law_take" ["tape", "many"] f__law_take) (C_nothing : Fp c P w mg base 1 "nothing" [] f_nothing) (C_anything : Fp c P w mg base 1 "anything" [] f_anything) (C_Cache___init__ : Ip c P w mg base 1 "Cache" ["self", "told", "lines"] f_Cache___init__) (C__law_tape : Fp c P w mg base 1 "_law_tape" ["script"] f__law_tape) : FnOk P w c.K mg base CX0 5 f fd ["script"] (spF c 1 f_law) := by
  refine F.ok sc_law len_spF (fun cdv A outer s H vs Q E hr h => ⟨_, ?_, start_red (N := N_law) (np := 1) (b := b_law) h⟩)
  exact q_scons (q_asg (q_callP rfl (C__law_tape.mono (by decide)) hr rfl (q_cons (q_var 0) (q_nil)) (lenS len0)) (q_gnm sc_law.nd)) (q_scons (q_asg (q_ix (dIx rfl hr.units) (q_lst (q_cons (q_int) (q_cons (q_int) (q_cons (q_int) (q_nil))))) (q_callP rfl (C__law_take.mono (by decide)) hr rfl (q_cons (q_var 1) (q_cons (q_int) (q_nil))) (lenS (lenS len0)))) (q_gnm sc_law.nd)) (q_scons (q_asg (q_lst (q_nil)) (q_gnm sc_law.nd)) (q_scons (q_for PassesOwn.never rfl (q_irng1 rfl T.n_range (q_cons (q_var 2) (q_nil))) (q_gnm sc_law.nd) (q_scons (q_asg (q_lst (q_nil)) (q_gnm sc_law.nd)) (q_scons (q_for PassesOwn.never rfl (q_irng1 rfl T.n_range (q_cons (q_int) (q_nil))) (q_gnm sc_law.nd) (q_scons (q_asg (q_bin (dAdd rfl) (q_var 4) (q_bin (dMul) (q_var 2) (q_callP rfl (C__law_take.mono (by decide)) hr rfl (q_cons (q_var 1) (q_cons (q_int) (q_nil))) (lenS (lenS len0))))) (q_gnm sc_law.nd)) (q_sone (q_sif (PW.pt (q_wand (q_tcmp (dNotIn rfl hr.units) (q_var 7) (q_var 5)) (q_wand1 (q_tcmp (dGt) (q_callP rfl (C__law_take.mono (by decide)) hr rfl (q_cons (q_var 1) (q_cons (q_int) (q_nil))) (lenS (lenS len0))) (q_int))))) (q_sone (q_drop (q_bm rfl (pe_bm PySem.F.plainAttrs_list PySem.F.slot_list_append PySem.F.type_list_append mkAppend (q_var 5) (q_cons (q_var 7) (q_nil)))))) (q_snil))))) (q_sone (q_drop (q_bm rfl (pe_bm PySem.F.plainAttrs_list PySem.F.slot_list_append PySem.F.type_list_append mkAppend (q_var 3) (q_cons (q_cb (pe_callTy (cTuple rfl) rfl T.n_tuple (by decide +kernel) (q_cons (q_var 5) (q_nil)))) (q_nil))))))))) (q_scons (q_asg (q_callP rfl (C__law_take.mono (by decide)) hr rfl (q_cons (q_var 1) (q_cons (q_int) (q_nil))) (lenS (lenS len0))) (q_gnm sc_law.nd)) (q_scons (q_asg (q_lc [("ways", 19)] rfl sc_law.nd (q_iseq rfl (q_tup (q_cons (q_int) (q_cons (q_int) (q_cons (q_int) (q_cons (q_int) (q_nil))))))) (blkOk_by (N := N_law) (sc := defScope s_law) (own := [("ways", 19)]) (by decide +kernel)) (fun _ _ _ _ _ => q_gnm sc_law.nd) (fun _ _ _ _ _ => q_tsn) (fun _ _ _ _ _ => q_tup (q_cons (q_var 2) (q_cons (q_var 19) (q_cons (q_str) (q_nil)))))) (q_gnm sc_law.nd)) (q_scons (q_asg (q_lc [("one", 20)] rfl sc_law.nd (q_iseq rfl (q_var 9)) (blkOk_by (N := N_law) (sc := defScope s_law) (own := [("one", 20)]) (by decide +kernel)) (fun _ _ _ _ _ => q_gnm sc_law.nd) (fun _ _ _ _ _ => q_tsn) (fun _ _ _ _ _ => q_if (q_tcmp (dNe rfl hr.units) (q_var 8) (q_int)) (q_cb (pe_callTy (cTuple rfl) rfl T.n_tuple (by decide +kernel) (q_cons (q_lc [("row", 5)] rfl sc_law.nd (q_iseq rfl (q_var 3)) (blkOk_by (by rfl)) (fun _ _ _ _ _ => q_gnm sc_law.nd) (fun _ _ _ _ _ => q_tsn) (fun _ _ _ _ _ => q_sl rfl (q_var 5) q_pno (q_ppart (q_ix (dIx rfl hr.units) (q_var 20) (q_int))))) (q_nil)))) (q_bin (dMul2 rfl) (q_tup (q_cons (q_tup (q_nil)) (q_nil))) (q_var 2)))) (q_gnm sc_law.nd)) (q_scons (q_setLc (ps_setLc (i := 11) (own := [("k", 6)]) rfl sc_law.nd rfl rfl (sw_true rfl rfl rfl (by decide +kernel)) (q_irng1 rfl T.n_range (q_cons (q_int) (q_nil))) (blkOk_by (N := N_law) (sc := defScope s_law) (own := [("k", 6)]) (by decide +kernel)) (fun _ _ _ _ _ => q_gnm sc_law.nd) (fun _ _ _ _ _ => q_tsn) (fun _ _ _ _ _ => q_makeP rfl C_Cache___init__ (hr.mono (by decide)) rfl (q_cons (q_ix (dIx rfl hr.units) (q_var 9) (q_var 6)) (q_cons (q_ix (dIx rfl hr.units) (q_var 10) (q_var 6)) (q_nil))) (lenS (lenS len0))))) (q_scons (q_setLc (ps_setLc (i := 12) (own := [("k", 6)]) rfl sc_law.nd rfl rfl (sw_true rfl rfl rfl (by decide +kernel)) (q_irng1 rfl T.n_range (q_cons (q_int) (q_nil))) (blkOk_by (N := N_law) (sc := defScope s_law) (own := [("k", 6)]) (by decide +kernel)) (fun _ _ _ _ _ => q_gnm sc_law.nd) (fun _ _ _ _ _ => q_tsn) (fun _ _ _ _ _ => q_if (q_tcmp (dEq rfl hr.units) (q_var 8) (q_int)) (q_callP rfl (C_of_cache.mono (by decide)) hr rfl (q_cons (q_ix (dIx rfl hr.units) (q_var 9) (q_var 6)) (q_cons (q_ix (dIx rfl hr.units) (q_var 10) (q_var 6)) (q_nil))) (lenS (lenS len0))) (q_if (q_tcmp (dEq rfl hr.units) (q_var 8) (q_int)) (q_callP0 rfl (C_nothing.mono (by decide)) hr rfl) (q_callP0 rfl (C_anything.mono (by decide)) hr rfl))))) (q_scons (q_asg (q_tup (q_cons (q_lc [("row", 5)] rfl sc_law.nd (q_iseq rfl (q_var 3)) (blkOk_by (N := N_law) (sc := defScope s_law) (own := [("row", 5)]) (by decide +kernel)) (fun _ _ _ _ _ => q_gnm sc_law.nd) (fun _ _ _ _ _ => q_tsn) (fun _ _ _ _ _ => q_if (q_tcmp (dEq rfl hr.units) (q_var 8) (q_int)) (q_lst (q_nil)) (q_cb (pe_callTy (cList rfl rfl) rfl T.n_list (by decide +kernel) (q_cons (q_var 5) (q_nil)))))) (q_cons (q_lst (q_cons (q_int) (q_cons (q_int) (q_cons (q_int) (q_cons (q_int) (q_nil)))))) (q_nil)))) (q_gtp rfl rfl (q_gcns (q_gnm sc_law.nd) (q_gcns (q_gnm sc_law.nd) (q_gnil))))) (q_scons (q_for PassesOwn.never rfl (q_irng1 rfl T.n_range (q_cons (q_int) (q_nil))) (q_gnm sc_law.nd) (q_scons (q_asg (q_callP rfl (C__law_take.mono (by decide)) hr rfl (q_cons (q_var 1) (q_cons (q_bin (dMul) (q_int) (q_var 2)) (q_nil))) (lenS (lenS len0))) (q_gnm sc_law.nd)) (q_scons (q_asg (q_bin (dMod) (q_cb (pe_callTy (cInt) rfl T.n_int (by decide +kernel) (q_cons (q_var 7) (q_nil)))) (q_var 2)) (q_gnm sc_law.nd)) (q_scons (q_for PassesOwn.never rfl (q_irng1 rfl T.n_range (q_cons (q_int) (q_nil))) (q_gnm sc_law.nd) (q_scons (q_asg (q_callP rfl (C__law_need.mono (by decide)) hr rfl (q_cons (q_ix (dIx rfl hr.units) (q_var 9) (q_var 6)) (q_cons (q_ix (dIx rfl hr.units) (q_var 11) (q_var 6)) (q_cons (q_ix (dIx rfl hr.units) (q_var 12) (q_var 6)) (q_cons (q_var 7) (q_nil))))) (lenS (lenS (lenS (lenS len0))))) (q_gtp rfl rfl (q_gcns (q_gnm sc_law.nd) (q_gcns (q_gnm sc_law.nd) (q_gcns (q_gix hr.units (q_var 12) (q_var 6)) (q_gnil)))))) (q_scons (q_asg (q_cmp (dIn rfl hr.units) (q_var 7) (q_sl rfl (q_ix (dIx rfl hr.units) (q_var 13) (q_var 4)) q_pno (q_ppart (q_bin (dAdd rfl) (q_var 6) (q_int))))) (q_gnm sc_law.nd)) (q_scons (q_sif (PW.pt (q_wor (q_tcmp (dNe rfl hr.units) (q_var 16) (q_var 18)) (q_wor1 (q_tcmp (dNotIn rfl hr.units) (q_var 16) (q_var 17))))) (q_sone (q_ret (q_bl))) (q_snil)) (q_sone (q_asg (q_bin (dAdd rfl) (q_ix (dIx rfl hr.units) (q_var 14) (q_var 6)) (q_cb (pe_callTy (cInt) rfl T.n_int (by decide +kernel) (q_cons (q_not rfl (q_var 16)) (q_nil))))) (q_gix hr.units (q_var 14) (q_var 6)))))))) (q_scons (q_asg (q_bin (dAdd rfl) (q_lst (q_cons (q_var 7) (q_nil))) (q_lc [("one", 20)] rfl sc_law.nd (q_iseq rfl (q_ix (dIx rfl hr.units) (q_var 13) (q_var 4))) (blkOk_by (N := N_law) (sc := defScope s_law) (own := [("one", 20)]) (by decide +kernel)) (fun _ _ _ _ _ => q_gnm sc_law.nd) (fun _ _ _ _ _ => q_ts1 (q_tcmp (dNe rfl hr.units) (q_var 20) (q_var 7))) (fun _ _ _ _ _ => q_var 20))) (q_gix hr.units (q_var 13) (q_var 4))) (q_sone (q_for PassesOwn.never rfl (q_irng1 rfl T.n_range (q_cons (q_int) (q_nil))) (q_gnm sc_law.nd) (q_scons (q_sif (PW.pt (q_wor (q_tcmp (dNe rfl hr.units) (q_methP0 rfl C_Cache_lines (hr.mono (by decide)) (q_ix (dIx rfl hr.units) (q_var 11) (q_var 6)) rfl) (q_cb (pe_callTy (cTuple rfl) rfl T.n_tuple (by decide +kernel) (q_cons (q_lc [("n", 21)] rfl sc_law.nd (q_irng1 rfl T.n_range (q_cons (q_var 2) (q_nil))) (blkOk_by (N := N_law) (sc := defScope s_law) (own := [("n", 21)]) (by decide +kernel)) (fun _ _ _ _ _ => q_gnm sc_law.nd) (fun _ _ _ _ _ => q_tsn) (fun _ _ _ _ _ => q_cb (pe_callTy (cTuple rfl) rfl T.n_tuple (by decide +kernel) (q_cons (q_sl rfl (q_ix (dIx rfl hr.units) (q_var 13) (q_var 21)) q_pno (q_ppart (q_bin (dAdd rfl) (q_var 6) (q_int)))) (q_nil))))) (q_nil))))) (q_wor1 (q_tcmp (dNe rfl hr.units) (q_ix (dIx rfl hr.units) (q_var 12) (q_var 6)) (q_callP rfl (C__law_cut.mono (by decide)) hr rfl (q_cons (q_ix (dIx rfl hr.units) (q_var 12) (q_int)) (q_cons (q_bin (dAdd rfl) (q_var 6) (q_int)) (q_nil))) (lenS (lenS len0))))))) (q_sone (q_ret (q_bl))) (q_snil)) (q_sone (q_sif (PW.pt (q_wor (q_tru rfl (q_cb (pe_callB (cAny rfl rfl (cr_any rfl)) rfl T.n_any (by decide +kernel) (q_cons (q_lc [("n", 21)] rfl sc_law.nd (q_irng1 rfl T.n_range (q_cons (q_var 6) (q_nil))) (blkOk_by (N := N_law) (sc := defScope s_law) (own := [("n", 21)]) (by decide +kernel)) (fun _ _ _ _ _ => q_gnm sc_law.nd) (fun _ _ _ _ _ => q_tsn) (fun _ _ _ _ _ => q_cmp (dLt) (q_ix (dIx rfl hr.units) (q_var 14) (q_var 21)) (q_ix (dIx rfl hr.units) (q_var 14) (q_var 6)))) (q_nil))))) (q_wor1 (PW.pt (q_wand (q_tcmp (dLt) (q_var 8) (q_int)) (q_wand1 (q_tcmp (dNe rfl hr.units) (q_ix (dIx rfl hr.units) (q_var 12) (q_var 6)) (q_callP rfl (C_of_cache.mono (by decide)) hr rfl (q_cons (q_ix (dIx rfl hr.units) (q_var 9) (q_var 6)) (q_cons (q_methP0 rfl C_Cache_lines (hr.mono (by decide)) (q_ix (dIx rfl hr.units) (q_var 11) (q_var 6)) rfl) (q_nil))) (lenS (lenS len0)))))))))) (q_sone (q_ret (q_bl))) (q_snil))))))))))) (q_sone (q_ret (q_bl)))))))))))))
end
theorem all_mk {l : PySem.W.OpenLaw} {w : World} {K : PySem.W.Frag} {h : Heap} {mg : Str → Option Value} {fa : Addr} (X : K.In h) (G : h.Ns mainGlobals mg) (hfa : mg "law" = some (.ref fa))
    {f_0 : Addr} {od0 an0 : Option Addr} {sl0 : Array (Option Value)} {oc0 kV0 dc0 pm0 cd0 ct0 : Value} {f_1 : Addr} {od1 an1 : Option Addr} {sl1 : Array (Option Value)} {oc1 kV1 dc1 pm1 cd1 ct1 : Value} {f_2 : Addr} {od2 an2 : Option Addr} {sl2 : Array (Option Value)} {oc2 kV2 dc2 pm2 cd2 ct2 : Value} {f_3 : Addr} {od3 an3 : Option Addr} {sl3 : Array (Option Value)} {oc3 kV3 dc3 pm3 cd3 ct3 : Value} {f_4 : Addr} {od4 an4 : Option Addr} {sl4 : Array (Option Value)} {oc4 kV4 dc4 pm4 cd4 ct4 : Value} {f_5 : Addr} {od5 an5 : Option Addr} {sl5 : Array (Option Value)} {oc5 kV5 dc5 pm5 cd5 ct5 : Value} {f_6 : Addr} {od6 an6 : Option Addr} {sl6 : Array (Option Value)} {oc6 kV6 dc6 pm6 cd6 ct6 : Value} {f_7 : Addr} {od7 an7 : Option Addr} {sl7 : Array (Option Value)} {oc7 kV7 dc7 pm7 cd7 ct7 : Value} {f_8 : Addr} {od8 an8 : Option Addr} {sl8 : Array (Option Value)} {oc8 kV8 dc8 pm8 cd8 ct8 : Value} {f_9 : Addr} {od9 an9 : Option Addr} {sl9 : Array (Option Value)} {oc9 kV9 dc9 pm9 cd9 ct9 : Value} {f_10 : Addr} {od10 an10 : Option Addr} {sl10 : Array (Option Value)} {oc10 kV10 dc10 pm10 cd10 ct10 : Value} {f_11 : Addr} {od11 an11 : Option Addr} {sl11 : Array (Option Value)} {oc11 kV11 dc11 pm11 cd11 ct11 : Value} {f_12 : Addr} {od12 an12 : Option Addr} {sl12 : Array (Option Value)} {oc12 kV12 dc12 pm12 cd12 ct12 : Value} {f_13 : Addr} {od13 an13 : Option Addr} {sl13 : Array (Option Value)} {oc13 kV13 dc13 pm13 cd13 ct13 : Value} {f_14 : Addr} {od14 an14 : Option Addr} {sl14 : Array (Option Value)} {oc14 kV14 dc14 pm14 cd14 ct14 : Value} {f_15 : Addr} {od15 an15 : Option Addr} {sl15 : Array (Option Value)} {oc15 kV15 dc15 pm15 cd15 ct15 : Value} {f_16 : Addr} {od16 an16 : Option Addr} {sl16 : Array (Option Value)} {oc16 kV16 dc16 pm16 cd16 ct16 : Value} {f_17 : Addr} {od17 an17 : Option Addr} {sl17 : Array (Option Value)} {oc17 kV17 dc17 pm17 cd17 ct17 : Value} {f_18 : Addr} {od18 an18 : Option Addr} {sl18 : Array (Option Value)} {oc18 kV18 dc18 pm18 cd18 ct18 : Value} {cls_Cache : Addr}
    (aC_Cache : PySem.W.nsIn K mainGlobals "Cache" = some (some (.ref cls_Cache)))
    (pg_Cache : PySem.W.plainGet K cls_Cache Str.empty = true)
    (hd_Cache : PySem.W.hasDictIn K cls_Cache = true)
    (po_Cache : PySem.W.plainOver K cls_Cache = true)
    (sa_Cache : PySem.W.findIn K (.ref cls_Cache) "__setattr__" = some (some (.builtin "object.__setattr__")))
    (mk_Cache : PySem.W.makesIn K cls_Cache = true)
    (kc_Cache : PySem.W.keepIn K (.ref cls_Cache) = true)
    (nF_Cache_policy : PySem.W.findIn K (.ref cls_Cache) "policy" = some none)
    (nF_Cache_rows : PySem.W.findIn K (.ref cls_Cache) "rows" = some none)
    (nF_Cache_sets : PySem.W.findIn K (.ref cls_Cache) "sets" = some none)
    (nF_Cache_ways : PySem.W.findIn K (.ref cls_Cache) "ways" = some none)
    (a0 : PySem.W.nsIn K mainGlobals "of_cache" = some (some (.ref f_0)))
    (l0 : K.lookup f_0 = some ⟨oc0, od0, .func (PySem.W.fnOf "of_cache" "of_cache" (defArgs s_of_cache) (defBody s_of_cache) (defScope s_of_cache) .none kV0 dc0 pm0 an0 cd0 ct0), sl0⟩)
    (c0 : PySem.W.codeIn K cd0 "of_cache" = true)
    (k0 : PySem.W.keepIn K (.ref f_0) = true)
    (a1 : PySem.W.findIn K (.ref cls_Cache) "lines" = some (some (.ref f_1)))
    (i1 : PySem.W.isFn K (.ref f_1) = true)
    (l1 : K.lookup f_1 = some ⟨oc1, od1, .func (PySem.W.fnOf "lines" "Cache.lines" (defArgs s_Cache_lines) (defBody s_Cache_lines) (defScope s_Cache_lines) .none kV1 dc1 pm1 an1 cd1 ct1), sl1⟩)
    (c1 : PySem.W.codeIn K cd1 "Cache.lines" = true)
    (k1 : PySem.W.keepIn K (.ref f_1) = true)
    (a2 : PySem.W.nsIn K mainGlobals "_law_cut" = some (some (.ref f_2)))
    (l2 : K.lookup f_2 = some ⟨oc2, od2, .func (PySem.W.fnOf "_law_cut" "_law_cut" (defArgs s__law_cut) (defBody s__law_cut) (defScope s__law_cut) .none kV2 dc2 pm2 an2 cd2 ct2), sl2⟩)
    (c2 : PySem.W.codeIn K cd2 "_law_cut" = true)
    (k2 : PySem.W.keepIn K (.ref f_2) = true)
    (a3 : PySem.W.nsIn K mainGlobals "aged" = some (some (.ref f_3)))
    (l3 : K.lookup f_3 = some ⟨oc3, od3, .func (PySem.W.fnOf "aged" "aged" (defArgs s_aged) (defBody s_aged) (defScope s_aged) .none kV3 dc3 pm3 an3 cd3 ct3), sl3⟩)
    (c3 : PySem.W.codeIn K cd3 "aged" = true)
    (k3 : PySem.W.keepIn K (.ref f_3) = true)
    (a4 : PySem.W.nsIn K mainGlobals "ways_sure" = some (some (.ref f_4)))
    (l4 : K.lookup f_4 = some ⟨oc4, od4, .func (PySem.W.fnOf "ways_sure" "ways_sure" (defArgs s_ways_sure) (defBody s_ways_sure) (defScope s_ways_sure) .none kV4 dc4 pm4 an4 cd4 ct4), sl4⟩)
    (c4 : PySem.W.codeIn K cd4 "ways_sure" = true)
    (k4 : PySem.W.keepIn K (.ref f_4) = true)
    (a5 : PySem.W.nsIn K mainGlobals "used" = some (some (.ref f_5)))
    (l5 : K.lookup f_5 = some ⟨oc5, od5, .func (PySem.W.fnOf "used" "used" (defArgs s_used) (defBody s_used) (defScope s_used) .none kV5 dc5 pm5 an5 cd5 ct5), sl5⟩)
    (c5 : PySem.W.codeIn K cd5 "used" = true)
    (k5 : PySem.W.keepIn K (.ref f_5) = true)
    (a6 : PySem.W.nsIn K mainGlobals "filled" = some (some (.ref f_6)))
    (l6 : K.lookup f_6 = some ⟨oc6, od6, .func (PySem.W.fnOf "filled" "filled" (defArgs s_filled) (defBody s_filled) (defScope s_filled) .none kV6 dc6 pm6 an6 cd6 ct6), sl6⟩)
    (c6 : PySem.W.codeIn K cd6 "filled" = true)
    (k6 : PySem.W.keepIn K (.ref f_6) = true)
    (a7 : PySem.W.nsIn K mainGlobals "missed" = some (some (.ref f_7)))
    (l7 : K.lookup f_7 = some ⟨oc7, od7, .func (PySem.W.fnOf "missed" "missed" (defArgs s_missed) (defBody s_missed) (defScope s_missed) .none kV7 dc7 pm7 an7 cd7 ct7), sl7⟩)
    (c7 : PySem.W.codeIn K cd7 "missed" = true)
    (k7 : PySem.W.keepIn K (.ref f_7) = true)
    (a8 : PySem.W.findIn K (.ref cls_Cache) "fill" = some (some (.ref f_8)))
    (i8 : PySem.W.isFn K (.ref f_8) = true)
    (l8 : K.lookup f_8 = some ⟨oc8, od8, .func (PySem.W.fnOf "fill" "Cache.fill" (defArgs s_Cache_fill) (defBody s_Cache_fill) (defScope s_Cache_fill) .none kV8 dc8 pm8 an8 cd8 ct8), sl8⟩)
    (c8 : PySem.W.codeIn K cd8 "Cache.fill" = true)
    (k8 : PySem.W.keepIn K (.ref f_8) = true)
    (a9 : PySem.W.nsIn K mainGlobals "touched" = some (some (.ref f_9)))
    (l9 : K.lookup f_9 = some ⟨oc9, od9, .func (PySem.W.fnOf "touched" "touched" (defArgs s_touched) (defBody s_touched) (defScope s_touched) .none kV9 dc9 pm9 an9 cd9 ct9), sl9⟩)
    (c9 : PySem.W.codeIn K cd9 "touched" = true)
    (k9 : PySem.W.keepIn K (.ref f_9) = true)
    (a10 : PySem.W.nsIn K mainGlobals "verdicts" = some (some (.ref f_10)))
    (l10 : K.lookup f_10 = some ⟨oc10, od10, .func (PySem.W.fnOf "verdicts" "verdicts" (defArgs s_verdicts) (defBody s_verdicts) (defScope s_verdicts) .none kV10 dc10 pm10 an10 cd10 ct10), sl10⟩)
    (c10 : PySem.W.codeIn K cd10 "verdicts" = true)
    (k10 : PySem.W.keepIn K (.ref f_10) = true)
    (a11 : PySem.W.findIn K (.ref cls_Cache) "has" = some (some (.ref f_11)))
    (i11 : PySem.W.isFn K (.ref f_11) = true)
    (l11 : K.lookup f_11 = some ⟨oc11, od11, .func (PySem.W.fnOf "has" "Cache.has" (defArgs s_Cache_has) (defBody s_Cache_has) (defScope s_Cache_has) .none kV11 dc11 pm11 an11 cd11 ct11), sl11⟩)
    (c11 : PySem.W.codeIn K cd11 "Cache.has" = true)
    (k11 : PySem.W.keepIn K (.ref f_11) = true)
    (a12 : PySem.W.nsIn K mainGlobals "_law_need" = some (some (.ref f_12)))
    (l12 : K.lookup f_12 = some ⟨oc12, od12, .func (PySem.W.fnOf "_law_need" "_law_need" (defArgs s__law_need) (defBody s__law_need) (defScope s__law_need) .none kV12 dc12 pm12 an12 cd12 ct12), sl12⟩)
    (c12 : PySem.W.codeIn K cd12 "_law_need" = true)
    (k12 : PySem.W.keepIn K (.ref f_12) = true)
    (a13 : PySem.W.nsIn K mainGlobals "_law_take" = some (some (.ref f_13)))
    (l13 : K.lookup f_13 = some ⟨oc13, od13, .func (PySem.W.fnOf "_law_take" "_law_take" (defArgs s__law_take) (defBody s__law_take) (defScope s__law_take) .none kV13 dc13 pm13 an13 cd13 ct13), sl13⟩)
    (c13 : PySem.W.codeIn K cd13 "_law_take" = true)
    (k13 : PySem.W.keepIn K (.ref f_13) = true)
    (a14 : PySem.W.nsIn K mainGlobals "nothing" = some (some (.ref f_14)))
    (l14 : K.lookup f_14 = some ⟨oc14, od14, .func (PySem.W.fnOf "nothing" "nothing" (defArgs s_nothing) (defBody s_nothing) (defScope s_nothing) .none kV14 dc14 pm14 an14 cd14 ct14), sl14⟩)
    (c14 : PySem.W.codeIn K cd14 "nothing" = true)
    (k14 : PySem.W.keepIn K (.ref f_14) = true)
    (a15 : PySem.W.nsIn K mainGlobals "anything" = some (some (.ref f_15)))
    (l15 : K.lookup f_15 = some ⟨oc15, od15, .func (PySem.W.fnOf "anything" "anything" (defArgs s_anything) (defBody s_anything) (defScope s_anything) .none kV15 dc15 pm15 an15 cd15 ct15), sl15⟩)
    (c15 : PySem.W.codeIn K cd15 "anything" = true)
    (k15 : PySem.W.keepIn K (.ref f_15) = true)
    (a16 : PySem.W.findIn K (.ref cls_Cache) "__init__" = some (some (.ref f_16)))
    (i16 : PySem.W.isFn K (.ref f_16) = true)
    (l16 : K.lookup f_16 = some ⟨oc16, od16, .func (PySem.W.fnOf "__init__" "Cache.__init__" (defArgs s_Cache___init__) (defBody s_Cache___init__) (defScope s_Cache___init__) .none kV16 dc16 pm16 an16 cd16 ct16), sl16⟩)
    (c16 : PySem.W.codeIn K cd16 "Cache.__init__" = true)
    (k16 : PySem.W.keepIn K (.ref f_16) = true)
    (a17 : PySem.W.nsIn K mainGlobals "_law_tape" = some (some (.ref f_17)))
    (l17 : K.lookup f_17 = some ⟨oc17, od17, .func (PySem.W.fnOf "_law_tape" "_law_tape" (defArgs s__law_tape) (defBody s__law_tape) (defScope s__law_tape) .none kV17 dc17 pm17 an17 cd17 ct17), sl17⟩)
    (c17 : PySem.W.codeIn K cd17 "_law_tape" = true)
    (k17 : PySem.W.keepIn K (.ref f_17) = true)
    (a18 : PySem.W.nsIn K mainGlobals "law" = some (some (.ref f_18)))
    (l18 : K.lookup f_18 = some ⟨oc18, od18, .func (PySem.W.fnOf "law" "law" (defArgs s_law) (defBody s_law) (defScope s_law) .none kV18 dc18 pm18 an18 cd18 ct18), sl18⟩)
    (c18 : PySem.W.codeIn K cd18 "law" = true)
    (k18 : PySem.W.keepIn K (.ref f_18) = true)
    (z_abs : PySem.W.nsIn K mainGlobals "abs" = some none)
    (z_any : PySem.W.nsIn K mainGlobals "any" = some none)
    (z_dict : PySem.W.nsIn K mainGlobals "dict" = some none)
    (z_enumerate : PySem.W.nsIn K mainGlobals "enumerate" = some none)
    (z_int : PySem.W.nsIn K mainGlobals "int" = some none)
    (z_len : PySem.W.nsIn K mainGlobals "len" = some none)
    (z_list : PySem.W.nsIn K mainGlobals "list" = some none)
    (z_range : PySem.W.nsIn K mainGlobals "range" = some none)
    (z_sorted : PySem.W.nsIn K mainGlobals "sorted" = some none)
    (z_tuple : PySem.W.nsIn K mainGlobals "tuple" = some none)
    : ∃ fd : FuncData, (∀ (s : Shared) (v : Value), BindsTo s fd ⟨[v], []⟩ [("script", v)]) ∧ ∀ base : Heap, K.In base → base.Ns mainGlobals mg → FnOk l.prog w K mg base CX0 5 fa fd ["script"] (spF ⟨K, ctK K⟩ 1 f_law) := by
  have e := hfa.symm.trans (PySem.W.mg_of X G a18)
  cases e
  have eC_Cache : ctK K "Cache" = cls_Cache := ctK_of aC_Cache
  have T : Txt ⟨K, ctK K⟩ mg := ⟨PySem.W.mg_none_of X G z_abs, PySem.W.mg_none_of X G z_any, PySem.W.mg_none_of X G z_dict, PySem.W.mg_none_of X G z_enumerate, PySem.W.mg_none_of X G z_int, PySem.W.mg_none_of X G z_len, PySem.W.mg_none_of X G z_list, PySem.W.mg_none_of X G z_range, PySem.W.mg_none_of X G z_sorted, PySem.W.mg_none_of X G z_tuple, (by intro k hk; simp only [List.mem_cons, List.not_mem_nil, or_false] at hk; subst hk; show Cls K (ctK K "Cache"); rw [eC_Cache]; exact ⟨pg_Cache, hd_Cache, po_Cache, sa_Cache⟩), (by intro k hk; simp only [List.mem_cons, List.not_mem_nil, or_false] at hk; subst hk; show NoAttr K (ctK K "Cache") "policy"; rw [eC_Cache]; exact nF_Cache_policy), (by intro k hk; simp only [List.mem_cons, List.not_mem_nil, or_false] at hk; subst hk; show NoAttr K (ctK K "Cache") "rows"; rw [eC_Cache]; exact nF_Cache_rows), (by intro k hk; simp only [List.mem_cons, List.not_mem_nil, or_false] at hk; subst hk; show NoAttr K (ctK K "Cache") "sets"; rw [eC_Cache]; exact nF_Cache_sets), (by intro k hk; simp only [List.mem_cons, List.not_mem_nil, or_false] at hk; subst hk; show NoAttr K (ctK K "Cache") "ways"; rw [eC_Cache]; exact nF_Cache_ways)⟩
  have F0 := fun_mk (st := s_of_cache) l0 c0 k0
  have B0 := F0.binds (ps := ["told", "rows"]) fun _ _ _ _ _ _ us hl => match us, hl with | [_, _], _ => rfl
  have F1 := fun_mk (st := s_Cache_lines) l1 c1 k1
  have B1 := F1.binds (ps := ["self"]) fun _ _ _ _ _ _ us hl => match us, hl with | [_], _ => rfl
  have F2 := fun_mk (st := s__law_cut) l2 c2 k2
  have B2 := F2.binds (ps := ["known", "ways"]) fun _ _ _ _ _ _ us hl => match us, hl with | [_, _], _ => rfl
  have F3 := fun_mk (st := s_aged) l3 c3 k3
  have B3 := F3.binds (ps := ["told", "may", "line"]) fun _ _ _ _ _ _ us hl => match us, hl with | [_, _, _], _ => rfl
  have F4 := fun_mk (st := s_ways_sure) l4 c4 k4
  have B4 := F4.binds (ps := ["told"]) fun _ _ _ _ _ _ us hl => match us, hl with | [_], _ => rfl
  have F5 := fun_mk (st := s_used) l5 c5 k5
  have B5 := F5.binds (ps := ["told", "known", "line"]) fun _ _ _ _ _ _ us hl => match us, hl with | [_, _, _], _ => rfl
  have F6 := fun_mk (st := s_filled) l6 c6 k6
  have B6 := F6.binds (ps := ["told", "known", "line"]) fun _ _ _ _ _ _ us hl => match us, hl with | [_, _, _], _ => rfl
  have F7 := fun_mk (st := s_missed) l7 c7 k7
  have B7 := F7.binds (ps := ["known", "line"]) fun _ _ _ _ _ _ us hl => match us, hl with | [_, _], _ => rfl
  have F8 := fun_mk (st := s_Cache_fill) l8 c8 k8
  have B8 := F8.binds (ps := ["self", "line"]) fun _ _ _ _ _ _ us hl => match us, hl with | [_, _], _ => rfl
  have F9 := fun_mk (st := s_touched) l9 c9 k9
  have B9 := F9.binds (ps := ["told", "known", "line"]) fun _ _ _ _ _ _ us hl => match us, hl with | [_, _, _], _ => rfl
  have F10 := fun_mk (st := s_verdicts) l10 c10 k10
  have B10 := F10.binds (ps := ["known", "line"]) fun _ _ _ _ _ _ us hl => match us, hl with | [_, _], _ => rfl
  have F11 := fun_mk (st := s_Cache_has) l11 c11 k11
  have B11 := F11.binds (ps := ["self", "line"]) fun _ _ _ _ _ _ us hl => match us, hl with | [_, _], _ => rfl
  have F12 := fun_mk (st := s__law_need) l12 c12 k12
  have B12 := F12.binds (ps := ["told", "cache", "known", "line"]) fun _ _ _ _ _ _ us hl => match us, hl with | [_, _, _, _], _ => rfl
  have F13 := fun_mk (st := s__law_take) l13 c13 k13
  have B13 := F13.binds (ps := ["tape", "many"]) fun _ _ _ _ _ _ us hl => match us, hl with | [_, _], _ => rfl
  have F14 := fun_mk (st := s_nothing) l14 c14 k14
  have B14 := F14.binds (ps := []) fun _ _ _ _ _ _ us hl => match us, hl with | [], _ => rfl
  have F15 := fun_mk (st := s_anything) l15 c15 k15
  have B15 := F15.binds (ps := []) fun _ _ _ _ _ _ us hl => match us, hl with | [], _ => rfl
  have F16 := fun_mk (st := s_Cache___init__) l16 c16 k16
  have B16 := F16.binds (ps := ["self", "told", "lines"]) fun _ _ _ _ _ _ us hl => match us, hl with | [_, _, _], _ => rfl
  have F17 := fun_mk (st := s__law_tape) l17 c17 k17
  have B17 := F17.binds (ps := ["script"]) fun _ _ _ _ _ _ us hl => match us, hl with | [_], _ => rfl
  have F18 := fun_mk (st := s_law) l18 c18 k18
  refine ⟨PySem.W.fnOf "law" "law" (defArgs s_law) (defBody s_law) (defScope s_law) .none kV18 dc18 pm18 an18 cd18 ct18, fun s v => .of_eq rfl, fun base _ _ => ?_⟩
  have C_of_cache : Fp ⟨K, ctK K⟩ l.prog w mg base 1 "of_cache" ["told", "rows"] f_of_cache := ⟨_, _, d_of_cache (c := ⟨K, ctK K⟩) F0 T , PySem.W.mg_of X G a0, k0, B0⟩
  have C_Cache_lines : Mp ⟨K, ctK K⟩ l.prog w mg base 1 "Cache" "lines" ["self"] f_Cache_lines := ⟨_, _, d_Cache_lines (c := ⟨K, ctK K⟩) F1 T , (by show Meth K (ctK K "Cache") "lines" _; rw [eC_Cache]; exact ⟨a1, i1, k1⟩), B1, (by show Cls K (ctK K "Cache"); rw [eC_Cache]; exact ⟨pg_Cache, hd_Cache, po_Cache, sa_Cache⟩)⟩
  have C__law_cut : Fp ⟨K, ctK K⟩ l.prog w mg base 1 "_law_cut" ["known", "ways"] f__law_cut := ⟨_, _, d__law_cut (c := ⟨K, ctK K⟩) F2 T , PySem.W.mg_of X G a2, k2, B2⟩
  have C_aged : Fp ⟨K, ctK K⟩ l.prog w mg base 1 "aged" ["told", "may", "line"] f_aged := ⟨_, _, d_aged (c := ⟨K, ctK K⟩) F3 T , PySem.W.mg_of X G a3, k3, B3⟩
  have C_ways_sure : Fp ⟨K, ctK K⟩ l.prog w mg base 1 "ways_sure" ["told"] f_ways_sure := ⟨_, _, d_ways_sure (c := ⟨K, ctK K⟩) F4 T , PySem.W.mg_of X G a4, k4, B4⟩
  have C_used : Fp ⟨K, ctK K⟩ l.prog w mg base 2 "used" ["told", "known", "line"] f_used := ⟨_, _, d_used (c := ⟨K, ctK K⟩) F5 T C_aged C_ways_sure, PySem.W.mg_of X G a5, k5, B5⟩
  have C_filled : Fp ⟨K, ctK K⟩ l.prog w mg base 3 "filled" ["told", "known", "line"] f_filled := ⟨_, _, d_filled (c := ⟨K, ctK K⟩) F6 T C_used, PySem.W.mg_of X G a6, k6, B6⟩
  have C_missed : Fp ⟨K, ctK K⟩ l.prog w mg base 1 "missed" ["known", "line"] f_missed := ⟨_, _, d_missed (c := ⟨K, ctK K⟩) F7 T , PySem.W.mg_of X G a7, k7, B7⟩
  have C_Cache_fill : Mp ⟨K, ctK K⟩ l.prog w mg base 1 "Cache" "fill" ["self", "line"] f_Cache_fill := ⟨_, _, d_Cache_fill (c := ⟨K, ctK K⟩) F8 T , (by show Meth K (ctK K "Cache") "fill" _; rw [eC_Cache]; exact ⟨a8, i8, k8⟩), B8, (by show Cls K (ctK K "Cache"); rw [eC_Cache]; exact ⟨pg_Cache, hd_Cache, po_Cache, sa_Cache⟩)⟩
  have C_touched : Fp ⟨K, ctK K⟩ l.prog w mg base 3 "touched" ["told", "known", "line"] f_touched := ⟨_, _, d_touched (c := ⟨K, ctK K⟩) F9 T C_used, PySem.W.mg_of X G a9, k9, B9⟩
  have C_verdicts : Fp ⟨K, ctK K⟩ l.prog w mg base 1 "verdicts" ["known", "line"] f_verdicts := ⟨_, _, d_verdicts (c := ⟨K, ctK K⟩) F10 T , PySem.W.mg_of X G a10, k10, B10⟩
  have C_Cache_has : Mp ⟨K, ctK K⟩ l.prog w mg base 1 "Cache" "has" ["self", "line"] f_Cache_has := ⟨_, _, d_Cache_has (c := ⟨K, ctK K⟩) F11 T , (by show Meth K (ctK K "Cache") "has" _; rw [eC_Cache]; exact ⟨a11, i11, k11⟩), B11, (by show Cls K (ctK K "Cache"); rw [eC_Cache]; exact ⟨pg_Cache, hd_Cache, po_Cache, sa_Cache⟩)⟩
  have C__law_need : Fp ⟨K, ctK K⟩ l.prog w mg base 4 "_law_need" ["told", "cache", "known", "line"] f__law_need := ⟨_, _, d__law_need (c := ⟨K, ctK K⟩) F12 T C_filled C_missed C_Cache_fill C_touched C_verdicts C_Cache_has, PySem.W.mg_of X G a12, k12, B12⟩
  have C__law_take : Fp ⟨K, ctK K⟩ l.prog w mg base 1 "_law_take" ["tape", "many"] f__law_take := ⟨_, _, d__law_take (c := ⟨K, ctK K⟩) F13 T , PySem.W.mg_of X G a13, k13, B13⟩
  have C_nothing : Fp ⟨K, ctK K⟩ l.prog w mg base 1 "nothing" [] f_nothing := ⟨_, _, d_nothing (c := ⟨K, ctK K⟩) F14 T , PySem.W.mg_of X G a14, k14, B14⟩
  have C_anything : Fp ⟨K, ctK K⟩ l.prog w mg base 1 "anything" [] f_anything := ⟨_, _, d_anything (c := ⟨K, ctK K⟩) F15 T , PySem.W.mg_of X G a15, k15, B15⟩
  have C_Cache___init__ : Ip ⟨K, ctK K⟩ l.prog w mg base 1 "Cache" ["self", "told", "lines"] f_Cache___init__ := ⟨_, _, d_Cache___init__ (c := ⟨K, ctK K⟩) F16 T , (by show mg "Cache" = some (.ref (ctK K "Cache")); rw [eC_Cache]; exact PySem.W.mg_of X G aC_Cache), (by show Mk K (ctK K "Cache") _; rw [eC_Cache]; exact ⟨mk_Cache, a16, i16, kc_Cache⟩), B16⟩
  have C__law_tape : Fp ⟨K, ctK K⟩ l.prog w mg base 1 "_law_tape" ["script"] f__law_tape := ⟨_, _, d__law_tape (c := ⟨K, ctK K⟩) F17 T , PySem.W.mg_of X G a17, k17, B17⟩
  exact d_law (c := ⟨K, ctK K⟩) F18 T C_of_cache C_Cache_lines C__law_cut C__law_need C__law_take C_nothing C_anything C_Cache___init__ C__law_tape
end K51
/-! M51: the plain law of k51: what is known of lru caches is told by the recency lists. -/
namespace M51
open FL
abbrev P := Int × Int
def prw (w : Nat) (r : List Int) : List P := (r.take w).mapIdx fun i l => (l, (i : Int))
def prs (w : Nat) (rows : List (List Int)) : List P := rows.flatMap (prw w)
/-- what is known exactly of the first w of each row -/
def OR (w : Nat) (rows : List (List Int)) : List P := sortP (prs w rows)
structure Good (s : Nat) (rows : List (List Int)) : Prop where
  len : rows.length = s
  nd : ∀ (i : Nat) (r : List Int), rows[i]? = some r → r.Nodup
  md : ∀ (i : Nat) (r : List Int) (l : Int), rows[i]? = some r → l ∈ r → l % (s : Int) = (i : Int)
def ix (s : Nat) (l : Int) : Nat := (l % (s : Int)).toNat
def row (s : Nat) (rows : List (List Int)) (l : Int) : List Int := rows.getD (ix s l) []
def front (l : Int) (r : List Int) : List Int := l :: r.filter fun x => decide (x ≠ l)
def touch (s : Nat) (l : Int) (rows : List (List Int)) : List (List Int) := rows.set (ix s l) (front l (row s rows l))
theorem ix_lt {s : Nat} (hs : 0 < s) (l : Int) : ix s l < s := by
  unfold ix
  have a := Int.emod_nonneg l (b := (s : Int)) (by omega)
  have b := Int.emod_lt_of_pos l (b := (s : Int)) (by omega)
  omega
theorem ix_eq {s : Nat} (hs : 0 < s) (l : Int) : ((ix s l : Nat) : Int) = l % (s : Int) := by
  unfold ix
  have a := Int.emod_nonneg l (b := (s : Int)) (by omega)
  omega
theorem Good.row {s : Nat} {rows : List (List Int)} (g : Good s rows) (hs : 0 < s) (l : Int) : rows[ix s l]? = some (M51.row s rows l) := by
  unfold M51.row
  rw [List.getD_eq_getElem?_getD, List.getElem?_eq_getElem (by rw [g.len]; exact ix_lt hs l)]
  rfl
theorem front_nodup {l : Int} {r : List Int} (h : r.Nodup) : (front l r).Nodup := by
  unfold front
  rw [List.nodup_cons]
  exact ⟨by simp, h.filter _⟩
theorem Good.touch {s : Nat} {rows : List (List Int)} (g : Good s rows) (hs : 0 < s) (l : Int) : Good s (touch s l rows) := by
  refine ⟨by unfold M51.touch; rw [List.length_set, g.len], fun i r h => ?_, fun i r x h hx => ?_⟩
  · unfold M51.touch at h
    rw [List.getElem?_set] at h
    split at h
    · split at h
      · cases h
        exact front_nodup (g.nd _ _ (g.row hs l))
      · cases h
    · exact g.nd i r h
  · unfold M51.touch at h
    rw [List.getElem?_set] at h
    split at h
    · rename_i e
      split at h
      · cases h
        subst e
        rcases List.mem_cons.mp hx with rfl | hx
        · exact (ix_eq hs _).symm
        · exact g.md _ _ _ (g.row hs l) (List.mem_filter.mp hx).1
      · cases h
    · exact g.md i r x h hx
theorem mem_prw {w : Nat} {r : List Int} {l a : Int} : (l, a) ∈ prw w r ↔ ∃ n : Nat, a = (n : Int) ∧ n < w ∧ r[n]? = some l := by
  unfold prw
  rw [List.mem_iff_getElem?]
  refine ⟨fun ⟨n, h⟩ => ?_, fun ⟨n, e, hn, h⟩ => ⟨n, ?_⟩⟩
  · rw [List.getElem?_mapIdx] at h
    obtain ⟨x, h1, h2⟩ := Option.map_eq_some_iff.mp h
    injection h2 with e1 e2
    subst e1
    rw [List.getElem?_take] at h1
    split at h1
    · exact ⟨n, e2.symm, by assumption, h1⟩
    · cases h1
  · rw [List.getElem?_mapIdx, List.getElem?_take, if_pos hn, h, e]
    rfl
theorem Good.mem {s : Nat} {rows : List (List Int)} (g : Good s rows) (hs : 0 < s) {w : Nat} {l a : Int} : (l, a) ∈ prs w rows ↔ ∃ n : Nat, a = (n : Int) ∧ n < w ∧ (M51.row s rows l)[n]? = some l := by
  unfold prs
  rw [List.mem_flatMap]
  refine ⟨fun ⟨r, hr, h⟩ => ?_, fun h => ⟨_, List.mem_iff_getElem?.mpr ⟨_, g.row hs l⟩, mem_prw.mpr h⟩⟩
  obtain ⟨i, hi⟩ := List.mem_iff_getElem?.mp hr
  obtain ⟨n, e, hn, hl⟩ := mem_prw.mp h
  have ei := g.md i r l hi (List.mem_iff_getElem?.mpr ⟨n, hl⟩)
  have e2 : ix s l = i := by
    unfold ix
    rw [ei]
    rfl
  have e3 := g.row hs l
  rw [e2, hi] at e3
  cases e3
  exact ⟨n, e, hn, hl⟩
theorem prw_keys (w : Nat) (r : List Int) : (prw w r).map (·.1) = r.take w := by
  unfold prw
  apply List.ext_getElem?
  intro i
  rw [List.getElem?_map, List.getElem?_mapIdx]
  cases (r.take w)[i]? <;> rfl
theorem Good.keys {s : Nat} {rows : List (List Int)} (g : Good s rows) (w : Nat) : ((prs w rows).map (·.1)).Nodup := by
  unfold prs
  rw [List.map_flatMap]
  simp only [prw_keys]
  rw [List.Nodup, List.pairwise_flatMap]
  refine ⟨fun r hr => ?_, ?_⟩
  · obtain ⟨i, hi⟩ := List.mem_iff_getElem?.mp hr
    exact (g.nd i r hi).sublist (List.take_sublist _ _)
  · rw [List.pairwise_iff_getElem]
    intro i j hi hj hij x hx y hy e
    subst e
    have a := g.md i _ x (List.getElem?_eq_getElem hi) (List.mem_of_mem_take hx)
    have b := g.md j _ x (List.getElem?_eq_getElem hj) (List.mem_of_mem_take hy)
    omega
theorem nodup_of_keys {l : List P} (h : (l.map (·.1)).Nodup) : l.Nodup := by
  rw [List.Nodup, List.pairwise_map] at h
  exact h.imp fun hne e => hne (by rw [e])
theorem OR_mem {w : Nat} {rows : List (List Int)} {p : P} : p ∈ OR w rows ↔ p ∈ prs w rows := (sortP_perm _).mem_iff
theorem OR_keys {s : Nat} {rows : List (List Int)} (g : Good s rows) (w : Nat) : ((OR w rows).map (·.1)).Nodup := ((sortP_perm (prs w rows)).map _).nodup_iff.mpr (g.keys w)
theorem sort_eq {l m : List P} (hl : l.Nodup) (hm : m.Nodup) (h : ∀ p, p ∈ l ↔ p ∈ m) : sortP l = sortP m :=
  sortedP_uniq (((sortP_perm l).trans ((List.perm_ext_iff_of_nodup hl hm).mpr h)).trans (sortP_perm m).symm) (sortP_sorted _) (sortP_sorted _)
theorem filt_A {l x : Int} (hx : x ≠ l) : ∀ {r : List Int} {n : Nat}, (∀ j, j < n → r[j]? ≠ some l) → r[n]? = some x → (r.filter fun y => decide (y ≠ l))[n]? = some x
  | [], n, _, h => by simp at h
  | y :: t, 0, _, h => by
    have e : y = x := by simpa using h
    subst e
    rw [List.filter_cons, if_pos (by simpa using hx)]
    rfl
  | y :: t, n + 1, a, h => by
    have hy : y ≠ l := fun e => a 0 (Nat.succ_pos n) (by rw [e]; rfl)
    rw [List.filter_cons, if_pos (by simpa using hy)]
    exact filt_A hx (r := t) (n := n) (fun j hj e => a (j + 1) (by omega) (by simpa using e)) (by simpa using h)
theorem filt_B {l x : Int} (hx : x ≠ l) : ∀ {r : List Int} {n j : Nat}, r.Nodup → j < n → r[j]? = some l → r[n]? = some x → (r.filter fun y => decide (y ≠ l))[n - 1]? = some x
  | [], n, j, _, _, h, _ => by simp at h
  | y :: t, n, 0, nd, hj, hl, h => by
    have e : y = l := by simpa using hl
    subst e
    cases n with
    | zero => omega
    | succ m =>
      rw [List.filter_cons, if_neg (by simp)]
      rw [List.nodup_cons] at nd
      exact filt_A hx (fun j _ e => nd.1 (List.mem_iff_getElem?.mpr ⟨j, e⟩)) (by simpa using h)
  | y :: t, n, j + 1, nd, hj, hl, h => by
    cases n with
    | zero => omega
    | succ m =>
      rw [List.nodup_cons] at nd
      have hl' : t[j]? = some l := by simpa using hl
      have hy : y ≠ l := fun e => nd.1 (by rw [e]; exact List.mem_iff_getElem?.mpr ⟨j, hl'⟩)
      rw [List.filter_cons, if_pos (by simpa using hy)]
      have z := filt_B hx (r := t) (n := m) (j := j) nd.2 (by omega) hl' (by simpa using h)
      cases m with
      | zero => omega
      | succ k => simpa using z
def lkP (l : List P) (x : Int) : Option Int := (l.find? fun p => decide (p.1 = x)).map (·.2)
theorem lkP_some {l : List P} (h : (l.map (·.1)).Nodup) {x a : Int} : lkP l x = some a ↔ (x, a) ∈ l := by
  induction l with
  | nil => simp [lkP]
  | cons p l ih =>
    rw [List.map_cons, List.nodup_cons] at h
    unfold lkP
    rw [List.find?_cons]
    by_cases e : p.1 = x
    · rw [decide_eq_true e]
      simp only [Option.map_some, Option.some.injEq, List.mem_cons]
      refine ⟨fun z => .inl (Prod.ext e.symm z.symm), fun z => ?_⟩
      rcases z with z | z
      · rw [← z]
      · exact absurd (List.mem_map.mpr ⟨_, z, e.symm⟩) h.1
    · rw [decide_eq_false e]
      refine Iff.trans (ih h.2) ⟨fun z => List.mem_cons_of_mem _ z, fun z => ?_⟩
      rcases List.mem_cons.mp z with z | z
      · exact absurd (by rw [← z]) e
      · exact z
/-- the age that the line had, or w -/
def bf (w : Nat) (l : Int) (k : List P) : Int := (lkP k l).getD (w : Int)
theorem bf_spec {s : Nat} {rows : List (List Int)} (g : Good s rows) (hs : 0 < s) {w : Nat} {l : Int} {n : Nat} (hn : n < w) : (n : Int) < bf w l (OR w rows) ↔ ∀ j, j ≤ n → (row s rows l)[j]? ≠ some l := by
  unfold bf
  cases e : lkP (OR w rows) l with
  | none =>
    refine ⟨fun _ j hj h => ?_, fun _ => by simpa using hn⟩
    have z : (l, (j : Int)) ∈ OR w rows := OR_mem.mpr ((g.mem hs).mpr ⟨j, rfl, by omega, h⟩)
    rw [(lkP_some (OR_keys g w)).mpr z] at e
    cases e
  | some a =>
    obtain ⟨m, rfl, hm, h⟩ := (g.mem hs).mp (OR_mem.mp ((lkP_some (OR_keys g w)).mp e))
    refine ⟨fun z j hj hl => ?_, fun z => ?_⟩
    · have nd := g.nd _ _ (g.row hs l)
      have : j = m := (List.getElem?_inj (List.getElem?_eq_some_iff.mp hl).1 nd).mp (hl.trans h.symm)
      have z' : (n : Int) < (m : Int) := z
      omega
    · show (n : Int) < (m : Int)
      rcases Nat.lt_or_ge n m with q | q
      · omega
      · exact absurd h (z m q)
def older (s : Nat) (l b : Int) (p : P) : Int := if p.1 % (s : Int) = l % (s : Int) ∧ p.2 < b then p.2 + 1 else p.2
def usedF (s w : Nat) (l b : Int) (p : P) : Option P := if p.1 = l then none else if older s l b p < (w : Int) then some (p.1, older s l b p) else none
/-- the others, aged -/
def usedL (s : Nat) (w : Nat) (l b : Int) (k : List P) : List P := k.filterMap (usedF s w l b)
theorem usedF_some {s w : Nat} {l b : Int} {p q : P} : usedF s w l b p = some q ↔ p.1 ≠ l ∧ q = (p.1, older s l b p) ∧ older s l b p < (w : Int) := by
  unfold usedF
  by_cases e : p.1 = l
  · rw [if_pos e]
    exact ⟨fun h => (nomatch h), fun h => absurd e h.1⟩
  · rw [if_neg e]
    by_cases ho : older s l b p < (w : Int)
    · rw [if_pos ho]
      exact ⟨fun h => ⟨e, (Option.some.inj h).symm, ho⟩, fun h => by rw [h.2.1]⟩
    · rw [if_neg ho]
      exact ⟨fun h => (nomatch h), fun h => absurd h.2.2 ho⟩
theorem mem_usedL {s w : Nat} {l b : Int} {k : List P} {x o : Int} : (x, o) ∈ usedL s w l b k ↔ ∃ a, (x, a) ∈ k ∧ x ≠ l ∧ o = older s l b (x, a) ∧ o < (w : Int) := by
  unfold usedL
  rw [List.mem_filterMap]
  refine ⟨fun ⟨p, hp, h⟩ => ?_, fun ⟨a, ha, hx, e, ho⟩ => ⟨(x, a), ha, usedF_some.mpr ⟨hx, by rw [e], by rw [← e]; exact ho⟩⟩⟩
  obtain ⟨h1, h2, h3⟩ := usedF_some.mp h
  injection h2 with h4 h5
  subst h4
  exact ⟨p.2, hp, h1, h5, by rw [h5]; exact h3⟩
theorem usedL_keys {s w : Nat} {l b : Int} : ∀ {k : List P}, (k.map (·.1)).Nodup → ((usedL s w l b k).map (·.1)).Nodup ∧ ∀ x ∈ (usedL s w l b k).map (·.1), x ∈ k.map (·.1) ∧ x ≠ l := by
  intro k h
  have sub : ∀ x ∈ (usedL s w l b k).map (·.1), x ∈ k.map (·.1) ∧ x ≠ l := fun x hx => by
    obtain ⟨⟨y, o⟩, hp, rfl⟩ := List.mem_map.mp hx
    obtain ⟨a, ha, hy, _⟩ := mem_usedL.mp hp
    exact ⟨List.mem_map.mpr ⟨_, ha, rfl⟩, hy⟩
  refine ⟨?_, sub⟩
  clear sub
  induction k with
  | nil => exact List.Pairwise.nil
  | cons p k ih =>
    rw [List.map_cons, List.nodup_cons] at h
    have rest := ih h.2
    have out : p.1 ∉ (usedL s w l b k).map (·.1) := fun hm => by
      obtain ⟨⟨y, o⟩, hp, e⟩ := List.mem_map.mp hm
      obtain ⟨a, ha, _⟩ := mem_usedL.mp hp
      exact h.1 (by rw [← e]; exact List.mem_map.mpr ⟨_, ha, rfl⟩)
    unfold usedL
    rw [List.filterMap_cons]
    split
    · exact rest
    · rename_i q hq
      have e : q.1 = p.1 := by rw [(usedF_some.mp hq).2.1]
      rw [List.map_cons, List.nodup_cons, e]
      exact ⟨out, rest⟩
theorem ix_same {s : Nat} (hs : 0 < s) {x l : Int} : x % (s : Int) = l % (s : Int) ↔ ix s x = ix s l := by
  rw [← ix_eq hs x, ← ix_eq hs l]
  omega
theorem touch_row {s : Nat} {rows : List (List Int)} (g : Good s rows) (hs : 0 < s) (l x : Int) : row s (touch s l rows) x = if ix s x = ix s l then front l (row s rows l) else row s rows x := by
  unfold touch
  split
  · rename_i e
    unfold row
    rw [e, List.getD_eq_getElem?_getD, List.getElem?_set_self (by rw [g.len]; exact ix_lt hs l)]
    rfl
  · rename_i e
    show (rows.set _ _).getD (ix s x) [] = rows.getD (ix s x) []
    rw [List.getD_eq_getElem?_getD, List.getElem?_set_ne (fun z => e z.symm), List.getD_eq_getElem?_getD]
/-- where a line comes to stand -/
theorem front_get {l x : Int} {r : List Int} (nd : r.Nodup) (hx : x ≠ l) {n : Nat} (h : r[n]? = some x) : (front l r)[if ∀ j, j ≤ n → r[j]? ≠ some l then n + 1 else n]? = some x := by
  split
  · rename_i a
    exact filt_A hx (fun j hj => a j (by omega)) h
  · rename_i a
    have ⟨j, hj, hl⟩ : ∃ j, j ≤ n ∧ r[j]? = some l := by
      apply Classical.byContradiction
      intro z
      exact a fun j hj e => z ⟨j, hj, e⟩
    have hne : j ≠ n := fun e => hx (by rw [e, h] at hl; exact Option.some.inj hl)
    have hlt : j < n := by omega
    have z := filt_B hx nd hlt hl h
    cases n with
    | zero => omega
    | succ m => exact z
theorem used_OR {s : Nat} {rows : List (List Int)} (g : Good s rows) (hs : 0 < s) {w : Nat} (hw : 0 < w) (l : Int) : sortP ((l, 0) :: usedL s w l (bf w l (OR w rows)) (OR w rows)) = OR w (touch s l rows) := by
  have uk := usedL_keys (s := s) (w := w) (l := l) (b := bf w l (OR w rows)) (OR_keys g w)
  refine sort_eq (nodup_of_keys ?_) (nodup_of_keys ((g.touch hs l).keys w)) fun ⟨x, o⟩ => ?_
  · rw [List.map_cons, List.nodup_cons]
    exact ⟨fun h => (uk.2 _ h).2 rfl, uk.1⟩
  · rw [(g.touch hs l).mem hs, touch_row g hs]
    have old : ∀ n : Nat, n < w → x ≠ l → (row s rows x)[n]? = some x → ∃ m : Nat, older s l (bf w l (OR w rows)) (x, (n : Int)) = (m : Int) ∧ (if ix s x = ix s l then front l (row s rows l) else row s rows x)[m]? = some x := by
      intro n hn hx h
      by_cases e : ix s x = ix s l
      · have er : row s rows x = row s rows l := by
          unfold row
          rw [e]
        rw [er] at h
        refine ⟨_, ?_, by rw [if_pos e]; exact front_get (g.nd _ _ (g.row hs l)) hx h⟩
        unfold older
        by_cases hb : ∀ j, j ≤ n → (row s rows l)[j]? ≠ some l
        · rw [if_pos ⟨(ix_same hs).mpr e, (bf_spec g hs hn).mpr hb⟩, if_pos hb]
          rfl
        · rw [if_neg fun z => hb ((bf_spec g hs hn).mp z.2), if_neg hb]
      · refine ⟨n, ?_, by rw [if_neg e]; exact h⟩
        unfold older
        rw [if_neg fun z => e ((ix_same hs).mp z.1)]
    constructor
    · intro h
      rcases List.mem_cons.mp h with h | h
      · cases h
        exact ⟨0, rfl, hw, by rw [if_pos rfl]; rfl⟩
      · obtain ⟨a, ha, hx, e, ho⟩ := mem_usedL.mp h
        obtain ⟨n, rfl, hn, hr⟩ := (g.mem hs).mp (OR_mem.mp ha)
        obtain ⟨m, e2, h2⟩ := old n hn hx hr
        rw [e2] at e
        exact ⟨m, e, by omega, h2⟩
    · rintro ⟨m, rfl, hm, h⟩
      by_cases hx : x = l
      · subst hx
        rw [if_pos rfl] at h
        have nd := front_nodup (l := x) (g.nd _ _ (g.row hs x))
        have : m = 0 := (List.getElem?_inj (List.getElem?_eq_some_iff.mp h).1 nd).mp (h.trans rfl)
        subst this
        exact List.mem_cons_self
      · refine List.mem_cons_of_mem _ (mem_usedL.mpr ?_)
        have nd2 : (if ix s x = ix s l then front l (row s rows l) else row s rows x).Nodup := by
          split
          · exact front_nodup (g.nd _ _ (g.row hs l))
          · exact g.nd _ _ (g.row hs x)
        have ⟨n, hr⟩ : ∃ n : Nat, (row s rows x)[n]? = some x := by
          by_cases e : ix s x = ix s l
          · have er : row s rows x = row s rows l := by
              unfold row
              rw [e]
            rw [if_pos e] at h
            rcases List.mem_cons.mp (List.mem_iff_getElem?.mpr ⟨m, h⟩) with z | z
            · exact absurd z hx
            · rw [er]
              exact List.mem_iff_getElem?.mp (List.mem_filter.mp z).1
          · rw [if_neg e] at h
            exact ⟨m, h⟩
        have hn : n ≤ m := by
          by_cases e : ix s x = ix s l
          · have er : row s rows x = row s rows l := by
              unfold row
              rw [e]
            rw [er] at hr
            have z := front_get (g.nd _ _ (g.row hs l)) hx hr
            rw [if_pos e] at h nd2
            have q := (List.getElem?_inj (List.getElem?_eq_some_iff.mp h).1 nd2).mp (h.trans z.symm)
            rw [q]
            split <;> omega
          · rw [if_neg e] at h nd2
            exact Nat.le_of_eq ((List.getElem?_inj (List.getElem?_eq_some_iff.mp hr).1 nd2).mp (hr.trans h.symm))
        obtain ⟨m', e2, h2⟩ := old n (by omega) hx hr
        have q : m = m' := (List.getElem?_inj (List.getElem?_eq_some_iff.mp h).1 nd2).mp (h.trans h2.symm)
        subst q
        exact ⟨(n : Int), OR_mem.mpr ((g.mem hs).mpr ⟨n, rfl, by omega, hr⟩), hx, e2.symm, by omega⟩
theorem OR_nodup {s : Nat} {rows : List (List Int)} (g : Good s rows) (w : Nat) : (OR w rows).Nodup := nodup_of_keys (OR_keys g w)
theorem cut_OR {s : Nat} {rows : List (List Int)} (g : Good s rows) (hs : 0 < s) {w v : Nat} (h : w ≤ v) : ((OR v rows).filter fun p => decide (p.2 < (w : Int))) = OR w rows := by
  refine sortedP_uniq ((List.perm_ext_iff_of_nodup ((OR_nodup g v).filter _) (OR_nodup g w)).mpr fun ⟨x, a⟩ => ?_) ((sortP_sorted _).filter _) (sortP_sorted _)
  rw [List.mem_filter, OR_mem, OR_mem, g.mem hs, g.mem hs]
  refine ⟨fun ⟨⟨n, e, _, h2⟩, h3⟩ => ⟨n, e, ?_, h2⟩, fun ⟨n, e, h1, h2⟩ => ⟨⟨n, e, by omega, h2⟩, ?_⟩⟩
  · have z : a < (w : Int) := of_decide_eq_true h3
    omega
  · exact decide_eq_true (show a < (w : Int) by omega)
theorem has_OR {s : Nat} {rows : List (List Int)} (g : Good s rows) (hs : 0 < s) {w : Nat} {l : Int} : (∃ p ∈ OR w rows, p.1 = l) ↔ l ∈ (row s rows l).take w := by
  rw [List.mem_iff_getElem?]
  refine ⟨fun ⟨⟨x, a⟩, hp, e⟩ => ?_, fun ⟨n, h⟩ => ?_⟩
  · have e' : x = l := e
    subst e'
    obtain ⟨n, _, h1, h2⟩ := (g.mem hs).mp (OR_mem.mp hp)
    exact ⟨n, by rw [List.getElem?_take, if_pos h1]; exact h2⟩
  · rw [List.getElem?_take] at h
    split at h
    · exact ⟨(l, (n : Int)), OR_mem.mpr ((g.mem hs).mpr ⟨n, rfl, by assumption, h⟩), rfl⟩
    · cases h
theorem miss_OR {s : Nat} {rows : List (List Int)} (g : Good s rows) (hs : 0 < s) {w : Nat} {l : Int} (h : l ∉ (row s rows l).take w) : ((OR w rows).filter fun p => decide (p.1 ≠ l)) = OR w rows := by
  rw [List.filter_eq_self]
  intro p hp
  exact decide_eq_true fun e => h ((has_OR g hs).mp ⟨p, hp, e⟩)
def olderA (s : Nat) (l b : Int) (p : P) : Int := if p.1 % (s : Int) = l % (s : Int) ∧ p.2 ≤ b then p.2 + 1 else p.2
def agedF (s w : Nat) (l b : Int) (p : P) : Option P := if p.1 = l then none else if olderA s l b p < (w : Int) then some (p.1, olderA s l b p) else none
theorem fmap_congr {α β : Type} {f h : α → Option β} : ∀ {l : List α}, (∀ x ∈ l, f x = h x) → l.filterMap f = l.filterMap h
  | [], _ => rfl
  | x :: l, e => by
    rw [List.filterMap_cons, List.filterMap_cons, e x List.mem_cons_self, fmap_congr fun y hy => e y (List.mem_cons_of_mem _ hy)]
theorem aged_OR {s : Nat} {rows : List (List Int)} (g : Good s rows) (hs : 0 < s) {w : Nat} {l : Int} : (OR w rows).filterMap (agedF s w l (bf w l (OR w rows))) = usedL s w l (bf w l (OR w rows)) (OR w rows) := by
  unfold usedL
  refine fmap_congr ?_
  rintro ⟨x, a⟩ hp
  unfold agedF usedF
  by_cases e : x = l
  · rw [if_pos e, if_pos e]
  · rw [if_neg e, if_neg e]
    have same : olderA s l (bf w l (OR w rows)) (x, a) = older s l (bf w l (OR w rows)) (x, a) := by
      unfold olderA older
      by_cases em : x % (s : Int) = l % (s : Int)
      · have hne : a ≠ bf w l (OR w rows) := by
          intro z
          obtain ⟨n, rfl, hn, hx⟩ := (g.mem hs).mp (OR_mem.mp hp)
          unfold bf at z
          cases eb : lkP (OR w rows) l with
          | none =>
            rw [eb] at z
            have z' : (n : Int) = (w : Int) := z
            omega
          | some m =>
            rw [eb] at z
            have z' : (n : Int) = m := z
            subst z'
            obtain ⟨k, ek, _, hk⟩ := (g.mem hs).mp (OR_mem.mp ((lkP_some (OR_keys g w)).mp eb))
            have ek' : n = k := by omega
            subst ek'
            have er : row s rows x = row s rows l := by
              unfold row
              rw [(ix_same hs).mp em]
            rw [er, hk] at hx
            exact e (Option.some.inj hx).symm
        by_cases q : a < bf w l (OR w rows)
        · rw [if_pos ⟨em, by show a ≤ _; omega⟩, if_pos ⟨em, q⟩]
        · rw [if_neg (fun z => q (by have z2 : a ≤ bf w l (OR w rows) := z.2; omega)), if_neg fun z => q z.2]
      · rw [if_neg fun z => em z.1, if_neg fun z => em z.1]
    rw [same]
/-! the rows of a cache -/
theorem filter_out {l : Int} {r : List Int} (h : l ∉ r) : (r.filter fun x => decide (x ≠ l)) = r := List.filter_eq_self.mpr fun x hx => decide_eq_true fun z => h (by rw [← z]; exact hx)
theorem filter_len {l : Int} : ∀ {r : List Int}, r.Nodup → l ∈ r → (r.filter fun x => decide (x ≠ l)).length + 1 = r.length
  | [], _, h => by cases h
  | y :: t, nd, h => by
    rw [List.nodup_cons] at nd
    by_cases e : y = l
    · subst e
      rw [List.filter_cons, if_neg (by simp), List.length_cons, filter_out nd.1]
    · rw [List.filter_cons, if_pos (by simpa using e), List.length_cons, List.length_cons, filter_len nd.2 ((List.mem_cons.mp h).resolve_left fun z => e z.symm)]
theorem has_row {l : Int} {r : List Int} (nd : r.Nodup) {w : Nat} (h : l ∈ r.take w) : l :: ((r.take w).filter fun x => decide (x ≠ l)) = (front l r).take w := by
  cases w with
  | zero => simp at h
  | succ v =>
    unfold front
    rw [List.take_succ_cons]
    congr 1
    have nd' := nd
    rw [← List.take_append_drop (v + 1) r, List.nodup_append] at nd'
    have out : l ∉ r.drop (v + 1) := fun z => nd'.2.2 l h l z rfl
    have e : (r.filter fun x => decide (x ≠ l)) = ((r.take (v + 1)).filter fun x => decide (x ≠ l)) ++ r.drop (v + 1) := by
      conv => lhs; rw [← List.take_append_drop (v + 1) r]
      rw [List.filter_append, filter_out out]
    have len := filter_len (nd.sublist (List.take_sublist _ _)) h
    rw [e]
    rw [List.length_take] at len
    rcases Nat.le_total (v + 1) r.length with q | q
    · rw [List.take_append_of_le_length (by omega)]
      exact (List.take_of_length_le (by omega)).symm
    · rw [List.drop_of_length_le q, List.append_nil]
      exact (List.take_of_length_le (by omega)).symm
theorem fill_row {l : Int} {r : List Int} {w : Nat} (h : l ∉ r.take w) : (l :: ((r.take w).filter fun x => decide (x ≠ l))).take w = (front l r).take w := by
  rw [filter_out h]
  cases w with
  | zero => rfl
  | succ v =>
    unfold front
    rw [List.take_succ_cons, List.take_succ_cons]
    congr 1
    have e : (r.filter fun x => decide (x ≠ l)) = r.take (v + 1) ++ ((r.drop (v + 1)).filter fun x => decide (x ≠ l)) := by
      conv => lhs; rw [← List.take_append_drop (v + 1) r]
      rw [List.filter_append, filter_out h]
    rw [e]
    rcases Nat.le_total (v + 1) r.length with q | q
    · rw [List.take_append_of_le_length (by rw [List.length_take]; omega)]
    · rw [List.drop_of_length_le q, List.filter_nil, List.append_nil]
theorem front_pre {l : Int} {t r : List Int} (h : t <+: r) : front l t <+: front l r := by
  obtain ⟨u, rfl⟩ := h
  exact ⟨u.filter fun x => decide (x ≠ l), by unfold front; rw [List.filter_append]; rfl⟩
end M51
/-! FL27: values of dicts from ints to ints, of pairs, of enumerate over a tuple, of fields. -/
namespace FL
open PySem L2
section
variable {env : FL.Env} {S : Sto} {Q : D → Sto → Prop}
def kvI (p : Int × Int) : Key × D := (.inl p.1, .int p.2)
theorem intKV_kvI : ∀ k : List (Int × Int), intKV (k.map kvI) = some k
  | [] => rfl
  | p :: k => by
    show (intKV (k.map kvI)).map _ = _
    rw [intKV_kvI k]
    rfl
theorem prsT_pD : ∀ k : List (Int × Int), prsT (k.map pD) = some (k.map kvI)
  | [] => rfl
  | p :: k => by
    show (keyD (.int p.1)).bind (fun k' => (prsT (k.map pD)).map _) = _
    rw [prsT_pD k]
    rfl
theorem putG_new {kvs : List (Key × D)} {k : Key} {v : D} (h : k ∉ kvs.map (·.1)) : putG kvs k v = kvs ++ [(k, v)] := by
  unfold putG
  rw [if_neg]
  intro z
  rw [List.any_eq_true] at z
  obtain ⟨p, hp, e⟩ := z
  exact h (by rw [← of_decide_eq_true e]; exact List.mem_map.mpr ⟨p, hp, rfl⟩)
theorem putG_kvI {k : List (Int × Int)} {x a : Int} (h : x ∉ k.map (·.1)) : putG (k.map kvI) (.inl x) (.int a) = (k ++ [(x, a)]).map kvI := by
  rw [putG_new, List.map_append]
  · rfl
  · rw [List.map_map]
    intro z
    obtain ⟨p, hp, e⟩ := List.mem_map.mp z
    have e' : (Sum.inl p.1 : Key) = .inl x := e
    injection e' with e'
    exact h (by rw [← e']; exact List.mem_map.mpr ⟨p, hp, rfl⟩)
theorem merge_kvI : ∀ {more k : List (Int × Int)}, ((k ++ more).map (·.1)).Nodup → mergeG (k.map kvI) (more.map kvI) = (k ++ more).map kvI
  | [], k, _ => by rw [List.append_nil]; rfl
  | p :: more, k, h => by
    show mergeG (putG (k.map kvI) (.inl p.1) (.int p.2)) (more.map kvI) = _
    have e : k ++ p :: more = (k ++ [p]) ++ more := by simp
    rw [putG_kvI, merge_kvI, ← e]
    · show (((k ++ [p]) ++ more).map (·.1)).Nodup
      rw [← e]
      exact h
    · rw [List.map_append, List.nodup_append] at h
      intro z
      exact h.2.2 _ z _ List.mem_cons_self rfl
theorem valG_kvI (x : Int) : ∀ k : List (Int × Int), valG (k.map kvI) (.inl x) = ((k.find? fun p => decide (p.1 = x)).map (·.2)).map D.int
  | [] => rfl
  | p :: k => by
    have ih := valG_kvI x k
    unfold valG at ih ⊢
    rw [List.map_cons, List.find?_cons, List.find?_cons]
    by_cases e : p.1 = x
    · subst e
      rw [decide_eq_true rfl, show decide ((kvI p).1 = Sum.inl p.1) = true from decide_eq_true rfl]
      rfl
    · rw [decide_eq_false e, show decide ((kvI p).1 = Sum.inl x) = false from decide_eq_false fun z => e (by injection z)]
      exact ih
theorem w_dictT {k : List (Int × Int)} (h : (k.map (·.1)).Nodup) : W (fDict [.tup (k.map pD)] S) Q ↔ W (some (D.ref S.length, S ++ [.dic (k.map kvI)])) Q := by
  have e : fDict [.tup (k.map pD)] S = some (D.ref S.length, S ++ [.dic (k.map kvI)]) := by
    show (prsT (k.map pD)).map _ = _
    rw [prsT_pD]
    have z := merge_kvI (k := []) (more := k) h
    rw [List.nil_append] at z
    show some (_, S ++ [O.dic (mergeG [] (k.map kvI))]) = _
    rw [show ([] : List (Key × D)) = ([] : List (Int × Int)).map kvI from rfl, z]
  rw [e]
theorem w_tupR {n : Nat} {ds : List D} (h : getL S n = some ds) : W (fTuple [.ref n] S) Q ↔ Q (.tup ds) S := by
  unfold fTuple
  simp [h]
theorem w_tupT {ds : List D} : W (fTuple [.tup ds] S) Q ↔ Q (.tup ds) S := by
  unfold fTuple
  simp
theorem w_enumT {fr : FA} {QI : ItD → Sto → Prop} (h : W (fr env S) fun ds S1 => ∃ us, ds = [.tup us] ∧ QI (.fix (us.mapIdx enumD)) S1) : W (iEnumT fr env S) QI := by
  obtain ⟨ds, S1, e, us, rfl, q⟩ := h
  exact ⟨_, S1, by unfold iEnumT; rw [e]; rfl, q⟩
theorem w_fld {ks : List Str} {fa : FE} {f : Str} : W (eFld ks fa f env S) Q ↔ W (fa env S) fun x S1 => ∃ n k fs d, x = .ref n ∧ S1[n]? = some (.ins k fs) ∧ k ∈ ks ∧ fs.lookup f = some d ∧ Q d S1 := by
  constructor
  · rintro ⟨d, S2, e, q⟩
    unfold eFld at e
    obtain ⟨x, S1, e1, e⟩ := th_inv e
    split at e
    · split at e
      · rename_i k fs g
        split at e
        · obtain ⟨d', e2, e3⟩ := Option.map_eq_some_iff.mp e
          cases e3
          exact ⟨_, _, e1, _, k, fs, d, rfl, g, by assumption, e2, q⟩
        · cases e
      · cases e
    · cases e
  · rintro ⟨x, S1, e, n, k, fs, d, rfl, g, hk, hl, q⟩
    refine ⟨d, S1, ?_, q⟩
    unfold eFld
    rw [e]
    simp [th, g, hk, hl]
end
end FL
/-! FL28: d.get(k, x), d[k] = v, fields set, methods, by values. -/
namespace FL
open PySem L2
section
variable {env : FL.Env} {S : Sto} {Q : D → Sto → Prop} {QE : FL.Env → Sto → Prop}
theorem getD_of {n : Nat} {kvs : List (Key × D)} (h : S[n]? = some (.dic kvs)) : getD S n = some kvs := by unfold getD; simp [h]
theorem w_get2 {fo fk fx : FE} (h : W (fo env S) fun o S1 => ∃ n kvs, o = .ref n ∧ S1[n]? = some (.dic kvs) ∧ W (fk env S1) fun k S2 => ∃ x : Int, k = .int x ∧ W (fx env S2) fun z S3 => ∃ ks : List (Int × Int), S3[n]? = some (.dic (ks.map kvI)) ∧ ∀ d, d = (((ks.find? fun p => decide (p.1 = x)).map (·.2)).map D.int).getD z → Q d S3) : W (eGet2 fo fk fx env S) Q := by
  obtain ⟨o, S1, e1, n, kvs, rfl, g1, k, S2, e2, x, rfl, z, S3, e3, ks, g3, q⟩ := h
  unfold eGet2
  refine (W_th ..).mpr ⟨_, _, e1, (W_th ..).mpr ⟨_, _, e2, (W_th ..).mpr ⟨_, _, e3, ?_⟩⟩⟩
  simp only [getD_of g1, getD_of g3, keyD]
  rw [valG_kvI]
  cases e : (ks.find? fun p => decide (p.1 = x)).map (·.2) with
  | none =>
    refine ⟨_, _, rfl, q _ ?_⟩
    rw [e]
    rfl
  | some v =>
    refine ⟨_, _, rfl, q _ ?_⟩
    rw [e]
    rfl
theorem w_setI {fo fi : FE} {n : Nat} {ks : List (Int × Int)} {x a : Int} (h1 : fo env S = some (.ref n, S)) (h2 : fi env S = some (.int x, S)) (h : S[n]? = some (.dic (ks.map kvI))) (hz : ks.length < cap) (hx : x ∉ ks.map (·.1)) :
    W (gIx fo fi (.int a) env S) QE ↔ QE env (S.set n (.dic ((ks ++ [(x, a)]).map kvI))) := by
  unfold gIx
  simp [h1, h2, h, keyD, hz, th, putG_kvI hx]
theorem w_gfd {ks : List Str} {fo : FE} {f : Str} {d : D} {n : Nat} {k : Str} {fs : List (Str × D)} (h1 : fo env S = some (.ref n, S)) (h : S[n]? = some (.ins k fs)) (hk : k ∈ ks) (hz : fs.length < 900) :
    W (gFd ks fo f d env S) QE ↔ QE env (S.set n (.ins k (putF f d fs))) := by
  unfold gFd
  simp [h1, h, hk, hz, th]
theorem w_meth {k m : Str} {F : FF} {fo : FE} {fr : FA} (h : W (fo env S) fun x S1 => ∃ n fs, x = .ref n ∧ S1[n]? = some (.ins k fs) ∧ fs.lookup m = none ∧ W (fr env S1) fun ds S2 => W (F (.ref n :: ds) S2) Q) : W (eMeth k m F fo fr env S) Q := by
  obtain ⟨x, S1, e1, n, fs, rfl, g, hl, q⟩ := h
  unfold eMeth
  rw [W_th]
  refine ⟨_, _, e1, ?_⟩
  simp only [g, hl, and_self, if_true]
  rw [W_th]
  exact q
theorem w_make {k : Str} {F : FF} {fr : FA} (h : W (fr env S) fun ds S1 => W (F (.ref S1.length :: ds) (S1 ++ [.ins k []])) fun v S2 => v = .non ∧ Q (.ref S1.length) S2) : W (eMake k F fr env S) Q := by
  unfold eMake
  obtain ⟨ds, S1, e, v, S2, e2, rfl, q⟩ := h
  exact (W_th ..).mpr ⟨_, _, e, (W_th ..).mpr ⟨_, _, e2, _, _, rfl, q⟩⟩
end
theorem fm_succ {α β : Type} (F : α → Option β) {k : List α} {i : Nat} {p : α} (h : k[i]? = some p) : (k.take (i + 1)).filterMap F = (k.take i).filterMap F ++ (F p).toList := by
  rw [List.take_succ, h, List.filterMap_append]
  show _ ++ List.filterMap F [p] = _
  rw [List.filterMap_cons]
  cases F p <;> rfl
theorem fm_key {F : Int × Int → Option (Int × Int)} (hF : ∀ p q, F p = some q → q.1 = p.1) {k : List (Int × Int)} (nd : (k.map (·.1)).Nodup) {i : Nat} {p : Int × Int} (h : k[i]? = some p) : p.1 ∉ ((k.take i).filterMap F).map (·.1) := by
  intro z
  obtain ⟨q, hq, e⟩ := List.mem_map.mp z
  obtain ⟨r, hr, e2⟩ := List.mem_filterMap.mp hq
  obtain ⟨j, hj⟩ := List.mem_iff_getElem?.mp hr
  rw [List.getElem?_take] at hj
  split at hj
  · have e3 := hF _ _ e2
    have a : (k.map (·.1))[i]? = some p.1 := by rw [List.getElem?_map, h]; rfl
    have b : (k.map (·.1))[j]? = some p.1 := by rw [List.getElem?_map, hj]; show some r.1 = _; rw [← e3, e]
    have c := (List.getElem?_inj (List.getElem?_eq_some_iff.mp a).1 nd).mp (a.trans b.symm)
    omega
  · cases hj
end FL
/-! FL29: equality of data without references; comprehensions whose elements are new objects. -/
namespace FL
open PySem L2
/-- data without references, of depth at most n, texts that can be laid -/
def okD : Nat → D → Bool
  | _, .non => true
  | _, .bl _ => true
  | _, .int _ => true
  | _, .str x => PyData.strOk x
  | n + 1, .tup ds => ds.all (okD n)
  | _, _ => false
theorem okD_sd : ∀ (n : Nat) (d : D), okD n d = true → noRef d = true ∧ (dPy d).canLay0 = true ∧ (dPy d).depth ≤ n := by
  intro n
  induction n with
  | zero =>
    intro d h
    cases d with
    | non => exact ⟨rfl, sh_non.1, by show PyData.depth .none ≤ 0; simp [PyData.depth]⟩
    | bl b => exact ⟨rfl, (sh_bl b).1, by show PyData.depth (.bool b) ≤ 0; simp [PyData.depth]⟩
    | int b => exact ⟨rfl, (sh_int b).1, by show PyData.depth (.int b) ≤ 0; simp [PyData.depth]⟩
    | str x => exact ⟨rfl, by show PyData.canLay0 (.str x) = true; rw [PyData.canLay0]; exact h, by show PyData.depth (.str x) ≤ 0; simp [PyData.depth]⟩
    | tup ds => simp [okD] at h
    | ref m => simp [okD] at h
    | pr ds => simp [okD] at h
  | succ n ih =>
    intro d h
    cases d with
    | non => exact ⟨rfl, sh_non.1, by show PyData.depth .none ≤ _; simp [PyData.depth]⟩
    | bl b => exact ⟨rfl, (sh_bl b).1, by show PyData.depth (.bool b) ≤ _; simp [PyData.depth]⟩
    | int b => exact ⟨rfl, (sh_int b).1, by show PyData.depth (.int b) ≤ _; simp [PyData.depth]⟩
    | str x => exact ⟨rfl, by show PyData.canLay0 (.str x) = true; rw [PyData.canLay0]; exact h, by show PyData.depth (.str x) ≤ _; simp [PyData.depth]⟩
    | ref m => simp [okD] at h
    | pr ds => simp [okD] at h
    | tup ds =>
      have h' : ∀ d ∈ ds, okD n d = true := by
        have : ds.all (okD n) = true := h
        rw [List.all_eq_true] at this
        exact this
      clear h
      have key : noRefs ds = true ∧ PyData.canLayAll0 (dPys ds) = true ∧ PyData.depthAll (dPys ds) ≤ n := by
        induction ds with
        | nil => exact ⟨rfl, by simp [dPys, PyData.canLayAll0], by simp [dPys, PyData.depthAll]⟩
        | cons d ds ih2 =>
          obtain ⟨a1, a2, a3⟩ := ih2 fun x hx => h' x (List.mem_cons_of_mem _ hx)
          obtain ⟨b1, b2, b3⟩ := ih d (h' d List.mem_cons_self)
          refine ⟨by show (noRef d && noRefs ds) = true; rw [a1, b1]; rfl, by show PyData.canLayAll0 (dPy d :: dPys ds) = true; rw [PyData.canLayAll0, b2, a2]; rfl, ?_⟩
          show PyData.depthAll (dPy d :: dPys ds) ≤ n
          rw [PyData.depthAll]
          omega
      refine ⟨key.1, by show PyData.canLay0 (.tuple (dPys ds)) = true; rw [PyData.canLay0]; exact key.2.1, ?_⟩
      show PyData.depth (.tuple (dPys ds)) ≤ n + 1
      rw [PyData.depth]
      have := key.2.2
      omega
section
variable {S : Sto} {Q : D → Sto → Prop}
theorem w_neR {x : D} (h : okD 20 x = true) : W (oNe x x S) Q ↔ Q (.bl false) S := by
  obtain ⟨h1, h2, h3⟩ := okD_sd _ _ h
  exact w_neS (toPy_nr h1) (toPy_nr h1) ⟨h2, by omega⟩
theorem w_eqR {x : D} (h : okD 20 x = true) : W (oEq x x S) Q ↔ Q (.bl true) S := by
  obtain ⟨h1, h2, h3⟩ := okD_sd _ _ h
  exact w_eqS (toPy_nr h1) (toPy_nr h1) ⟨h2, by omega⟩
theorem okD_map {α : Type} {f : α → D} {n : Nat} (h : ∀ x, okD n (f x) = true) (l : List α) : okD (n + 1) (.tup (l.map f)) = true := by
  show (l.map f).all (okD n) = true
  rw [List.all_eq_true]
  intro d hd
  obtain ⟨x, _, rfl⟩ := List.mem_map.mp hd
  exact h x
theorem okD_mono {n m : Nat} (h : n ≤ m) : ∀ {d : D}, okD n d = true → okD m d = true := by
  induction n generalizing m with
  | zero =>
    intro d k
    cases d with
    | tup ds => simp [okD] at k
    | ref m => simp [okD] at k
    | pr ds => simp [okD] at k
    | str x => cases m <;> exact k
    | _ => cases m <;> rfl
  | succ n ih =>
    intro d k
    cases m with
    | zero => omega
    | succ m =>
      cases d with
      | tup ds =>
        show ds.all (okD m) = true
        have : ds.all (okD n) = true := k
        rw [List.all_eq_true] at this ⊢
        exact fun x hx => ih (by omega) (this x hx)
      | ref m => simp [okD] at k
      | pr ds => simp [okD] at k
      | str x => exact k
      | _ => rfl
theorem w_eNot {fa : FE} {env : FL.Env} : W (eNot fa env S) Q ↔ W (fa env S) fun x S1 => match tru x S1 with
    | some b => Q (.bl (!b)) S1
    | none => False := by
  unfold eNot
  rw [W_th]
  have key : ∀ (x : D) (S1 : Sto), W (match tru x S1 with
      | some b => some (D.bl (!b), S1)
      | none => none) Q ↔ match tru x S1 with
      | some b => Q (.bl (!b)) S1
      | none => False := by
    intro x S1
    cases tru x S1 <;> simp
  constructor
  · rintro ⟨x, S1, e, h⟩
    exact ⟨x, S1, e, (key x S1).mp h⟩
  · rintro ⟨x, S1, e, h⟩
    exact ⟨x, S1, e, (key x S1).mpr h⟩
/-- what stands at the places from lo on, below hi, stays -/
def Sp (lo hi : Nat) (S S' : Sto) : Prop := ∀ m, lo ≤ m → m < hi → ∀ o, S[m]? = some o → S'[m]? = some o
theorem Ap.sp {S S' : Sto} (h : Ap S S') (lo hi : Nat) : Sp lo hi S S' := fun m _ _ o e => h m o e
/-- a comprehension whose elements are new: the i-th one has its own span of places -/
theorem w_lcq {env : FL.Env} {fi : FI} {g : FG} {tt : FT} {te : FE} {vs : List Nat} {ds : List D} (P : Nat → Nat → Nat → D → Sto → Prop)
    (hP : ∀ lo hi i y S S', Sp lo hi S S' → P lo hi i y S → P lo hi i y S')
    (hi : W (fi env S) fun it S1 => Ap S S1 ∧ ds.length ≤ it.len ∧ ∀ S2, Ap S1 S2 → ∀ i, it.it S2 i = some ds[i]?)
    (hb : ∀ i d, ds[i]? = some d → ∀ S2, Ap S S2 → S.length < S2.length → W (g d (wipeE env vs) S2) fun e1 S3 => W (tt e1 S3) fun k S4 => k = true ∧ Ap S2 S4 ∧ W (te e1 S4) fun y S5 => Ap S4 S5 ∧ P S2.length S5.length i y S5)
    (hl : ds.length ≤ cap)
    (hq : ∀ (n : Nat) (S' : Sto) (ys : List D) (L : Nat → Nat), Ap S S' → S.length ≤ n → S'[n]? = some (.lst ys) → ys.length = ds.length → n < L 0 → (∀ i, L i ≤ L (i + 1)) → L ds.length ≤ S'.length → (∀ i, i < ds.length → ∃ y, ys[i]? = some y ∧ P (L i) (L (i + 1)) i y S') → Q (.ref n) S') : W (eLc fi g tt te vs env S) Q := by
  refine w_lc ?_
  obtain ⟨it, S1, e, a1, hlen, hit⟩ := hi
  refine ⟨it, S1, e, ?_⟩
  refine Exists.elim (lc_inv (it := it) (ds := ds) (g := g) (tt := tt) (te := te) (n := S1.length) (env := wipeE env vs) (S := S1 ++ [.lst []]) (fun i acc S' => Ap S1 S' ∧ S1.length < S'.length ∧ acc.length = i ∧
      ∃ L : Nat → Nat, S1.length < L 0 ∧ (∀ j, L j ≤ L (j + 1)) ∧ (∀ j, i ≤ j → L j = S'.length) ∧ ∀ j, j < i → ∃ y, acc[j]? = some y ∧ P (L j) (L (j + 1)) j y S')
    (fun i acc S' h _ => hit S' h.1 i) hlen (fun i d acc S' hd hI hn => ?_) ⟨Ap.app _ _, by simp, rfl, fun _ => S1.length + 1, Nat.lt_succ_self _, fun _ => Nat.le_refl _, fun j _ => by simp, fun j hj => by omega⟩ (new_at _ _)) (fun S2 hh => ?_)
  · obtain ⟨aS, lS, ea, L, L0, Lm, Le, LP⟩ := hI
    have hi' := (List.getElem?_eq_some_iff.mp hd).1
    obtain ⟨e1, S3, q1, k, S4, q2, rfl, a4, h⟩ := hb i d hd S' (a1.trans aS) (by have := a1.len; omega)
    refine ⟨e1, S3, q1, _, S4, q2, ?_⟩
    refine iteT ?_
    obtain ⟨y, S5, q3, a5, hPy⟩ := h
    have l5 : S'.length ≤ S5.length := (a4.trans a5).len
    have Li : L i = S'.length := Le i (Nat.le_refl _)
    have sp : ∀ lo hi, S1.length < lo → Sp lo hi S5 (S5.set S1.length (.lst (acc ++ [y]))) := fun lo hi h m h1 h2 o e => by
      rw [List.getElem?_set_ne (by omega)]
      exact e
    have Lmono : ∀ j, S1.length < L j := fun j => by
      induction j with
      | zero => exact L0
      | succ j ih => exact Nat.lt_of_lt_of_le ih (Lm j)
    obtain ⟨L', k1, k2⟩ : ∃ L' : Nat → Nat, (∀ j, j ≤ i → L' j = L j) ∧ ∀ j, ¬ j ≤ i → L' j = S5.length := ⟨fun j => if j ≤ i then L j else S5.length, fun j h => if_pos h, fun j h => if_neg h⟩
    refine ⟨_, S5, q3, a5 _ _ (a4 _ _ hn), by omega, (aS.trans (a4.trans a5)).set (Nat.le_refl _), by rw [List.length_set]; omega, by simp [ea], L', ?_, fun j => ?_, fun j hj => ?_, fun j hj => ?_⟩
    · rw [k1 0 (Nat.zero_le _)]
      exact L0
    · by_cases h1 : j + 1 ≤ i
      · rw [k1 _ (by omega), k1 _ h1]
        exact Lm j
      · rw [k2 _ h1]
        by_cases h2 : j ≤ i
        · rw [k1 _ h2]
          have : j = i := by omega
          subst this
          omega
        · rw [k2 _ h2]
          exact Nat.le_refl _
    · rw [k2 _ (by omega), List.length_set]
    · by_cases h1 : j < i
      · obtain ⟨y', hy, hp⟩ := LP j h1
        refine ⟨y', by rw [List.getElem?_append_left (by omega)]; exact hy, ?_⟩
        rw [k1 _ (by omega), k1 _ (by omega)]
        exact hP _ _ _ _ _ _ (sp _ _ (Lmono j)) (hP _ _ _ _ _ _ ((a4.trans a5).sp _ _) hp)
      · have : j = i := by omega
        subst this
        refine ⟨y, by rw [List.getElem?_append_right (by omega), ea, Nat.sub_self]; rfl, ?_⟩
        rw [k1 _ (Nat.le_refl _), k2 _ (by omega), Li]
        exact hP _ _ _ _ _ _ (sp _ _ lS) hPy
  · obtain ⟨acc, e2, e3, a2, l2, e4, L, L0, Lm, Le, LP⟩ := hh
    exact ⟨S2, e2, hq _ _ acc L (a1.trans a2) a1.len e3 e4 L0 Lm (Nat.le_of_eq (Le _ (Nat.le_refl _))) LP⟩
/-- lists that are told by a function of the index -/
def lf (n : Nat) (f : Nat → D) : List D := (List.range n).map f
theorem lf_len (n : Nat) (f : Nat → D) : (lf n f).length = n := by simp [lf]
theorem lf_at {n k : Nat} {f : Nat → D} (h : k < n) : atI (lf n f) (k : Int) = some (f k) := by
  refine FL.atI_nat ?_
  unfold lf
  rw [List.getElem?_map, List.getElem?_range h]
  rfl
theorem lf_set {n k : Nat} {f : Nat → D} {x : D} (h : k < n) : (lf n f).set k x = lf n fun j => if j = k then x else f j := by
  apply List.ext_getElem?
  intro i
  unfold lf
  by_cases e : k = i
  · subst e
    rw [List.getElem?_set_self (by simpa using h), List.getElem?_map, List.getElem?_range h]
    simp
  · rw [List.getElem?_set_ne e, List.getElem?_map, List.getElem?_map]
    by_cases hi : i < n
    · rw [List.getElem?_range hi]
      simp [Ne.symm e]
    · rw [List.getElem?_eq_none (by simpa using hi)]
      rfl
theorem lf_congr {n : Nat} {f g : Nat → D} (h : ∀ k, k < n → f k = g k) : lf n f = lf n g := List.map_congr_left fun k hk => h k (List.mem_range.mp hk)
theorem lf_ixN {n k : Nat} {f : Nat → D} (h : k < n) : ixN (lf n f).length (k : Int) = some k := by
  rw [lf_len]
  unfold ixN
  rw [if_pos (by omega), if_pos (by omega)]
  rfl
theorem lf_of {n : Nat} {ys : List D} {P : Nat → D → Prop} (hl : ys.length = n) (h : ∀ i, i < n → ∃ y, ys[i]? = some y ∧ P i y) : ∃ f : Nat → D, ys = lf n f ∧ ∀ i, i < n → P i (f i) := by
  refine ⟨fun i => ys.getD i .non, ?_, fun i hi => ?_⟩
  · apply List.ext_getElem?
    intro i
    unfold lf
    rw [List.getElem?_map]
    by_cases hi : i < n
    · rw [List.getElem?_range hi, List.getElem?_eq_getElem (by omega)]
      simp [List.getD_eq_getElem?_getD, List.getElem?_eq_getElem (show i < ys.length by omega)]
    · rw [List.getElem?_eq_none (by omega), List.getElem?_eq_none (by simpa using hi)]
      rfl
  · obtain ⟨y, e, p⟩ := h i hi
    show P i (ys.getD i .non)
    rw [List.getD_eq_getElem?_getD, e]
    exact p
end
theorem Tape.kn {S S' : Sto} {n m q : Nat} (h : Tape S n m) (a : Kn q S S') (h1 : n ≠ q) (h2 : m ≠ q) : Tape S' n m := by
  obtain ⟨cells, x1, x2, x3, x4, g1, g2, h3⟩ := h
  exact ⟨cells, x1, x2, x3, x4, a _ _ h1 g1, a _ _ h2 g2, h3⟩
end FL
/-! K51b: what is known, one line later. -/
namespace K51
open PySem L2 FL M51
abbrev tD (s w : Nat) : D := .tup [.int s, .int w, .str "lru"]
abbrev kD (k : List P) : D := .tup (k.map pD)
section
variable {S : Sto} {Q : D → Sto → Prop}
theorem w_lru : W (oEq (.str "lru") (.str "lru") S) Q ↔ Q (.bl true) S := by
  rw [w_eqStr (by decide +kernel) (by decide +kernel)]
  rfl
theorem ways_sure_ok {s w : Nat} : W (f_ways_sure [tD s w] S) Q ↔ Q (.int w) S := by
  have go : ∀ Q : D → Sto → Prop, Q (.int w) S → W (f_ways_sure [tD s w] S) Q := fun Q h => by
    refine w_fn rfl ?_
    show W (b_ways_sure [some (tD s w)] S) _
    unfold b_ways_sure
    simp only [w_seq, w_asg, w_ret, w_retN, w_drop, w_brk, w_cnt, w_nil, w_sif, w_c, w_ev, w_bin, w_un, w_anil, w_acons, w_tup, w_lst, w_call, w_tB, w_tNot, w_tAnd, w_tOr, w_eIf, w_isN, w_notN, w_gnm, w_gnils, w_gcns, w_gtp2, w_gtp3, w_gtp2p, w_ixT0, w_ixT1, w_ixT2, w_ch, w_chL, w_chK, w_par2, w_par3, w_add, w_sub, w_neg, w_lt, w_le, w_gt, w_ge, w_abs, w_int, w_intb, w_max2, w_min2, w_pno, w_ppart, w_sl, w_bm, w_yes, w_eqI, w_neI, w_eqB, w_neB, QS_nx, QS_rt, QS_bk, QS_ct, QF_nx, QF_rt, QL_nx, QL_ct, QL_bk, QL_rt, wipeE, List.set_cons_succ, List.set_cons_zero, List.getElem?_cons_succ, List.getElem?_cons_zero, D.bl.injEq, D.int.injEq, exists_eq_left', exists_eq_left, w_eAnd, w_tTru, tru_bl, if_true, if_false, Bool.false_eq_true, w_lru]
    exact h
  refine ⟨fun h => ?_, go Q⟩
  obtain ⟨x, S1, e, q⟩ := h
  obtain ⟨x', S1', e', q1, q2⟩ := go (fun d S2 => d = .int w ∧ S2 = S) ⟨rfl, rfl⟩
  rw [e] at e'
  cases e'
  subst q1
  subst q2
  exact q
theorem agedF_key {s w : Nat} {l b : Int} : ∀ p q, agedF s w l b p = some q → q.1 = p.1 := fun p q h => by
  unfold agedF at h
  split at h
  · cases h
  · split at h
    · cases h
      rfl
    · cases h
theorem agedF_ne {s w : Nat} {l b : Int} : ∀ p q, agedF s w l b p = some q → p.1 ≠ l := fun p q h => by
  unfold agedF at h
  split at h
  · cases h
  · assumption
theorem key_new {F : P → Option P} (hF : ∀ p q, F p = some q → q.1 = p.1) {l : Int} {k : List P} (nd : (k.map (·.1)).Nodup) {i : Nat} {p : P} (h : k[i]? = some p) (hp : p.1 ≠ l) : p.1 ∉ ((l, (0 : Int)) :: (k.take i).filterMap F).map (·.1) := by
  rw [List.map_cons, List.mem_cons]
  rintro (z | z)
  · exact hp z
  · exact fm_key hF nd h z
theorem fm_len {F : P → Option P} {k : List P} {i : Nat} : ((k.take i).filterMap F).length ≤ k.length := Nat.le_trans (List.length_filterMap_le _ _) (by rw [List.length_take]; omega)
theorem aged_ok {s w : Nat} {l : Int} {k : List P} (hs : 0 < s) (hw : w ≤ 100) (nd : (k.map (·.1)).Nodup) (hz : k.length ≤ 1000) (hb : ∀ p ∈ k, 0 ≤ p.2 ∧ p.2 ≤ 1000) :
    W (f_aged [tD s w, kD k, .int l] S) fun d S' => d = kD (sortP ((l, 0) :: k.filterMap (agedF s w l (bf w l k)))) ∧ Ap S S' := by
  have hs' : 0 < (s : Int) := by omega
  refine w_fn rfl ?_
  show W (b_aged [some (tD s w), some (kD k), some (.int l), none, none, none, none, none, none] S) _
  unfold b_aged
  simp only [w_seq, w_asg]
  refine w_get2 ?_
  simp only [w_seq, w_asg, w_ret, w_retN, w_drop, w_brk, w_cnt, w_nil, w_sif, w_c, w_ev, w_bin, w_un, w_anil, w_acons, w_tup, w_lst, w_call, w_tB, w_tNot, w_tAnd, w_tOr, w_eIf, w_isN, w_notN, w_gnm, w_gnils, w_gcns, w_gtp2, w_gtp3, w_gtp2p, w_ixT0, w_ixT1, w_ixT2, w_ch, w_chL, w_chK, w_par2, w_par3, w_add, w_sub, w_neg, w_lt, w_le, w_gt, w_ge, w_abs, w_int, w_intb, w_max2, w_min2, w_pno, w_ppart, w_sl, w_bm, w_yes, w_eqI, w_neI, w_eqB, w_neB, QS_nx, QS_rt, QS_bk, QS_ct, QF_nx, QF_rt, QL_nx, QL_ct, QL_bk, QL_rt, wipeE, List.set_cons_succ, List.set_cons_zero, List.getElem?_cons_succ, List.getElem?_cons_zero, D.bl.injEq, D.int.injEq, exists_eq_left', exists_eq_left, w_eAnd, w_tTru, tru_bl, if_true, if_false, Bool.false_eq_true, w_dictT nd, W_some]
  refine ⟨_, _, rfl, List.getElem?_concat_length, k, List.getElem?_concat_length, fun d hd => ?_⟩
  have ed : d = .int (bf w l k) := by
    rw [hd]
    unfold bf lkP
    cases (k.find? fun p => decide (p.1 = l)).map (·.2) <;> rfl
  subst ed
  clear hd
  refine w_dic ?_
  simp only [aPairs, w_seq, w_asg, w_ret, w_retN, w_drop, w_brk, w_cnt, w_nil, w_sif, w_c, w_ev, w_bin, w_un, w_anil, w_acons, w_tup, w_lst, w_call, w_tB, w_tNot, w_tAnd, w_tOr, w_eIf, w_isN, w_notN, w_gnm, w_gnils, w_gcns, w_gtp2, w_gtp3, w_gtp2p, w_ixT0, w_ixT1, w_ixT2, w_ch, w_chL, w_chK, w_par2, w_par3, w_add, w_sub, w_neg, w_lt, w_le, w_gt, w_ge, w_abs, w_int, w_intb, w_max2, w_min2, w_pno, w_ppart, w_sl, w_bm, w_yes, w_eqI, w_neI, w_eqB, w_neB, QS_nx, QS_rt, QS_bk, QS_ct, QF_nx, QF_rt, QL_nx, QL_ct, QL_bk, QL_rt, wipeE, List.set_cons_succ, List.set_cons_zero, List.getElem?_cons_succ, List.getElem?_cons_zero, D.bl.injEq, D.int.injEq, exists_eq_left', exists_eq_left, w_eAnd, w_tTru, tru_bl, if_true, if_false, Bool.false_eq_true]
  have merge1 : mergeG [] [((.inl l : Key), D.int 0)] = [(l, (0 : Int))].map kvI := rfl
  refine ⟨new_at _ _, _, rfl, (by show 1 ≤ 15; decide), ?_⟩
  generalize eb : bf w l k = b
  have ap : Ap S (((S ++ [O.dic (k.map kvI)]) ++ [O.dic []]).set (S ++ [O.dic (k.map kvI)]).length (.dic (mergeG [] [((.inl l : Key), D.int 0)]))) := (Ap.trans (Ap.app S _) (Ap.app _ _)).set (by rw [List.length_append]; omega)
  have g0 := set_at (o' := O.dic (mergeG [] [((.inl l : Key), D.int 0)])) (new_at (S ++ [O.dic (k.map kvI)]) (O.dic []))
  rw [merge1] at ap g0 ⊢
  have hn : S.length ≤ (S ++ [O.dic (k.map kvI)]).length := by rw [List.length_append]; omega
  revert ap g0 hn
  generalize (S ++ [O.dic (k.map kvI)]).length = n
  generalize ((S ++ [O.dic (k.map kvI)]) ++ [O.dic []]).set n (O.dic ([(l, (0 : Int))].map kvI)) = S2
  intro ap g0 hn
  refine w_for.mpr (w_iseqT ?_)
  simp only [w_seq, w_asg, w_ret, w_retN, w_drop, w_brk, w_cnt, w_nil, w_sif, w_c, w_ev, w_bin, w_un, w_anil, w_acons, w_tup, w_lst, w_call, w_tB, w_tNot, w_tAnd, w_tOr, w_eIf, w_isN, w_notN, w_gnm, w_gnils, w_gcns, w_gtp2, w_gtp3, w_gtp2p, w_ixT0, w_ixT1, w_ixT2, w_ch, w_chL, w_chK, w_par2, w_par3, w_add, w_sub, w_neg, w_lt, w_le, w_gt, w_ge, w_abs, w_int, w_intb, w_max2, w_min2, w_pno, w_ppart, w_sl, w_bm, w_yes, w_eqI, w_neI, w_eqB, w_neB, QS_nx, QS_rt, QS_bk, QS_ct, QF_nx, QF_rt, QL_nx, QL_ct, QL_bk, QL_rt, wipeE, List.set_cons_succ, List.set_cons_zero, List.getElem?_cons_succ, List.getElem?_cons_zero, D.bl.injEq, D.int.injEq, exists_eq_left', exists_eq_left, w_eAnd, w_tTru, tru_bl, if_true, if_false, Bool.false_eq_true]
  refine ⟨_, rfl, ?_⟩
  refine for_fix (fun i env S' => ∃ x y z v, env = [some (tD s w), some (kD k), some (.int l), some (.int b), some (.ref n), x, y, z, v] ∧ Ap S S' ∧ S'[n]? = some (.dic (((l, 0) :: (k.take i).filterMap (agedF s w l b)).map kvI))) ?_ ?_ ⟨_, _, _, _, rfl, ap, g0⟩
  · rintro i d env S' hd ⟨x, y, z, v, rfl, a, g⟩
    rw [List.getElem?_map] at hd
    obtain ⟨⟨p, q⟩, hp, rfl⟩ := Option.map_eq_some_iff.mp hd
    have hm := hb _ (List.mem_iff_getElem?.mpr ⟨i, hp⟩)
    have su := fm_succ (agedF s w l b) hp
    rw [su]
    have skip : agedF s w l b (p, q) = none → ∀ x y z v : Option D, ∃ x1 y1 z1 v1, [some (tD s w), some (kD k), some (D.int l), some (D.int b), some (D.ref n), x, y, z, v] = [some (tD s w), some (kD k), some (D.int l), some (D.int b), some (D.ref n), x1, y1, z1, v1] ∧ Ap S S' ∧ S'[n]? = some (.dic (((l, 0) :: ((k.take i).filterMap (agedF s w l b) ++ (agedF s w l b (p, q)).toList)).map kvI)) := fun e x y z v =>
      ⟨x, y, z, v, rfl, a, by rw [e]; simpa using g⟩
    have put : ∀ o : Int, agedF s w l b (p, q) = some (p, o) → ∀ y z v : Option D, W (gIx (eVar 4) (eVar 5) (D.int o) [some (tD s w), some (kD k), some (D.int l), some (D.int b), some (D.ref n), some (D.int p), y, z, v] S') fun env S' => ∃ x1 y1 z1 v1, env = [some (tD s w), some (kD k), some (D.int l), some (D.int b), some (D.ref n), x1, y1, z1, v1] ∧ Ap S S' ∧ S'[n]? = some (.dic (((l, 0) :: ((k.take i).filterMap (agedF s w l b) ++ (agedF s w l b (p, q)).toList)).map kvI)) := fun o e y z v => by
      have hk := key_new (agedF_key (s := s) (w := w) (l := l) (b := b)) (l := l) nd hp (agedF_ne _ _ e)
      have hl : ((l, (0 : Int)) :: (k.take i).filterMap (agedF s w l b)).length < cap := by
        rw [List.length_cons]
        have := fm_len (F := agedF s w l b) (k := k) (i := i)
        unfold cap
        omega
      refine (w_setI rfl rfl g hl hk).mpr ⟨_, _, _, _, rfl, a.set hn, ?_⟩
      rw [set_at g, e]
      rfl
    have af : agedF s w l b (p, q) = if p = l then none else if (if p % (s : Int) = l % (s : Int) ∧ q ≤ b then q + 1 else q) < (w : Int) then some (p, (if p % (s : Int) = l % (s : Int) ∧ q ≤ b then q + 1 else q)) else none := rfl
    simp only [w_seq, w_asg, w_ret, w_retN, w_drop, w_brk, w_cnt, w_nil, w_sif, w_c, w_ev, w_bin, w_un, w_anil, w_acons, w_tup, w_lst, w_call, w_tB, w_tNot, w_tAnd, w_tOr, w_eIf, w_isN, w_notN, w_gnm, w_gnils, w_gcns, w_gtp2, w_gtp3, w_gtp2p, w_ixT0, w_ixT1, w_ixT2, w_ch, w_chL, w_chK, w_par2, w_par3, w_add, w_sub, w_neg, w_lt, w_le, w_gt, w_ge, w_abs, w_int, w_intb, w_max2, w_min2, w_pno, w_ppart, w_sl, w_bm, w_yes, w_eqI, w_neI, w_eqB, w_neB, QS_nx, QS_rt, QS_bk, QS_ct, QF_nx, QF_rt, QL_nx, QL_ct, QL_bk, QL_rt, wipeE, List.set_cons_succ, List.set_cons_zero, List.getElem?_cons_succ, List.getElem?_cons_zero, D.bl.injEq, D.int.injEq, exists_eq_left', exists_eq_left, w_eAnd, w_tTru, tru_bl, if_true, if_false, Bool.false_eq_true, w_lru, w_mod hs', decide_eq_true_eq]
    by_cases h1 : p = l
    · rw [if_neg (by rw [decide_eq_true h1]; decide)]
      exact skip (by rw [af, if_pos h1]) _ _ _ _
    · rw [if_pos (by rw [decide_eq_false h1]; rfl)]
      rw [if_neg h1] at af
      by_cases h2 : p % (s : Int) = l % (s : Int)
      · by_cases h3 : q ≤ b
        · rw [if_pos h2, if_pos h3]
          rw [show (if p % (s : Int) = l % (s : Int) ∧ q ≤ b then q + 1 else q) = q + 1 from if_pos ⟨h2, h3⟩] at af
          by_cases h4 : q + 1 < (w : Int)
          · rw [if_pos h4] at af ⊢
            exact put _ af _ _ _
          · rw [if_neg h4] at af ⊢
            exact skip af _ _ _ _
        · rw [if_pos h2, if_neg h3]
          rw [show (if p % (s : Int) = l % (s : Int) ∧ q ≤ b then q + 1 else q) = q from if_neg fun z => h3 z.2] at af
          by_cases h4 : q < (w : Int)
          · rw [if_pos h4] at af ⊢
            exact put _ af _ _ _
          · rw [if_neg h4] at af ⊢
            exact skip af _ _ _ _
      · rw [if_neg h2, if_neg h2]
        rw [show (if p % (s : Int) = l % (s : Int) ∧ q ≤ b then q + 1 else q) = q from if_neg fun z => h2 z.1] at af
        by_cases h4 : q < (w : Int)
        · rw [if_pos h4] at af ⊢
          exact put _ af _ _ _
        · rw [if_neg h4] at af ⊢
          exact skip af _ _ _ _
  · rintro env S' ⟨x, y, z, v, rfl, a, g⟩
    have gk : S'[n]? = some (.dic (((l, 0) :: k.filterMap (agedF s w l b)).map kvI)) := by
      rw [g, List.length_map, List.take_length]
    simp only [w_seq, w_asg, w_ret, w_retN, w_drop, w_brk, w_cnt, w_nil, w_sif, w_c, w_ev, w_bin, w_un, w_anil, w_acons, w_tup, w_lst, w_call, w_tB, w_tNot, w_tAnd, w_tOr, w_eIf, w_isN, w_notN, w_gnm, w_gnils, w_gcns, w_gtp2, w_gtp3, w_gtp2p, w_ixT0, w_ixT1, w_ixT2, w_ch, w_chL, w_chK, w_par2, w_par3, w_add, w_sub, w_neg, w_lt, w_le, w_gt, w_ge, w_abs, w_int, w_intb, w_max2, w_min2, w_pno, w_ppart, w_sl, w_bm, w_yes, w_eqI, w_neI, w_eqB, w_neB, QS_nx, QS_rt, QS_bk, QS_ct, QF_nx, QF_rt, QL_nx, QL_ct, QL_bk, QL_rt, wipeE, List.set_cons_succ, List.set_cons_zero, List.getElem?_cons_succ, List.getElem?_cons_zero, D.bl.injEq, D.int.injEq, exists_eq_left', exists_eq_left, w_eAnd, w_tTru, tru_bl, if_true, if_false, Bool.false_eq_true]
    refine w_sortItems ?_
    simp only [w_seq, w_asg, w_ret, w_retN, w_drop, w_brk, w_cnt, w_nil, w_sif, w_c, w_ev, w_bin, w_un, w_anil, w_acons, w_tup, w_lst, w_call, w_tB, w_tNot, w_tAnd, w_tOr, w_eIf, w_isN, w_notN, w_gnm, w_gnils, w_gcns, w_gtp2, w_gtp3, w_gtp2p, w_ixT0, w_ixT1, w_ixT2, w_ch, w_chL, w_chK, w_par2, w_par3, w_add, w_sub, w_neg, w_lt, w_le, w_gt, w_ge, w_abs, w_int, w_intb, w_max2, w_min2, w_pno, w_ppart, w_sl, w_bm, w_yes, w_eqI, w_neI, w_eqB, w_neB, QS_nx, QS_rt, QS_bk, QS_ct, QF_nx, QF_rt, QL_nx, QL_ct, QL_bk, QL_rt, wipeE, List.set_cons_succ, List.set_cons_zero, List.getElem?_cons_succ, List.getElem?_cons_zero, D.bl.injEq, D.int.injEq, exists_eq_left', exists_eq_left, w_eAnd, w_tTru, tru_bl, if_true, if_false, Bool.false_eq_true, W_some]
    refine ⟨n, _, _, rfl, gk, intKV_kvI _, ?_, ?_⟩
    · have := fm_len (F := agedF s w l b) (k := k) (i := k.length)
      rw [List.take_length] at this
      rw [List.length_cons]
      unfold cap
      omega
    · rw [w_tupR (getL_of (new_at _ _))]
      exact ⟨rfl, a.trans (Ap.app _ _)⟩
theorem usedF_key {s w : Nat} {l b : Int} : ∀ p q, usedF s w l b p = some q → q.1 = p.1 := fun p q h => by rw [(usedF_some.mp h).2.1]
def uK (s w : Nat) (l : Int) (k : List P) : List P := sortP ((l, 0) :: usedL s w l (bf w l k) k)
def aK (s w : Nat) (l : Int) (k : List P) : List P := sortP ((l, 0) :: k.filterMap (agedF s w l (bf w l k)))
def mD : Option (List P) → D
  | none => .non
  | some k => kD k
structure Kok (k : List P) : Prop where
  nd : (k.map (·.1)).Nodup
  len : k.length ≤ 1000
  age : ∀ p ∈ k, 0 ≤ p.2 ∧ p.2 ≤ 1000
theorem used_ok {s w : Nat} {l : Int} {k : List P} {m : Option (List P)} (hs : 0 < s) (hw : w ≤ 100) (hk : Kok k) (hm : ∀ k2, m = some k2 → Kok k2) :
    W (f_used [tD s w, .tup [kD k, mD m], .int l] S) fun d S' => d = .tup [kD (uK s w l k), mD (m.map (aK s w l))] ∧ Ap S S' := by
  obtain ⟨nd, hz, hb⟩ := hk
  have hs' : 0 < (s : Int) := by omega
  refine w_fn rfl ?_
  show W (b_used [some (tD s w), some (.tup [kD k, mD m]), some (.int l), none, none, none, none, none, none, none, none] S) _
  unfold b_used
  simp only [w_seq, w_asg, w_ret, w_retN, w_drop, w_brk, w_cnt, w_nil, w_sif, w_c, w_ev, w_bin, w_un, w_anil, w_acons, w_tup, w_lst, w_call, w_tB, w_tNot, w_tAnd, w_tOr, w_eIf, w_isN, w_notN, w_gnm, w_gnils, w_gcns, w_gtp2, w_gtp3, w_gtp2p, w_ixT0, w_ixT1, w_ixT2, w_ch, w_chL, w_chK, w_par2, w_par3, w_add, w_sub, w_neg, w_lt, w_le, w_gt, w_ge, w_abs, w_int, w_intb, w_max2, w_min2, w_pno, w_ppart, w_sl, w_bm, w_yes, w_eqI, w_neI, w_eqB, w_neB, QS_nx, QS_rt, QS_bk, QS_ct, QF_nx, QF_rt, QL_nx, QL_ct, QL_bk, QL_rt, wipeE, List.set_cons_succ, List.set_cons_zero, List.getElem?_cons_succ, List.getElem?_cons_zero, D.bl.injEq, D.int.injEq, exists_eq_left', exists_eq_left, w_eAnd, w_tTru, tru_bl, if_true, if_false, Bool.false_eq_true, ways_sure_ok]
  refine w_get2 ?_
  simp only [w_seq, w_asg, w_ret, w_retN, w_drop, w_brk, w_cnt, w_nil, w_sif, w_c, w_ev, w_bin, w_un, w_anil, w_acons, w_tup, w_lst, w_call, w_tB, w_tNot, w_tAnd, w_tOr, w_eIf, w_isN, w_notN, w_gnm, w_gnils, w_gcns, w_gtp2, w_gtp3, w_gtp2p, w_ixT0, w_ixT1, w_ixT2, w_ch, w_chL, w_chK, w_par2, w_par3, w_add, w_sub, w_neg, w_lt, w_le, w_gt, w_ge, w_abs, w_int, w_intb, w_max2, w_min2, w_pno, w_ppart, w_sl, w_bm, w_yes, w_eqI, w_neI, w_eqB, w_neB, QS_nx, QS_rt, QS_bk, QS_ct, QF_nx, QF_rt, QL_nx, QL_ct, QL_bk, QL_rt, wipeE, List.set_cons_succ, List.set_cons_zero, List.getElem?_cons_succ, List.getElem?_cons_zero, D.bl.injEq, D.int.injEq, exists_eq_left', exists_eq_left, w_eAnd, w_tTru, tru_bl, if_true, if_false, Bool.false_eq_true, w_dictT nd, W_some]
  refine ⟨_, _, rfl, List.getElem?_concat_length, k, List.getElem?_concat_length, fun d hd => ?_⟩
  have ed : d = .int (bf w l k) := by
    rw [hd]
    unfold bf lkP
    cases (k.find? fun p => decide (p.1 = l)).map (·.2) <;> rfl
  subst ed
  clear hd
  refine w_dic ?_
  simp only [aPairs, w_seq, w_asg, w_ret, w_retN, w_drop, w_brk, w_cnt, w_nil, w_sif, w_c, w_ev, w_bin, w_un, w_anil, w_acons, w_tup, w_lst, w_call, w_tB, w_tNot, w_tAnd, w_tOr, w_eIf, w_isN, w_notN, w_gnm, w_gnils, w_gcns, w_gtp2, w_gtp3, w_gtp2p, w_ixT0, w_ixT1, w_ixT2, w_ch, w_chL, w_chK, w_par2, w_par3, w_add, w_sub, w_neg, w_lt, w_le, w_gt, w_ge, w_abs, w_int, w_intb, w_max2, w_min2, w_pno, w_ppart, w_sl, w_bm, w_yes, w_eqI, w_neI, w_eqB, w_neB, QS_nx, QS_rt, QS_bk, QS_ct, QF_nx, QF_rt, QL_nx, QL_ct, QL_bk, QL_rt, wipeE, List.set_cons_succ, List.set_cons_zero, List.getElem?_cons_succ, List.getElem?_cons_zero, D.bl.injEq, D.int.injEq, exists_eq_left', exists_eq_left, w_eAnd, w_tTru, tru_bl, if_true, if_false, Bool.false_eq_true]
  have merge1 : mergeG [] [((.inl l : Key), D.int 0)] = [(l, (0 : Int))].map kvI := rfl
  refine ⟨new_at _ _, _, rfl, (by show 1 ≤ 15; decide), ?_⟩
  have eu : uK s w l k = sortP ((l, 0) :: usedL s w l (bf w l k) k) := rfl
  rw [eu]
  clear eu
  generalize eb : bf w l k = b
  have ap : Ap S (((S ++ [O.dic (k.map kvI)]) ++ [O.dic []]).set (S ++ [O.dic (k.map kvI)]).length (.dic (mergeG [] [((.inl l : Key), D.int 0)]))) := (Ap.trans (Ap.app S _) (Ap.app _ _)).set (by rw [List.length_append]; omega)
  have g0 := set_at (o' := O.dic (mergeG [] [((.inl l : Key), D.int 0)])) (new_at (S ++ [O.dic (k.map kvI)]) (O.dic []))
  rw [merge1] at ap g0 ⊢
  have hn : S.length ≤ (S ++ [O.dic (k.map kvI)]).length := by rw [List.length_append]; omega
  revert ap g0 hn
  generalize (S ++ [O.dic (k.map kvI)]).length = n
  generalize ((S ++ [O.dic (k.map kvI)]) ++ [O.dic []]).set n (O.dic ([(l, (0 : Int))].map kvI)) = S2
  intro ap g0 hn
  refine w_for.mpr (w_iseqT ?_)
  simp only [w_seq, w_asg, w_ret, w_retN, w_drop, w_brk, w_cnt, w_nil, w_sif, w_c, w_ev, w_bin, w_un, w_anil, w_acons, w_tup, w_lst, w_call, w_tB, w_tNot, w_tAnd, w_tOr, w_eIf, w_isN, w_notN, w_gnm, w_gnils, w_gcns, w_gtp2, w_gtp3, w_gtp2p, w_ixT0, w_ixT1, w_ixT2, w_ch, w_chL, w_chK, w_par2, w_par3, w_add, w_sub, w_neg, w_lt, w_le, w_gt, w_ge, w_abs, w_int, w_intb, w_max2, w_min2, w_pno, w_ppart, w_sl, w_bm, w_yes, w_eqI, w_neI, w_eqB, w_neB, QS_nx, QS_rt, QS_bk, QS_ct, QF_nx, QF_rt, QL_nx, QL_ct, QL_bk, QL_rt, wipeE, List.set_cons_succ, List.set_cons_zero, List.getElem?_cons_succ, List.getElem?_cons_zero, D.bl.injEq, D.int.injEq, exists_eq_left', exists_eq_left, w_eAnd, w_tTru, tru_bl, if_true, if_false, Bool.false_eq_true]
  refine ⟨_, rfl, ?_⟩
  refine for_fix (fun i env S' => ∃ x y z, env = [some (tD s w), some (.tup [kD k, mD m]), some (.int l), some (kD k), some (mD m), some (.int w), some (.int b), some (.ref n), x, y, z] ∧ Ap S S' ∧ S'[n]? = some (.dic (((l, 0) :: (k.take i).filterMap (usedF s w l b)).map kvI))) ?_ ?_ ⟨_, _, _, rfl, ap, g0⟩
  · rintro i d env S' hd ⟨x, y, z, rfl, a, g⟩
    rw [List.getElem?_map] at hd
    obtain ⟨⟨p, q⟩, hp, rfl⟩ := Option.map_eq_some_iff.mp hd
    have hm := hb _ (List.mem_iff_getElem?.mpr ⟨i, hp⟩)
    have su := fm_succ (usedF s w l b) hp
    rw [su]
    have skip : usedF s w l b (p, q) = none → ∀ x y z : Option D, ∃ x1 y1 z1, [some (tD s w), some (.tup [kD k, mD m]), some (.int l), some (kD k), some (mD m), some (.int w), some (.int b), some (.ref n), x, y, z] = [some (tD s w), some (.tup [kD k, mD m]), some (.int l), some (kD k), some (mD m), some (.int w), some (.int b), some (.ref n), x1, y1, z1] ∧ Ap S S' ∧ S'[n]? = some (.dic (((l, 0) :: ((k.take i).filterMap (usedF s w l b) ++ (usedF s w l b (p, q)).toList)).map kvI)) := fun e x y z =>
      ⟨x, y, z, rfl, a, by rw [e]; simpa using g⟩
    have put : ∀ o : Int, usedF s w l b (p, q) = some (p, o) → ∀ y z : Option D, W (gIx (eVar 7) (eVar 8) (D.int o) [some (tD s w), some (.tup [kD k, mD m]), some (.int l), some (kD k), some (mD m), some (.int w), some (.int b), some (.ref n), some (D.int p), y, z] S') fun env S' => ∃ x1 y1 z1, env = [some (tD s w), some (.tup [kD k, mD m]), some (.int l), some (kD k), some (mD m), some (.int w), some (.int b), some (.ref n), x1, y1, z1] ∧ Ap S S' ∧ S'[n]? = some (.dic (((l, 0) :: ((k.take i).filterMap (usedF s w l b) ++ (usedF s w l b (p, q)).toList)).map kvI)) := fun o e y z => by
      have hk := key_new (usedF_key (s := s) (w := w) (l := l) (b := b)) (l := l) nd hp (usedF_some.mp e).1
      have hl : ((l, (0 : Int)) :: (k.take i).filterMap (usedF s w l b)).length < cap := by
        rw [List.length_cons]
        have := fm_len (F := usedF s w l b) (k := k) (i := i)
        unfold cap
        omega
      refine (w_setI rfl rfl g hl hk).mpr ⟨_, _, _, rfl, a.set hn, ?_⟩
      rw [set_at g, e]
      rfl
    have af : usedF s w l b (p, q) = if p = l then none else if (if p % (s : Int) = l % (s : Int) ∧ q < b then q + 1 else q) < (w : Int) then some (p, (if p % (s : Int) = l % (s : Int) ∧ q < b then q + 1 else q)) else none := rfl
    simp only [w_seq, w_asg, w_ret, w_retN, w_drop, w_brk, w_cnt, w_nil, w_sif, w_c, w_ev, w_bin, w_un, w_anil, w_acons, w_tup, w_lst, w_call, w_tB, w_tNot, w_tAnd, w_tOr, w_eIf, w_isN, w_notN, w_gnm, w_gnils, w_gcns, w_gtp2, w_gtp3, w_gtp2p, w_ixT0, w_ixT1, w_ixT2, w_ch, w_chL, w_chK, w_par2, w_par3, w_add, w_sub, w_neg, w_lt, w_le, w_gt, w_ge, w_abs, w_int, w_intb, w_max2, w_min2, w_pno, w_ppart, w_sl, w_bm, w_yes, w_eqI, w_neI, w_eqB, w_neB, QS_nx, QS_rt, QS_bk, QS_ct, QF_nx, QF_rt, QL_nx, QL_ct, QL_bk, QL_rt, wipeE, List.set_cons_succ, List.set_cons_zero, List.getElem?_cons_succ, List.getElem?_cons_zero, D.bl.injEq, D.int.injEq, exists_eq_left', exists_eq_left, w_eAnd, w_tTru, tru_bl, if_true, if_false, Bool.false_eq_true, w_lru, w_mod hs', decide_eq_true_eq]
    by_cases h1 : p = l
    · rw [if_neg (by rw [decide_eq_true h1]; decide)]
      exact skip (by rw [af, if_pos h1]) _ _ _
    · rw [if_pos (by rw [decide_eq_false h1]; rfl)]
      rw [if_neg h1] at af
      by_cases h2 : p % (s : Int) = l % (s : Int)
      · by_cases h3 : q < b
        · rw [if_pos h2, if_pos h3]
          rw [show (if p % (s : Int) = l % (s : Int) ∧ q < b then q + 1 else q) = q + 1 from if_pos ⟨h2, h3⟩] at af
          by_cases h4 : q + 1 < (w : Int)
          · rw [if_pos h4] at af ⊢
            exact put _ af _ _
          · rw [if_neg h4] at af ⊢
            exact skip af _ _ _
        · rw [if_pos h2, if_neg h3]
          rw [show (if p % (s : Int) = l % (s : Int) ∧ q < b then q + 1 else q) = q from if_neg fun z => h3 z.2] at af
          by_cases h4 : q < (w : Int)
          · rw [if_pos h4] at af ⊢
            exact put _ af _ _
          · rw [if_neg h4] at af ⊢
            exact skip af _ _ _
      · rw [if_neg h2]
        rw [show (if p % (s : Int) = l % (s : Int) ∧ q < b then q + 1 else q) = q from if_neg fun z => h2 z.1] at af
        by_cases h4 : q < (w : Int)
        · rw [if_pos h4] at af ⊢
          exact put _ af _ _
        · rw [if_neg h4] at af ⊢
          exact skip af _ _ _
  · rintro env S' ⟨x, y, z, rfl, a, g⟩
    have gk : S'[n]? = some (.dic (((l, 0) :: usedL s w l b k).map kvI)) := by
      rw [g, List.length_map, List.take_length]
      rfl
    have hl : ((l, (0 : Int)) :: usedL s w l b k).length ≤ cap := by
      have := fm_len (F := usedF s w l b) (k := k) (i := k.length)
      rw [List.take_length] at this
      rw [List.length_cons]
      unfold cap usedL
      omega
    cases m with
    | none =>
      simp only [w_seq, w_asg, w_ret, w_retN, w_drop, w_brk, w_cnt, w_nil, w_sif, w_c, w_ev, w_bin, w_un, w_anil, w_acons, w_tup, w_lst, w_call, w_tB, w_tNot, w_tAnd, w_tOr, w_eIf, w_isN, w_notN, w_gnm, w_gnils, w_gcns, w_gtp2, w_gtp3, w_gtp2p, w_ixT0, w_ixT1, w_ixT2, w_ch, w_chL, w_chK, w_par2, w_par3, w_add, w_sub, w_neg, w_lt, w_le, w_gt, w_ge, w_abs, w_int, w_intb, w_max2, w_min2, w_pno, w_ppart, w_sl, w_bm, w_yes, w_eqI, w_neI, w_eqB, w_neB, QS_nx, QS_rt, QS_bk, QS_ct, QF_nx, QF_rt, QL_nx, QL_ct, QL_bk, QL_rt, wipeE, List.set_cons_succ, List.set_cons_zero, List.getElem?_cons_succ, List.getElem?_cons_zero, D.bl.injEq, D.int.injEq, exists_eq_left', exists_eq_left, w_eAnd, w_tTru, tru_bl, if_true, if_false, Bool.false_eq_true, mD, decide_true]
      refine w_sortItems ?_
      simp only [w_seq, w_asg, w_ret, w_retN, w_drop, w_brk, w_cnt, w_nil, w_sif, w_c, w_ev, w_bin, w_un, w_anil, w_acons, w_tup, w_lst, w_call, w_tB, w_tNot, w_tAnd, w_tOr, w_eIf, w_isN, w_notN, w_gnm, w_gnils, w_gcns, w_gtp2, w_gtp3, w_gtp2p, w_ixT0, w_ixT1, w_ixT2, w_ch, w_chL, w_chK, w_par2, w_par3, w_add, w_sub, w_neg, w_lt, w_le, w_gt, w_ge, w_abs, w_int, w_intb, w_max2, w_min2, w_pno, w_ppart, w_sl, w_bm, w_yes, w_eqI, w_neI, w_eqB, w_neB, QS_nx, QS_rt, QS_bk, QS_ct, QF_nx, QF_rt, QL_nx, QL_ct, QL_bk, QL_rt, wipeE, List.set_cons_succ, List.set_cons_zero, List.getElem?_cons_succ, List.getElem?_cons_zero, D.bl.injEq, D.int.injEq, exists_eq_left', exists_eq_left, w_eAnd, w_tTru, tru_bl, if_true, if_false, Bool.false_eq_true, W_some]
      refine ⟨n, _, _, rfl, gk, intKV_kvI _, hl, ?_⟩
      rw [w_tupR (getL_of (new_at _ _))]
      exact ⟨(by show 2 ≤ 10000000; decide), rfl, a.trans (Ap.app _ _)⟩
    | some k2 =>
      obtain ⟨nd2, hz2, hb2⟩ := hm k2 rfl
      simp only [w_seq, w_asg, w_ret, w_retN, w_drop, w_brk, w_cnt, w_nil, w_sif, w_c, w_ev, w_bin, w_un, w_anil, w_acons, w_tup, w_lst, w_call, w_tB, w_tNot, w_tAnd, w_tOr, w_eIf, w_isN, w_notN, w_gnm, w_gnils, w_gcns, w_gtp2, w_gtp3, w_gtp2p, w_ixT0, w_ixT1, w_ixT2, w_ch, w_chL, w_chK, w_par2, w_par3, w_add, w_sub, w_neg, w_lt, w_le, w_gt, w_ge, w_abs, w_int, w_intb, w_max2, w_min2, w_pno, w_ppart, w_sl, w_bm, w_yes, w_eqI, w_neI, w_eqB, w_neB, QS_nx, QS_rt, QS_bk, QS_ct, QF_nx, QF_rt, QL_nx, QL_ct, QL_bk, QL_rt, wipeE, List.set_cons_succ, List.set_cons_zero, List.getElem?_cons_succ, List.getElem?_cons_zero, D.bl.injEq, D.int.injEq, exists_eq_left', exists_eq_left, w_eAnd, w_tTru, tru_bl, if_true, if_false, Bool.false_eq_true, mD]
      refine w_sortItems ?_
      simp only [w_seq, w_asg, w_ret, w_retN, w_drop, w_brk, w_cnt, w_nil, w_sif, w_c, w_ev, w_bin, w_un, w_anil, w_acons, w_tup, w_lst, w_call, w_tB, w_tNot, w_tAnd, w_tOr, w_eIf, w_isN, w_notN, w_gnm, w_gnils, w_gcns, w_gtp2, w_gtp3, w_gtp2p, w_ixT0, w_ixT1, w_ixT2, w_ch, w_chL, w_chK, w_par2, w_par3, w_add, w_sub, w_neg, w_lt, w_le, w_gt, w_ge, w_abs, w_int, w_intb, w_max2, w_min2, w_pno, w_ppart, w_sl, w_bm, w_yes, w_eqI, w_neI, w_eqB, w_neB, QS_nx, QS_rt, QS_bk, QS_ct, QF_nx, QF_rt, QL_nx, QL_ct, QL_bk, QL_rt, wipeE, List.set_cons_succ, List.set_cons_zero, List.getElem?_cons_succ, List.getElem?_cons_zero, D.bl.injEq, D.int.injEq, exists_eq_left', exists_eq_left, w_eAnd, w_tTru, tru_bl, if_true, if_false, Bool.false_eq_true, W_some]
      refine ⟨n, _, _, rfl, gk, intKV_kvI _, hl, ?_⟩
      rw [w_tupR (getL_of (new_at _ _))]
      obtain ⟨d, S3, e, rfl, a3⟩ := aged_ok (S := S' ++ [.lst ((sortP ((l, 0) :: usedL s w l b k)).map pD)]) (l := l) hs hw nd2 hz2 hb2
      exact ⟨_, _, e, (by show 2 ≤ 10000000; decide), rfl, (a.trans (Ap.app _ _)).trans a3⟩
end
end K51
/-! K51c: filled, missed, touched, verdicts, the cut. -/
namespace K51
open PySem L2 FL M51
section
variable {S : Sto} {Q : D → Sto → Prop}
abbrev knD (k : List P) (m : Option (List P)) : D := .tup [kD k, mD m]
theorem filled_ok {s w : Nat} {l : Int} {k : List P} {m : Option (List P)} (hs : 0 < s) (hw : w ≤ 100) (hk : Kok k) (hm : ∀ k2, m = some k2 → Kok k2) :
    W (f_filled [tD s w, knD k m, .int l] S) fun d S' => d = knD (uK s w l k) (m.map (aK s w l)) ∧ Ap S S' := by
  refine w_fn rfl ?_
  show W (b_filled [some (tD s w), some (knD k m), some (.int l)] S) _
  unfold b_filled
  simp only [w_seq, w_asg, w_ret, w_retN, w_drop, w_brk, w_cnt, w_nil, w_sif, w_c, w_ev, w_bin, w_un, w_anil, w_acons, w_tup, w_lst, w_call, w_tB, w_tNot, w_tAnd, w_tOr, w_eIf, w_isN, w_notN, w_gnm, w_gnils, w_gcns, w_gtp2, w_gtp3, w_gtp2p, w_ixT0, w_ixT1, w_ixT2, w_ch, w_chL, w_chK, w_par2, w_par3, w_add, w_sub, w_neg, w_lt, w_le, w_gt, w_ge, w_abs, w_int, w_intb, w_max2, w_min2, w_pno, w_ppart, w_sl, w_bm, w_yes, w_eqI, w_neI, w_eqB, w_neB, QS_nx, QS_rt, QS_bk, QS_ct, QF_nx, QF_rt, QL_nx, QL_ct, QL_bk, QL_rt, wipeE, List.set_cons_succ, List.set_cons_zero, List.getElem?_cons_succ, List.getElem?_cons_zero, D.bl.injEq, D.int.injEq, exists_eq_left', exists_eq_left, w_eAnd, w_tTru, tru_bl, if_true, if_false, Bool.false_eq_true]
  exact used_ok hs hw hk hm
theorem touched_ok {s w : Nat} {l : Int} {k : List P} {m : Option (List P)} (hs : 0 < s) (hw : w ≤ 100) (hk : Kok k) (hm : ∀ k2, m = some k2 → Kok k2) :
    W (f_touched [tD s w, knD k m, .int l] S) fun d S' => d = knD (uK s w l k) (m.map (aK s w l)) ∧ Ap S S' := by
  refine w_fn rfl ?_
  show W (b_touched [some (tD s w), some (knD k m), some (.int l), none, none, none, none] S) _
  unfold b_touched
  simp only [w_seq, w_asg, w_ret, w_retN, w_drop, w_brk, w_cnt, w_nil, w_sif, w_c, w_ev, w_bin, w_un, w_anil, w_acons, w_tup, w_lst, w_call, w_tB, w_tNot, w_tAnd, w_tOr, w_eIf, w_isN, w_notN, w_gnm, w_gnils, w_gcns, w_gtp2, w_gtp3, w_gtp2p, w_ixT0, w_ixT1, w_ixT2, w_ch, w_chL, w_chK, w_par2, w_par3, w_add, w_sub, w_neg, w_lt, w_le, w_gt, w_ge, w_abs, w_int, w_intb, w_max2, w_min2, w_pno, w_ppart, w_sl, w_bm, w_yes, w_eqI, w_neI, w_eqB, w_neB, QS_nx, QS_rt, QS_bk, QS_ct, QF_nx, QF_rt, QL_nx, QL_ct, QL_bk, QL_rt, wipeE, List.set_cons_succ, List.set_cons_zero, List.getElem?_cons_succ, List.getElem?_cons_zero, D.bl.injEq, D.int.injEq, exists_eq_left', exists_eq_left, w_eAnd, w_tTru, tru_bl, if_true, if_false, Bool.false_eq_true, w_lru]
  exact used_ok hs hw hk hm
def onP (f : P → Bool) : D → Bool
  | .tup [.int a, .int b] => f (a, b)
  | _ => false
theorem filter_pD (f : P → Bool) : ∀ k : List P, (k.map pD).filter (onP f) = (k.filter f).map pD
  | [] => rfl
  | p :: k => by
    rw [List.map_cons, List.filter_cons, List.filter_cons, show onP f (pD p) = f p from rfl, filter_pD f k]
    split <;> rfl
/-- the pairs that pass -/
theorem w_lcP {fi : FI} {g : FG} {tt : FT} {te : FE} {vs : List Nat} {env : FL.Env} {k : List P} (f : P → Bool)
    (hi : W (fi env S) fun it S1 => Ap S S1 ∧ k.length ≤ it.len ∧ ∀ S2, Ap S1 S2 → ∀ i, it.it S2 i = some (k.map pD)[i]?)
    (hb : ∀ p ∈ k, ∀ S2, Ap S S2 → W (g (pD p) (wipeE env vs) S2) fun e1 S3 => W (tt e1 S3) fun b S4 => b = f p ∧ Ap S2 S4 ∧ (f p = true → W (te e1 S4) fun y S5 => y = pD p ∧ Ap S4 S5))
    (hl : k.length ≤ cap) (hq : ∀ n S', Ap S S' → S.length ≤ n → S'[n]? = some (.lst ((k.filter f).map pD)) → Q (.ref n) S') : W (eLc fi g tt te vs env S) Q := by
  refine w_lcm (ds := k.map pD) id (onP f) ?_ (fun d hd S2 a => ?_) (by simpa using hl) (fun n S' a l h => hq n S' a l ?_)
  · obtain ⟨it, S1, e, h1, h2, h3⟩ := hi
    exact ⟨it, S1, e, h1, by simpa using h2, h3⟩
  · obtain ⟨p, hp, rfl⟩ := List.mem_map.mp hd
    exact hb p hp S2 a
  · rw [h, List.map_id, filter_pD]
theorem missed_ok {l : Int} {k : List P} {m : Option (List P)} (hm : ∀ k2, m = some k2 → Kok k2) :
    W (f_missed [knD k m, .int l] S) fun d S' => d = knD k (m.map fun k2 => k2.filter fun p => decide (p.1 ≠ l)) ∧ Ap S S' := by
  refine w_fn rfl ?_
  show W (b_missed [some (knD k m), some (.int l), none, none, none] S) _
  unfold b_missed
  cases m with
  | none =>
    simp only [w_seq, w_asg, w_ret, w_retN, w_drop, w_brk, w_cnt, w_nil, w_sif, w_c, w_ev, w_bin, w_un, w_anil, w_acons, w_tup, w_lst, w_call, w_tB, w_tNot, w_tAnd, w_tOr, w_eIf, w_isN, w_notN, w_gnm, w_gnils, w_gcns, w_gtp2, w_gtp3, w_gtp2p, w_ixT0, w_ixT1, w_ixT2, w_ch, w_chL, w_chK, w_par2, w_par3, w_add, w_sub, w_neg, w_lt, w_le, w_gt, w_ge, w_abs, w_int, w_intb, w_max2, w_min2, w_pno, w_ppart, w_sl, w_bm, w_yes, w_eqI, w_neI, w_eqB, w_neB, QS_nx, QS_rt, QS_bk, QS_ct, QF_nx, QF_rt, QL_nx, QL_ct, QL_bk, QL_rt, wipeE, List.set_cons_succ, List.set_cons_zero, List.getElem?_cons_succ, List.getElem?_cons_zero, D.bl.injEq, D.int.injEq, exists_eq_left', exists_eq_left, w_eAnd, w_tTru, tru_bl, if_true, if_false, Bool.false_eq_true, mD, decide_true]
    exact ⟨(by show 2 ≤ 10000000; decide), rfl, Ap.refl _⟩
  | some k2 =>
    simp only [w_seq, w_asg, w_ret, w_retN, w_drop, w_brk, w_cnt, w_nil, w_sif, w_c, w_ev, w_bin, w_un, w_anil, w_acons, w_tup, w_lst, w_call, w_tB, w_tNot, w_tAnd, w_tOr, w_eIf, w_isN, w_notN, w_gnm, w_gnils, w_gcns, w_gtp2, w_gtp3, w_gtp2p, w_ixT0, w_ixT1, w_ixT2, w_ch, w_chL, w_chK, w_par2, w_par3, w_add, w_sub, w_neg, w_lt, w_le, w_gt, w_ge, w_abs, w_int, w_intb, w_max2, w_min2, w_pno, w_ppart, w_sl, w_bm, w_yes, w_eqI, w_neI, w_eqB, w_neB, QS_nx, QS_rt, QS_bk, QS_ct, QF_nx, QF_rt, QL_nx, QL_ct, QL_bk, QL_rt, wipeE, List.set_cons_succ, List.set_cons_zero, List.getElem?_cons_succ, List.getElem?_cons_zero, D.bl.injEq, D.int.injEq, exists_eq_left', exists_eq_left, w_eAnd, w_tTru, tru_bl, if_true, if_false, Bool.false_eq_true, mD]
    refine w_lcP (k := k2) (fun p => decide (p.1 ≠ l)) ?_ ?_ (by have := (hm k2 rfl).len; unfold cap; omega) fun n S' a hl g => ?_
    · refine w_iseqT ?_
      simp only [w_seq, w_asg, w_ret, w_retN, w_drop, w_brk, w_cnt, w_nil, w_sif, w_c, w_ev, w_bin, w_un, w_anil, w_acons, w_tup, w_lst, w_call, w_tB, w_tNot, w_tAnd, w_tOr, w_eIf, w_isN, w_notN, w_gnm, w_gnils, w_gcns, w_gtp2, w_gtp3, w_gtp2p, w_ixT0, w_ixT1, w_ixT2, w_ch, w_chL, w_chK, w_par2, w_par3, w_add, w_sub, w_neg, w_lt, w_le, w_gt, w_ge, w_abs, w_int, w_intb, w_max2, w_min2, w_pno, w_ppart, w_sl, w_bm, w_yes, w_eqI, w_neI, w_eqB, w_neB, QS_nx, QS_rt, QS_bk, QS_ct, QF_nx, QF_rt, QL_nx, QL_ct, QL_bk, QL_rt, wipeE, List.set_cons_succ, List.set_cons_zero, List.getElem?_cons_succ, List.getElem?_cons_zero, D.bl.injEq, D.int.injEq, exists_eq_left', exists_eq_left, w_eAnd, w_tTru, tru_bl, if_true, if_false, Bool.false_eq_true]
      exact ⟨_, rfl, Ap.refl _, by simp [ItD.fix], fun S2 a i => rfl⟩
    · intro p hp S2 a
      simp only [w_seq, w_asg, w_ret, w_retN, w_drop, w_brk, w_cnt, w_nil, w_sif, w_c, w_ev, w_bin, w_un, w_anil, w_acons, w_tup, w_lst, w_call, w_tB, w_tNot, w_tAnd, w_tOr, w_eIf, w_isN, w_notN, w_gnm, w_gnils, w_gcns, w_gtp2, w_gtp3, w_gtp2p, w_ixT0, w_ixT1, w_ixT2, w_ch, w_chL, w_chK, w_par2, w_par3, w_add, w_sub, w_neg, w_lt, w_le, w_gt, w_ge, w_abs, w_int, w_intb, w_max2, w_min2, w_pno, w_ppart, w_sl, w_bm, w_yes, w_eqI, w_neI, w_eqB, w_neB, QS_nx, QS_rt, QS_bk, QS_ct, QF_nx, QF_rt, QL_nx, QL_ct, QL_bk, QL_rt, wipeE, List.set_cons_succ, List.set_cons_zero, List.getElem?_cons_succ, List.getElem?_cons_zero, D.bl.injEq, D.int.injEq, exists_eq_left', exists_eq_left, w_eAnd, w_tTru, tru_bl, if_true, if_false, Bool.false_eq_true]
      exact ⟨by simp, Ap.refl _, fun _ => ⟨trivial, Ap.refl _⟩⟩
    · rw [w_tupR (getL_of g)]
      exact ⟨(by show 2 ≤ 10000000; decide), rfl, a⟩
theorem cut_ok {w : Nat} {k : List P} {m : Option (List P)} (hk : Kok k) (hm : ∀ k2, m = some k2 → Kok k2) :
    W (f__law_cut [knD k m, .int w] S) fun d S' => d = knD (k.filter fun p => decide (p.2 < (w : Int))) (m.map fun k2 => k2.filter fun p => decide (p.2 < (w : Int))) ∧ Ap S S' := by
  have one : ∀ (k : List P) (S : Sto) (Q : D → Sto → Prop) (fe : FE) (env : FL.Env), Kok k → env.length = 3 → env[1]? = some (some (.int w)) → (∀ S', W (fe env S') fun d S2 => d = kD k ∧ S2 = S') → (∀ n S', Ap S S' → S'[n]? = some (.lst ((k.filter fun p => decide (p.2 < (w : Int))).map pD)) → Q (.ref n) S') →
      W (eLc (iSeq fe) (gNm 2) (FL.tB (eBin oLt (eBin oIx (eVar 2) (eC (.int 1))) (eVar 1))) (eVar 2) [2] env S) Q := by
    intro k S Q fe env hk hl he hf hq
    match env, hl with
    | [x, y, z], _ =>
      have he' : y = some (.int w) := by simpa using he
      subst he'
      refine w_lcP (k := k) (fun p => decide (p.2 < (w : Int))) ?_ ?_ (by have := hk.len; unfold cap; omega) fun n S' a _ g => hq n S' a g
      · refine w_iseqT ?_
        obtain ⟨d, S2, e, rfl, rfl⟩ := hf S
        exact ⟨_, _, e, _, rfl, Ap.refl _, by simp [ItD.fix], fun S2 a i => rfl⟩
      · intro p hp S2 a
        simp only [w_seq, w_asg, w_ret, w_retN, w_drop, w_brk, w_cnt, w_nil, w_sif, w_c, w_ev, w_bin, w_un, w_anil, w_acons, w_tup, w_lst, w_call, w_tB, w_tNot, w_tAnd, w_tOr, w_eIf, w_isN, w_notN, w_gnm, w_gnils, w_gcns, w_gtp2, w_gtp3, w_gtp2p, w_ixT0, w_ixT1, w_ixT2, w_ch, w_chL, w_chK, w_par2, w_par3, w_add, w_sub, w_neg, w_lt, w_le, w_gt, w_ge, w_abs, w_int, w_intb, w_max2, w_min2, w_pno, w_ppart, w_sl, w_bm, w_yes, w_eqI, w_neI, w_eqB, w_neB, QS_nx, QS_rt, QS_bk, QS_ct, QF_nx, QF_rt, QL_nx, QL_ct, QL_bk, QL_rt, wipeE, List.set_cons_succ, List.set_cons_zero, List.getElem?_cons_succ, List.getElem?_cons_zero, D.bl.injEq, D.int.injEq, exists_eq_left', exists_eq_left, w_eAnd, w_tTru, tru_bl, if_true, if_false, Bool.false_eq_true]
        exact ⟨trivial, Ap.refl _, fun _ => ⟨trivial, Ap.refl _⟩⟩
  refine w_fn rfl ?_
  show W (b__law_cut [some (knD k m), some (.int w), none] S) _
  unfold b__law_cut
  simp only [w_ret, w_tup, w_acons, w_call, w_anil, w_eIf, w_isN, QF_rt, w_tB]
  refine one k _ _ _ _ hk rfl rfl (fun S' => by simp only [w_seq, w_asg, w_ret, w_retN, w_drop, w_brk, w_cnt, w_nil, w_sif, w_c, w_ev, w_bin, w_un, w_anil, w_acons, w_tup, w_lst, w_call, w_tB, w_tNot, w_tAnd, w_tOr, w_eIf, w_isN, w_notN, w_gnm, w_gnils, w_gcns, w_gtp2, w_gtp3, w_gtp2p, w_ixT0, w_ixT1, w_ixT2, w_ch, w_chL, w_chK, w_par2, w_par3, w_add, w_sub, w_neg, w_lt, w_le, w_gt, w_ge, w_abs, w_int, w_intb, w_max2, w_min2, w_pno, w_ppart, w_sl, w_bm, w_yes, w_eqI, w_neI, w_eqB, w_neB, QS_nx, QS_rt, QS_bk, QS_ct, QF_nx, QF_rt, QL_nx, QL_ct, QL_bk, QL_rt, wipeE, List.set_cons_succ, List.set_cons_zero, List.getElem?_cons_succ, List.getElem?_cons_zero, D.bl.injEq, D.int.injEq, exists_eq_left', exists_eq_left, w_eAnd, w_tTru, tru_bl, if_true, if_false, Bool.false_eq_true]; exact ⟨trivial, trivial⟩) fun n1 S1 a1 g1 => ?_
  rw [w_tupR (getL_of g1)]
  cases m with
  | none =>
    simp only [w_seq, w_asg, w_ret, w_retN, w_drop, w_brk, w_cnt, w_nil, w_sif, w_c, w_ev, w_bin, w_un, w_anil, w_acons, w_tup, w_lst, w_call, w_tB, w_tNot, w_tAnd, w_tOr, w_eIf, w_isN, w_notN, w_gnm, w_gnils, w_gcns, w_gtp2, w_gtp3, w_gtp2p, w_ixT0, w_ixT1, w_ixT2, w_ch, w_chL, w_chK, w_par2, w_par3, w_add, w_sub, w_neg, w_lt, w_le, w_gt, w_ge, w_abs, w_int, w_intb, w_max2, w_min2, w_pno, w_ppart, w_sl, w_bm, w_yes, w_eqI, w_neI, w_eqB, w_neB, QS_nx, QS_rt, QS_bk, QS_ct, QF_nx, QF_rt, QL_nx, QL_ct, QL_bk, QL_rt, wipeE, List.set_cons_succ, List.set_cons_zero, List.getElem?_cons_succ, List.getElem?_cons_zero, D.bl.injEq, D.int.injEq, exists_eq_left', exists_eq_left, w_eAnd, w_tTru, tru_bl, if_true, if_false, Bool.false_eq_true, mD, decide_true]
    exact ⟨(by show 2 ≤ 10000000; decide), rfl, a1⟩
  | some k2 =>
    simp only [w_seq, w_asg, w_ret, w_retN, w_drop, w_brk, w_cnt, w_nil, w_sif, w_c, w_ev, w_bin, w_un, w_anil, w_acons, w_tup, w_lst, w_call, w_tB, w_tNot, w_tAnd, w_tOr, w_eIf, w_isN, w_notN, w_gnm, w_gnils, w_gcns, w_gtp2, w_gtp3, w_gtp2p, w_ixT0, w_ixT1, w_ixT2, w_ch, w_chL, w_chK, w_par2, w_par3, w_add, w_sub, w_neg, w_lt, w_le, w_gt, w_ge, w_abs, w_int, w_intb, w_max2, w_min2, w_pno, w_ppart, w_sl, w_bm, w_yes, w_eqI, w_neI, w_eqB, w_neB, QS_nx, QS_rt, QS_bk, QS_ct, QF_nx, QF_rt, QL_nx, QL_ct, QL_bk, QL_rt, wipeE, List.set_cons_succ, List.set_cons_zero, List.getElem?_cons_succ, List.getElem?_cons_zero, D.bl.injEq, D.int.injEq, exists_eq_left', exists_eq_left, w_eAnd, w_tTru, tru_bl, if_true, if_false, Bool.false_eq_true, mD]
    refine one k2 _ _ _ _ (hm k2 rfl) rfl rfl (fun S' => by simp only [w_seq, w_asg, w_ret, w_retN, w_drop, w_brk, w_cnt, w_nil, w_sif, w_c, w_ev, w_bin, w_un, w_anil, w_acons, w_tup, w_lst, w_call, w_tB, w_tNot, w_tAnd, w_tOr, w_eIf, w_isN, w_notN, w_gnm, w_gnils, w_gcns, w_gtp2, w_gtp3, w_gtp2p, w_ixT0, w_ixT1, w_ixT2, w_ch, w_chL, w_chK, w_par2, w_par3, w_add, w_sub, w_neg, w_lt, w_le, w_gt, w_ge, w_abs, w_int, w_intb, w_max2, w_min2, w_pno, w_ppart, w_sl, w_bm, w_yes, w_eqI, w_neI, w_eqB, w_neB, QS_nx, QS_rt, QS_bk, QS_ct, QF_nx, QF_rt, QL_nx, QL_ct, QL_bk, QL_rt, wipeE, List.set_cons_succ, List.set_cons_zero, List.getElem?_cons_succ, List.getElem?_cons_zero, D.bl.injEq, D.int.injEq, exists_eq_left', exists_eq_left, w_eAnd, w_tTru, tru_bl, if_true, if_false, Bool.false_eq_true, mD]; exact ⟨trivial, trivial⟩) fun n2 S2 a2 g2 => ?_
    rw [w_tupR (getL_of g2)]
    exact ⟨(by show 2 ≤ 10000000; decide), rfl, a1.trans a2⟩
theorem boolsD_map : ∀ bs : List Bool, boolsD (bs.map D.bl) = some bs
  | [] => rfl
  | b :: bs => by
    show (boolsD (bs.map D.bl)).map _ = _
    rw [boolsD_map bs]
    rfl
def keyB (l : Int) : D → D
  | .tup [.int a, _] => .bl (decide (a = l))
  | d => d
/-- is the line among the keys -/
theorem w_anyK {l : Int} {k : List P} {env : FL.Env} {i j : Nat} {fe fl : FE} (hk : Kok k) (he : W (fe env S) fun d S1 => d = kD k ∧ S1 = S)
    (hb : ∀ p ∈ k, ∀ S2, Ap S S2 → W (gTp 2 (gCns (gNm i) (gCns (gNm j) gNils)) (pD p) (wipeE env [i, j]) S2) fun e1 S3 => W (tYs e1 S3) fun b S4 => b = true ∧ Ap S2 S4 ∧ (true = true → W (eBin oEq (eVar i) fl e1 S4) fun y S5 => y = .bl (decide (p.1 = l)) ∧ Ap S4 S5))
    (hq : ∀ S', Ap S S' → Q (.bl (k.any fun p => decide (p.1 = l))) S') : W (eLc (iSeq fe) (gTp 2 (gCns (gNm i) (gCns (gNm j) gNils))) tYs (eBin oEq (eVar i) fl) [i, j] env S) fun x S1 => W (fAny [x] S1) Q := by
  refine w_lcm (ds := k.map pD) (keyB l) (fun _ => true) ?_ (fun d hd S2 a => ?_) (by rw [List.length_map]; have := hk.len; unfold cap; omega) fun n S' a _ h => ?_
  · refine w_iseqT ?_
    obtain ⟨d, S2, e, rfl, rfl⟩ := he
    exact ⟨_, _, e, _, rfl, Ap.refl _, by simp [ItD.fix], fun S2 a i => rfl⟩
  · obtain ⟨p, hp, rfl⟩ := List.mem_map.mp hd
    exact hb p hp S2 a
  · have e : ((k.map pD).filter fun _ => true).map (keyB l) = (k.map fun p => decide (p.1 = l)).map D.bl := by
      rw [List.filter_eq_self.mpr fun _ _ => rfl, List.map_map, List.map_map]
      rfl
    rw [e] at h
    have f : fAny [.ref n] S' = some (.bl (k.any fun p => decide (p.1 = l)), S') := by
      unfold fAny bools1
      simp only [getL_of h, Option.bind_some, boolsD_map, Option.map_some]
      rw [List.any_map]
      rfl
    exact ⟨_, _, f, hq S' a⟩
/-- the answers: a list with what may be -/
theorem verdicts_ok {l : Int} {k : List P} {m : Option (List P)} (hk : Kok k) (hm : ∀ k2, m = some k2 → Kok k2) :
    W (f_verdicts [knD k m, .int l] S) fun d S' => ∃ n bs, d = .ref n ∧ S'[n]? = some (.lst (bs.map D.bl)) ∧ Ap S S' ∧ S.length ≤ n ∧
      bs = (if (k.any fun p => decide (p.1 = l)) = true then [true] else match m with
        | none => [true, false]
        | some k2 => if (k2.any fun p => decide (p.1 = l)) = true then [true, false] else [false]) := by
  refine w_fn rfl ?_
  show W (b_verdicts [some (knD k m), some (.int l), none, none, none, none] S) _
  unfold b_verdicts
  simp only [w_seq, w_asg, w_ev, List.getElem?_cons_zero, w_gtp2, w_gcns, w_gnm, w_gnils, QS_nx, w_sif, w_tTru, w_call, w_acons, w_anil]
  refine w_anyK (l := l) hk (by simp only [w_seq, w_asg, w_ret, w_retN, w_drop, w_brk, w_cnt, w_nil, w_sif, w_c, w_ev, w_bin, w_un, w_anil, w_acons, w_tup, w_lst, w_call, w_tB, w_tNot, w_tAnd, w_tOr, w_eIf, w_isN, w_notN, w_gnm, w_gnils, w_gcns, w_gtp2, w_gtp3, w_gtp2p, w_ixT0, w_ixT1, w_ixT2, w_ch, w_chL, w_chK, w_par2, w_par3, w_add, w_sub, w_neg, w_lt, w_le, w_gt, w_ge, w_abs, w_int, w_intb, w_max2, w_min2, w_pno, w_ppart, w_sl, w_bm, w_yes, w_eqI, w_neI, w_eqB, w_neB, QS_nx, QS_rt, QS_bk, QS_ct, QF_nx, QF_rt, QL_nx, QL_ct, QL_bk, QL_rt, wipeE, List.set_cons_succ, List.set_cons_zero, List.getElem?_cons_succ, List.getElem?_cons_zero, D.bl.injEq, D.int.injEq, exists_eq_left', exists_eq_left, w_eAnd, w_tTru, tru_bl, if_true, if_false, Bool.false_eq_true]; exact ⟨trivial, trivial⟩) (fun p hp S2 a => ?_) fun S1 a1 => ?_
  · simp only [w_seq, w_asg, w_ret, w_retN, w_drop, w_brk, w_cnt, w_nil, w_sif, w_c, w_ev, w_bin, w_un, w_anil, w_acons, w_tup, w_lst, w_call, w_tB, w_tNot, w_tAnd, w_tOr, w_eIf, w_isN, w_notN, w_gnm, w_gnils, w_gcns, w_gtp2, w_gtp3, w_gtp2p, w_ixT0, w_ixT1, w_ixT2, w_ch, w_chL, w_chK, w_par2, w_par3, w_add, w_sub, w_neg, w_lt, w_le, w_gt, w_ge, w_abs, w_int, w_intb, w_max2, w_min2, w_pno, w_ppart, w_sl, w_bm, w_yes, w_eqI, w_neI, w_eqB, w_neB, QS_nx, QS_rt, QS_bk, QS_ct, QF_nx, QF_rt, QL_nx, QL_ct, QL_bk, QL_rt, wipeE, List.set_cons_succ, List.set_cons_zero, List.getElem?_cons_succ, List.getElem?_cons_zero, D.bl.injEq, D.int.injEq, exists_eq_left', exists_eq_left, w_eAnd, w_tTru, tru_bl, if_true, if_false, Bool.false_eq_true]
    exact ⟨trivial, Ap.refl _, fun _ => ⟨trivial, Ap.refl _⟩⟩
  · simp only [tru_bl]
    by_cases h1 : (k.any fun p => decide (p.1 = l)) = true
    · simp only [h1, if_true, w_seq, w_asg, w_ret, w_retN, w_drop, w_brk, w_cnt, w_nil, w_sif, w_c, w_ev, w_bin, w_un, w_anil, w_acons, w_tup, w_lst, w_call, w_tB, w_tNot, w_tAnd, w_tOr, w_eIf, w_isN, w_notN, w_gnm, w_gnils, w_gcns, w_gtp2, w_gtp3, w_gtp2p, w_ixT0, w_ixT1, w_ixT2, w_ch, w_chL, w_chK, w_par2, w_par3, w_add, w_sub, w_neg, w_lt, w_le, w_gt, w_ge, w_abs, w_int, w_intb, w_max2, w_min2, w_pno, w_ppart, w_sl, w_bm, w_yes, w_eqI, w_neI, w_eqB, w_neB, QS_nx, QS_rt, QS_bk, QS_ct, QF_nx, QF_rt, QL_nx, QL_ct, QL_bk, QL_rt, wipeE, List.set_cons_succ, List.set_cons_zero, List.getElem?_cons_succ, List.getElem?_cons_zero, D.bl.injEq, D.int.injEq, exists_eq_left', exists_eq_left, w_eAnd, w_tTru, tru_bl, if_true, if_false, Bool.false_eq_true, W_some]
      exact ⟨(by show 1 ≤ 10000000; decide), S1.length, [true], rfl, new_at _ _, a1.trans (Ap.app _ _), a1.len, rfl⟩
    · rw [if_neg h1, if_neg h1]
      cases m with
      | none =>
        simp only [w_seq, w_asg, w_ret, w_retN, w_drop, w_brk, w_cnt, w_nil, w_sif, w_c, w_ev, w_bin, w_un, w_anil, w_acons, w_tup, w_lst, w_call, w_tB, w_tNot, w_tAnd, w_tOr, w_eIf, w_isN, w_notN, w_gnm, w_gnils, w_gcns, w_gtp2, w_gtp3, w_gtp2p, w_ixT0, w_ixT1, w_ixT2, w_ch, w_chL, w_chK, w_par2, w_par3, w_add, w_sub, w_neg, w_lt, w_le, w_gt, w_ge, w_abs, w_int, w_intb, w_max2, w_min2, w_pno, w_ppart, w_sl, w_bm, w_yes, w_eqI, w_neI, w_eqB, w_neB, QS_nx, QS_rt, QS_bk, QS_ct, QF_nx, QF_rt, QL_nx, QL_ct, QL_bk, QL_rt, wipeE, List.set_cons_succ, List.set_cons_zero, List.getElem?_cons_succ, List.getElem?_cons_zero, D.bl.injEq, D.int.injEq, exists_eq_left', exists_eq_left, w_eAnd, w_tTru, tru_bl, if_true, if_false, Bool.false_eq_true, mD, decide_true, Bool.not_true, W_some]
        exact ⟨(by show 2 ≤ 10000000; decide), S1.length, [true, false], rfl, new_at _ _, a1.trans (Ap.app _ _), a1.len, rfl⟩
      | some k2 =>
        simp only [w_seq, w_asg, w_ret, w_retN, w_drop, w_brk, w_cnt, w_nil, w_sif, w_c, w_ev, w_bin, w_un, w_anil, w_acons, w_tup, w_lst, w_call, w_tB, w_tNot, w_tAnd, w_tOr, w_eIf, w_isN, w_notN, w_gnm, w_gnils, w_gcns, w_gtp2, w_gtp3, w_gtp2p, w_ixT0, w_ixT1, w_ixT2, w_ch, w_chL, w_chK, w_par2, w_par3, w_add, w_sub, w_neg, w_lt, w_le, w_gt, w_ge, w_abs, w_int, w_intb, w_max2, w_min2, w_pno, w_ppart, w_sl, w_bm, w_yes, w_eqI, w_neI, w_eqB, w_neB, QS_nx, QS_rt, QS_bk, QS_ct, QF_nx, QF_rt, QL_nx, QL_ct, QL_bk, QL_rt, wipeE, List.set_cons_succ, List.set_cons_zero, List.getElem?_cons_succ, List.getElem?_cons_zero, D.bl.injEq, D.int.injEq, exists_eq_left', exists_eq_left, w_eAnd, w_tTru, tru_bl, if_true, if_false, Bool.false_eq_true, mD]
        refine w_anyK (l := l) (hm k2 rfl) (by simp only [w_seq, w_asg, w_ret, w_retN, w_drop, w_brk, w_cnt, w_nil, w_sif, w_c, w_ev, w_bin, w_un, w_anil, w_acons, w_tup, w_lst, w_call, w_tB, w_tNot, w_tAnd, w_tOr, w_eIf, w_isN, w_notN, w_gnm, w_gnils, w_gcns, w_gtp2, w_gtp3, w_gtp2p, w_ixT0, w_ixT1, w_ixT2, w_ch, w_chL, w_chK, w_par2, w_par3, w_add, w_sub, w_neg, w_lt, w_le, w_gt, w_ge, w_abs, w_int, w_intb, w_max2, w_min2, w_pno, w_ppart, w_sl, w_bm, w_yes, w_eqI, w_neI, w_eqB, w_neB, QS_nx, QS_rt, QS_bk, QS_ct, QF_nx, QF_rt, QL_nx, QL_ct, QL_bk, QL_rt, wipeE, List.set_cons_succ, List.set_cons_zero, List.getElem?_cons_succ, List.getElem?_cons_zero, D.bl.injEq, D.int.injEq, exists_eq_left', exists_eq_left, w_eAnd, w_tTru, tru_bl, if_true, if_false, Bool.false_eq_true]; exact ⟨trivial, trivial⟩) (fun p hp S2 a => ?_) fun S2 a2 => ?_
        · simp only [w_seq, w_asg, w_ret, w_retN, w_drop, w_brk, w_cnt, w_nil, w_sif, w_c, w_ev, w_bin, w_un, w_anil, w_acons, w_tup, w_lst, w_call, w_tB, w_tNot, w_tAnd, w_tOr, w_eIf, w_isN, w_notN, w_gnm, w_gnils, w_gcns, w_gtp2, w_gtp3, w_gtp2p, w_ixT0, w_ixT1, w_ixT2, w_ch, w_chL, w_chK, w_par2, w_par3, w_add, w_sub, w_neg, w_lt, w_le, w_gt, w_ge, w_abs, w_int, w_intb, w_max2, w_min2, w_pno, w_ppart, w_sl, w_bm, w_yes, w_eqI, w_neI, w_eqB, w_neB, QS_nx, QS_rt, QS_bk, QS_ct, QF_nx, QF_rt, QL_nx, QL_ct, QL_bk, QL_rt, wipeE, List.set_cons_succ, List.set_cons_zero, List.getElem?_cons_succ, List.getElem?_cons_zero, D.bl.injEq, D.int.injEq, exists_eq_left', exists_eq_left, w_eAnd, w_tTru, tru_bl, if_true, if_false, Bool.false_eq_true]
          exact ⟨trivial, Ap.refl _, fun _ => ⟨trivial, Ap.refl _⟩⟩
        · simp only [tru_bl]
          by_cases h2 : (k2.any fun p => decide (p.1 = l)) = true
          · simp only [h2, Bool.not_true, Bool.false_eq_true, if_false, if_true, W_some]
            exact ⟨(by show 2 ≤ 10000000; decide), S2.length, [true, false], rfl, new_at _ _, (a1.trans a2).trans (Ap.app _ _), (a1.trans a2).len, rfl⟩
          · simp only [h2, Bool.not_false, Bool.false_eq_true, if_false, if_true, W_some]
            exact ⟨(by show 1 ≤ 10000000; decide), S2.length, [false], rfl, new_at _ _, (a1.trans a2).trans (Ap.app _ _), (a1.trans a2).len, rfl⟩
end
end K51
/-! K51d: caches. -/
namespace K51
open PySem L2 FL M51
section
variable {S : Sto} {Q : D → Sto → Prop}
abbrev rwD (r : List Int) : D := .tup (r.map D.int)
/-- a cache at place n, its rows at place m -/
def cFs (s w m : Nat) : List (Str × D) := [("sets", .int s), ("ways", .int w), ("policy", .str "lru"), ("rows", .ref m)]
def CA (S : Sto) (s w n m : Nat) (rows : List (List Int)) : Prop := S[n]? = some (.ins "Cache" (cFs s w m)) ∧ S[m]? = some (.lst (rows.map rwD)) ∧ n ≠ m
theorem lk_sets {s w m : Nat} : (cFs s w m).lookup (Str.ofString "sets") = some (D.int s) := by
  have : (Str.ofString "sets" == Str.ofString "sets") = true := by decide +kernel
  unfold cFs
  rw [List.lookup_cons, this]
theorem lk_ways {s w m : Nat} : (cFs s w m).lookup (Str.ofString "ways") = some (D.int w) := by
  have h1 : (Str.ofString "ways" == Str.ofString "sets") = false := by decide +kernel
  have h2 : (Str.ofString "ways" == Str.ofString "ways") = true := by decide +kernel
  unfold cFs
  rw [List.lookup_cons, h1, List.lookup_cons, h2]
theorem lk_policy {s w m : Nat} : (cFs s w m).lookup (Str.ofString "policy") = some (D.str "lru") := by
  have h1 : (Str.ofString "policy" == Str.ofString "sets") = false := by decide +kernel
  have h2 : (Str.ofString "policy" == Str.ofString "ways") = false := by decide +kernel
  have h3 : (Str.ofString "policy" == Str.ofString "policy") = true := by decide +kernel
  unfold cFs
  rw [List.lookup_cons, h1, List.lookup_cons, h2, List.lookup_cons, h3]
theorem lk_rows {s w m : Nat} : (cFs s w m).lookup (Str.ofString "rows") = some (D.ref m) := by
  have h1 : (Str.ofString "rows" == Str.ofString "sets") = false := by decide +kernel
  have h2 : (Str.ofString "rows" == Str.ofString "ways") = false := by decide +kernel
  have h3 : (Str.ofString "rows" == Str.ofString "policy") = false := by decide +kernel
  have h4 : (Str.ofString "rows" == Str.ofString "rows") = true := by decide +kernel
  unfold cFs
  rw [List.lookup_cons, h1, List.lookup_cons, h2, List.lookup_cons, h3, List.lookup_cons, h4]
theorem w_fldC {s w n m : Nat} {f : Str} {d : D} {i : Nat} {env : FL.Env} (h : S[n]? = some (.ins "Cache" (cFs s w m))) (he : env[i]? = some (some (.ref n))) (hl : (cFs s w m).lookup f = some d) : W (eFld ["Cache"] (eVar i) f env S) Q ↔ Q d S := by
  rw [w_fld, w_ev, he]
  constructor
  · rintro ⟨n', k, fs, d', e, g, _, hl2, q⟩
    cases e
    rw [h] at g
    cases g
    rw [hl] at hl2
    cases hl2
    exact q
  · intro q
    exact ⟨n, _, _, d, rfl, h, List.mem_cons_self, hl, q⟩
theorem lines_ok {s w n m : Nat} {rows : List (List Int)} (h : CA S s w n m rows) : W (f_Cache_lines [.ref n] S) fun d S' => d = .tup (rows.map rwD) ∧ S' = S := by
  refine w_fn rfl ?_
  show W (b_Cache_lines [some (.ref n)] S) _
  unfold b_Cache_lines
  simp only [w_ret, w_call, w_acons, w_anil]
  rw [w_fldC h.1 rfl lk_rows, w_tupR (getL_of h.2.1)]
  exact ⟨rfl, rfl⟩
theorem inD_int (l : Int) : ∀ r : List Int, inD (.int l) (r.map D.int) = decide (l ∈ r)
  | [] => rfl
  | x :: r => by
    have := inD_int l r
    unfold inD at this ⊢
    rw [List.map_cons, List.any_cons, this]
    simp only [eqD, List.mem_cons]
    by_cases e : l = x
    · simp [e]
    · simp [e, Ne.symm e]
theorem flat_int (r : List Int) : (r.map D.int).all flatD = true := by
  rw [List.all_eq_true]
  intro d hd
  obtain ⟨x, _, rfl⟩ := List.mem_map.mp hd
  rfl
theorem oInB_T (l : Int) (r : List Int) : oInB (.int l) (.tup (r.map D.int)) S = some (decide (l ∈ r)) := by
  unfold oInB
  simp only
  rw [if_pos (by rw [flat_int]; rfl), inD_int]
theorem oInB_L (l : Int) {r : List Int} {n : Nat} (h : getL S n = some (r.map D.int)) : oInB (.int l) (.ref n) S = some (decide (l ∈ r)) := by
  unfold oInB
  simp only [h]
  rw [if_pos (by rw [flat_int]; rfl), inD_int]
theorem w_ninT {l : Int} {r : List Int} : W (oNotIn (.int l) (rwD r) S) Q ↔ Q (.bl (!decide (l ∈ r))) S := by
  unfold oNotIn
  rw [oInB_T]
  simp
theorem w_inL {l : Int} {r : List Int} {n : Nat} (h : getL S n = some (r.map D.int)) : W (oIn (.int l) (.ref n) S) Q ↔ Q (.bl (decide (l ∈ r))) S := by
  unfold oIn
  rw [oInB_L l h]
  simp
theorem w_ninL {l : Int} {r : List Int} {n : Nat} (h : getL S n = some (r.map D.int)) : W (oNotIn (.int l) (.ref n) S) Q ↔ Q (.bl (!decide (l ∈ r))) S := by
  unfold oNotIn
  rw [oInB_L l h]
  simp
theorem row_at {s : Nat} (hs : 0 < s) {rows : List (List Int)} (hl : rows.length = s) (l : Int) : atI (rows.map rwD) (l % (s : Int)) = some (rwD (row s rows l)) := by
  rw [← ix_eq hs l]
  refine FL.atI_nat ?_
  rw [List.getElem?_map, List.getElem?_eq_getElem (by rw [hl]; exact ix_lt hs l)]
  unfold row
  rw [List.getD_eq_getElem?_getD, List.getElem?_eq_getElem (by rw [hl]; exact ix_lt hs l)]
  rfl
theorem w_setL {fo fi : FE} {env : FL.Env} {QE : FL.Env → Sto → Prop} {m j : Nat} {us : List D} {i : Int} {d : D} (h1 : fo env S = some (.ref m, S)) (h2 : fi env S = some (.int i, S)) (h : S[m]? = some (.lst us)) (hi : ixN us.length i = some j) :
    W (gIx fo fi d env S) QE ↔ QE env (S.set m (.lst (us.set j d))) := by
  unfold gIx
  simp [h1, h2, h, hi, th]
theorem fld_eq {s w n m : Nat} {f : Str} {d : D} {i : Nat} {env : FL.Env} (h : S[n]? = some (.ins "Cache" (cFs s w m))) (he : env[i]? = some (some (.ref n))) (hl : (cFs s w m).lookup f = some d) : eFld ["Cache"] (eVar i) f env S = some (d, S) := by
  obtain ⟨x, S1, e, rfl, rfl⟩ := (w_fldC (Q := fun x S1 => x = d ∧ S1 = S) h he hl).mpr ⟨rfl, rfl⟩
  exact e
theorem row_ix {s : Nat} (hs : 0 < s) {rows : List (List Int)} (hl : rows.length = s) (l : Int) : ixN (rows.map rwD).length (l % (s : Int)) = some (ix s l) := by
  rw [← ix_eq hs l, List.length_map, hl]
  have := ix_lt hs l
  unfold ixN
  rw [if_pos (by omega), if_pos (by omega)]
  rfl
theorem w_filtR {fe : FE} {env : FL.Env} {r : List Int} {l : Int} {i j : Nat} (hz : r.length ≤ 1000) (he : W (fe env S) fun d S1 => d = rwD r ∧ S1 = S)
    (hb : ∀ x : Int, ∀ S2, W (gNm i (.int x) (wipeE env [i]) S2) fun e1 S3 => W (FL.tB (eBin oNe (eVar i) (eVar j)) e1 S3) fun k S4 => k = decide (x ≠ l) ∧ Ap S2 S4 ∧ (decide (x ≠ l) = true → W (eVar i e1 S4) fun y S5 => y = .int x ∧ Ap S4 S5))
    (hq : ∀ n S', Ap S S' → S.length ≤ n → S'[n]? = some (.lst ((r.filter fun x => decide (x ≠ l)).map D.int)) → Q (.ref n) S') : W (eLc (iSeq fe) (gNm i) (FL.tB (eBin oNe (eVar i) (eVar j))) (eVar i) [i] env S) Q := by
  refine w_lci (ns := r) id (fun x => decide (x ≠ l)) ?_ (fun x _ S2 _ => hb x S2) (by unfold cap; omega) fun n S' a hl g => hq n S' a hl (by rw [g, List.map_id])
  refine w_iseqT ?_
  obtain ⟨d, S2, e, rfl, rfl⟩ := he
  exact ⟨_, _, e, _, rfl, Ap.refl _, by simp [ItD.fix], fun S2 a i => rfl⟩
theorem has_ok {s w n m : Nat} {rows : List (List Int)} {l : Int} (hs : 0 < s) (hl : rows.length = s) (hz : ∀ r ∈ rows, r.length ≤ 1000) (h : CA S s w n m rows) :
    W (f_Cache_has [.ref n, .int l] S) fun d S' => d = .bl (decide (l ∈ row s rows l)) ∧ CA S' s w n m (if l ∈ row s rows l then rows.set (ix s l) (l :: (row s rows l).filter fun x => decide (x ≠ l)) else rows) ∧ Kn m S S' := by
  have hs' : 0 < (s : Int) := by omega
  refine w_fn rfl ?_
  show W (b_Cache_has [some (.ref n), some (.int l), none, none, none] S) _
  unfold b_Cache_has
  simp only [w_seq, w_asg, w_bin, w_ev, List.getElem?_cons_succ, List.getElem?_cons_zero]
  rw [w_fldC h.1 rfl lk_sets, w_mod hs']
  simp only [w_seq, w_asg, w_ret, w_retN, w_drop, w_brk, w_cnt, w_nil, w_sif, w_c, w_ev, w_bin, w_un, w_anil, w_acons, w_tup, w_lst, w_call, w_tB, w_tNot, w_tAnd, w_tOr, w_eIf, w_isN, w_notN, w_gnm, w_gnils, w_gcns, w_gtp2, w_gtp3, w_gtp2p, w_ixT0, w_ixT1, w_ixT2, w_ch, w_chL, w_chK, w_par2, w_par3, w_add, w_sub, w_neg, w_lt, w_le, w_gt, w_ge, w_abs, w_int, w_intb, w_max2, w_min2, w_pno, w_ppart, w_sl, w_bm, w_yes, w_eqI, w_neI, w_eqB, w_neB, QS_nx, QS_rt, QS_bk, QS_ct, QF_nx, QF_rt, QL_nx, QL_ct, QL_bk, QL_rt, wipeE, List.set_cons_succ, List.set_cons_zero, List.getElem?_cons_succ, List.getElem?_cons_zero, D.bl.injEq, D.int.injEq, exists_eq_left', exists_eq_left, w_eAnd, w_tTru, tru_bl, if_true, if_false, Bool.false_eq_true]
  rw [w_fldC h.1 rfl lk_rows, w_ixL (getL_of h.2.1) (row_at hs hl l)]
  simp only [w_ninT]
  have hr : (row s rows l).length ≤ 1000 := by
    refine hz _ (List.mem_iff_getElem?.mpr ⟨ix s l, ?_⟩)
    unfold row
    rw [List.getD_eq_getElem?_getD, List.getElem?_eq_getElem (by rw [hl]; exact ix_lt hs l)]
    rfl
  by_cases hm : l ∈ row s rows l
  · refine ⟨false, by rw [decide_eq_true hm]; rfl, ?_⟩
    rw [if_neg Bool.false_ne_true, w_fldC h.1 rfl lk_policy, w_lru, if_pos hm]
    refine ⟨true, rfl, ?_⟩
    rw [if_pos rfl]
    refine ⟨(by show 1 ≤ 10000000; decide), ?_⟩
    refine w_filtR (l := l) hr (by simp only [w_seq, w_asg, w_ret, w_retN, w_drop, w_brk, w_cnt, w_nil, w_sif, w_c, w_ev, w_bin, w_un, w_anil, w_acons, w_tup, w_lst, w_call, w_tB, w_tNot, w_tAnd, w_tOr, w_eIf, w_isN, w_notN, w_gnm, w_gnils, w_gcns, w_gtp2, w_gtp3, w_gtp2p, w_ixT0, w_ixT1, w_ixT2, w_ch, w_chL, w_chK, w_par2, w_par3, w_add, w_sub, w_neg, w_lt, w_le, w_gt, w_ge, w_abs, w_int, w_intb, w_max2, w_min2, w_pno, w_ppart, w_sl, w_bm, w_yes, w_eqI, w_neI, w_eqB, w_neB, QS_nx, QS_rt, QS_bk, QS_ct, QF_nx, QF_rt, QL_nx, QL_ct, QL_bk, QL_rt, wipeE, List.set_cons_succ, List.set_cons_zero, List.getElem?_cons_succ, List.getElem?_cons_zero, D.bl.injEq, D.int.injEq, exists_eq_left', exists_eq_left, w_eAnd, w_tTru, tru_bl, if_true, if_false, Bool.false_eq_true]; exact ⟨trivial, trivial⟩) (fun x S2 => ?_) fun q S1 a1 hq g1 => ?_
    · simp only [w_seq, w_asg, w_ret, w_retN, w_drop, w_brk, w_cnt, w_nil, w_sif, w_c, w_ev, w_bin, w_un, w_anil, w_acons, w_tup, w_lst, w_call, w_tB, w_tNot, w_tAnd, w_tOr, w_eIf, w_isN, w_notN, w_gnm, w_gnils, w_gcns, w_gtp2, w_gtp3, w_gtp2p, w_ixT0, w_ixT1, w_ixT2, w_ch, w_chL, w_chK, w_par2, w_par3, w_add, w_sub, w_neg, w_lt, w_le, w_gt, w_ge, w_abs, w_int, w_intb, w_max2, w_min2, w_pno, w_ppart, w_sl, w_bm, w_yes, w_eqI, w_neI, w_eqB, w_neB, QS_nx, QS_rt, QS_bk, QS_ct, QF_nx, QF_rt, QL_nx, QL_ct, QL_bk, QL_rt, wipeE, List.set_cons_succ, List.set_cons_zero, List.getElem?_cons_succ, List.getElem?_cons_zero, D.bl.injEq, D.int.injEq, exists_eq_left', exists_eq_left, w_eAnd, w_tTru, tru_bl, if_true, if_false, Bool.false_eq_true]
      exact ⟨by simp, Ap.refl _, fun _ => ⟨trivial, Ap.refl _⟩⟩
    · have fl : ((row s rows l).filter fun x => decide (x ≠ l)).length ≤ 1000 := Nat.le_trans (List.length_filter_le _ _) hr
      rw [w_tupR (getL_of g1), show [D.int l] = [l].map D.int from rfl, w_addT (by rw [List.length_map, List.length_map]; unfold cap; simp only [List.length_cons, List.length_nil]; omega), ← List.map_append]
      rw [w_setL (fld_eq (a1 _ _ h.1) rfl lk_rows) (by show eVar 2 _ _ = _; rfl) (a1 _ _ h.2.1) (row_ix hs hl l)]
      refine ⟨(decide_eq_true hm).symm, ⟨?_, ?_, h.2.2⟩, ?_⟩
      · rw [List.getElem?_set_ne (Ne.symm h.2.2)]
        exact a1 _ _ h.1
      · rw [set_at (a1 _ _ h.2.1), List.map_set]
        rfl
      · intro m' o hne e
        rw [List.getElem?_set_ne (Ne.symm hne)]
        exact a1 _ _ e
  · refine ⟨true, by rw [decide_eq_false hm]; rfl, ?_⟩
    rw [if_pos rfl, if_neg hm]
    exact ⟨(decide_eq_false hm).symm, h, fun _ _ _ e => e⟩
theorem fill_ok {s w n m : Nat} {rows : List (List Int)} {l : Int} (hs : 0 < s) (hl : rows.length = s) (hz : ∀ r ∈ rows, r.length ≤ 1000) (h : CA S s w n m rows) :
    W (f_Cache_fill [.ref n, .int l] S) fun d S' => d = .non ∧ CA S' s w n m (rows.set (ix s l) ((l :: (row s rows l).filter fun x => decide (x ≠ l)).take w)) ∧ Kn m S S' := by
  have hs' : 0 < (s : Int) := by omega
  refine w_fn rfl ?_
  show W (b_Cache_fill [some (.ref n), some (.int l), none, none, none] S) _
  unfold b_Cache_fill
  simp only [w_seq, w_asg, w_bin, w_ev, List.getElem?_cons_succ, List.getElem?_cons_zero]
  rw [w_fldC h.1 rfl lk_sets, w_mod hs']
  have hr : (row s rows l).length ≤ 1000 := by
    refine hz _ (List.mem_iff_getElem?.mpr ⟨ix s l, ?_⟩)
    unfold row
    rw [List.getD_eq_getElem?_getD, List.getElem?_eq_getElem (by rw [hl]; exact ix_lt hs l)]
    rfl
  simp only [w_seq, w_asg, w_ret, w_retN, w_drop, w_brk, w_cnt, w_nil, w_sif, w_c, w_ev, w_bin, w_un, w_anil, w_acons, w_tup, w_lst, w_call, w_tB, w_tNot, w_tAnd, w_tOr, w_eIf, w_isN, w_notN, w_gnm, w_gnils, w_gcns, w_gtp2, w_gtp3, w_gtp2p, w_ixT0, w_ixT1, w_ixT2, w_ch, w_chL, w_chK, w_par2, w_par3, w_add, w_sub, w_neg, w_lt, w_le, w_gt, w_ge, w_abs, w_int, w_intb, w_max2, w_min2, w_pno, w_ppart, w_sl, w_bm, w_yes, w_eqI, w_neI, w_eqB, w_neB, QS_nx, QS_rt, QS_bk, QS_ct, QF_nx, QF_rt, QL_nx, QL_ct, QL_bk, QL_rt, wipeE, List.set_cons_succ, List.set_cons_zero, List.getElem?_cons_succ, List.getElem?_cons_zero, D.bl.injEq, D.int.injEq, exists_eq_left', exists_eq_left, w_eAnd, w_tTru, tru_bl, if_true, if_false, Bool.false_eq_true]
  refine w_filtR (r := row s rows l) (l := l) hr ?_ (fun x S2 => ?_) fun q S1 a1 hq g1 => ?_
  · simp only [w_bin, w_seq, w_asg, w_ret, w_retN, w_drop, w_brk, w_cnt, w_nil, w_sif, w_c, w_ev, w_bin, w_un, w_anil, w_acons, w_tup, w_lst, w_call, w_tB, w_tNot, w_tAnd, w_tOr, w_eIf, w_isN, w_notN, w_gnm, w_gnils, w_gcns, w_gtp2, w_gtp3, w_gtp2p, w_ixT0, w_ixT1, w_ixT2, w_ch, w_chL, w_chK, w_par2, w_par3, w_add, w_sub, w_neg, w_lt, w_le, w_gt, w_ge, w_abs, w_int, w_intb, w_max2, w_min2, w_pno, w_ppart, w_sl, w_bm, w_yes, w_eqI, w_neI, w_eqB, w_neB, QS_nx, QS_rt, QS_bk, QS_ct, QF_nx, QF_rt, QL_nx, QL_ct, QL_bk, QL_rt, wipeE, List.set_cons_succ, List.set_cons_zero, List.getElem?_cons_succ, List.getElem?_cons_zero, D.bl.injEq, D.int.injEq, exists_eq_left', exists_eq_left, w_eAnd, w_tTru, tru_bl, if_true, if_false, Bool.false_eq_true]
    rw [w_fldC h.1 rfl lk_rows, w_ixL (getL_of h.2.1) (row_at hs hl l)]
    exact ⟨rfl, rfl⟩
  · simp only [w_seq, w_asg, w_ret, w_retN, w_drop, w_brk, w_cnt, w_nil, w_sif, w_c, w_ev, w_bin, w_un, w_anil, w_acons, w_tup, w_lst, w_call, w_tB, w_tNot, w_tAnd, w_tOr, w_eIf, w_isN, w_notN, w_gnm, w_gnils, w_gcns, w_gtp2, w_gtp3, w_gtp2p, w_ixT0, w_ixT1, w_ixT2, w_ch, w_chL, w_chK, w_par2, w_par3, w_add, w_sub, w_neg, w_lt, w_le, w_gt, w_ge, w_abs, w_int, w_intb, w_max2, w_min2, w_pno, w_ppart, w_sl, w_bm, w_yes, w_eqI, w_neI, w_eqB, w_neB, QS_nx, QS_rt, QS_bk, QS_ct, QF_nx, QF_rt, QL_nx, QL_ct, QL_bk, QL_rt, wipeE, List.set_cons_succ, List.set_cons_zero, List.getElem?_cons_succ, List.getElem?_cons_zero, D.bl.injEq, D.int.injEq, exists_eq_left', exists_eq_left, w_eAnd, w_tTru, tru_bl, if_true, if_false, Bool.false_eq_true]
    exact ⟨by simp, Ap.refl _, fun _ => ⟨trivial, Ap.refl _⟩⟩
  · have fl : ((row s rows l).filter fun x => decide (x ≠ l)).length ≤ 1000 := Nat.le_trans (List.length_filter_le _ _) hr
    rw [w_tupR (getL_of g1)]
    refine ⟨(by show 1 ≤ 10000000; decide), ?_⟩
    rw [show [D.int l] = [l].map D.int from rfl, w_addT (by rw [List.length_map, List.length_map]; unfold cap; simp only [List.length_cons, List.length_nil]; omega), ← List.map_append]
    rw [w_fldC (a1 _ _ h.1) rfl lk_ways]
    refine ⟨_, rfl, ?_⟩
    have sl : oSl (.tup (([l] ++ (row s rows l).filter fun x => decide (x ≠ l)).map D.int)) none (some (w : Int)) S1 = some (rwD ((l :: (row s rows l).filter fun x => decide (x ≠ l)).take w), S1) := by
      show some (D.tup (cutG _ none (some (w : Int))), S1) = _
      rw [cut_none, ← List.map_take]
      rfl
    rw [sl, W_some]
    rw [w_setL (fld_eq (a1 _ _ h.1) rfl lk_rows) (by show eVar 2 _ _ = _; rfl) (a1 _ _ h.2.1) (row_ix hs hl l)]
    refine ⟨trivial, ⟨?_, ?_, h.2.2⟩, ?_⟩
    · rw [List.getElem?_set_ne (Ne.symm h.2.2)]
      exact a1 _ _ h.1
    · rw [set_at (a1 _ _ h.2.1), List.map_set]
    · intro m' o hne e
      rw [List.getElem?_set_ne (Ne.symm hne)]
      exact a1 _ _ e
end
end K51
/-! K51e: one need. -/
namespace K51
open PySem L2 FL M51
section
variable {S : Sto} {Q : D → Sto → Prop}
theorem kok_OR {s w : Nat} {rows : List (List Int)} (g : Good s rows) (hs4 : s ≤ 4) (hw : w ≤ 4) : Kok (OR w rows) := by
  refine ⟨OR_keys g w, ?_, fun p hp => ?_⟩
  · have : (OR w rows).length = (prs w rows).length := (sortP_perm _).length_eq
    rw [this]
    unfold prs
    rw [List.length_flatMap]
    have h : ∀ l : List (List Int), (l.map fun r => (prw w r).length).sum ≤ 4 * l.length := by
      intro l
      induction l with
      | nil => simp
      | cons r l ih =>
        rw [List.map_cons, List.sum_cons, List.length_cons]
        have : (prw w r).length ≤ 4 := by
          unfold prw
          rw [List.length_mapIdx, List.length_take]
          omega
        omega
    have := h rows
    rw [g.len] at this
    omega
  · have hp' := OR_mem.mp hp
    unfold prs at hp'
    obtain ⟨r, _, h⟩ := List.mem_flatMap.mp hp'
    obtain ⟨a, b⟩ := p
    obtain ⟨n, e, hn, _⟩ := mem_prw.mp h
    show 0 ≤ b ∧ b ≤ 1000
    omega
theorem any_has {s w : Nat} {rows : List (List Int)} (g : Good s rows) (hs : 0 < s) (l : Int) : ((OR w rows).any fun p => decide (p.1 = l)) = decide (l ∈ (row s rows l).take w) := by
  rw [Bool.eq_iff_iff, List.any_eq_true, decide_eq_true_eq, ← has_OR g hs]
  simp only [decide_eq_true_eq]
theorem uK_OR {s w : Nat} {rows : List (List Int)} (g : Good s rows) (hs : 0 < s) (hw : 0 < w) (l : Int) : uK s w l (OR w rows) = OR w (touch s l rows) := used_OR g hs hw l
theorem aK_OR {s w : Nat} {rows : List (List Int)} (g : Good s rows) (hs : 0 < s) (hw : 0 < w) (l : Int) : aK s w l (OR w rows) = OR w (touch s l rows) := by
  unfold aK
  rw [aged_OR g hs]
  exact used_OR g hs hw l
theorem row_map {s w : Nat} {rows : List (List Int)} (l : Int) : row s (rows.map fun r => r.take w) l = (row s rows l).take w := by
  unfold row
  rw [List.getD_eq_getElem?_getD, List.getD_eq_getElem?_getD, List.getElem?_map]
  cases rows[ix s l]? <;> simp
theorem touch_map {s w : Nat} {rows : List (List Int)} (l : Int) : (touch s l rows).map (fun r => r.take w) = (rows.map fun r => r.take w).set (ix s l) ((front l (row s rows l)).take w) := by
  unfold touch
  rw [List.map_set]
theorem has_no {s w m : Nat} : (cFs s w m).lookup (Str.ofString "has") = none ∧ (cFs s w m).lookup (Str.ofString "fill") = none ∧ (cFs s w m).lookup (Str.ofString "lines") = none := by
  refine ⟨?_, ?_, ?_⟩ <;>
  · unfold cFs
    rw [List.lookup_cons, show (_ == Str.ofString "sets") = false by decide +kernel, List.lookup_cons, show (_ == Str.ofString "ways") = false by decide +kernel, List.lookup_cons, show (_ == Str.ofString "policy") = false by decide +kernel, List.lookup_cons, show (_ == Str.ofString "rows") = false by decide +kernel]
    rfl
def MM (w : Nat) (r t : List (List Int)) (b : Bool) : Option (List P) := if b = true then some (OR w r) else none
theorem need_ok {s w n m : Nat} {r t : List (List Int)} {l : Int} {b : Bool} (hs : 0 < s) (hs4 : s ≤ 4) (hw : 0 < w) (hw4 : w ≤ 4) (gr : Good s r) (gt : Good s t) (pre : row s t l <+: row s r l) (h : CA S s w n m (r.map fun x => x.take w)) :
    W (f__law_need [tD s w, .ref n, knD (OR w t) (MM w r t b), .int l] S) fun d S' => ∃ (q : Nat) (bs : List Bool), d = .tup [.bl (decide (l ∈ (row s r l).take w)), .ref q, knD (OR w (touch s l t)) (MM w (touch s l r) (touch s l t) b)] ∧ S'[q]? = some (.lst (bs.map D.bl)) ∧ decide (l ∈ (row s r l).take w) ∈ bs ∧ CA S' s w n m ((touch s l r).map fun x => x.take w) ∧ Kn m S S' ∧ S.length ≤ q := by
  have kt := kok_OR gt hs4 hw4
  have km : ∀ k2, MM w r t b = some k2 → Kok k2 := fun k2 e => by
    unfold MM at e
    split at e
    · cases e
      exact kok_OR gr hs4 hw4
    · cases e
  have hz : ∀ x ∈ (r.map fun x => x.take w), x.length ≤ 1000 := fun x hx => by
    obtain ⟨y, _, rfl⟩ := List.mem_map.mp hx
    rw [List.length_take]
    omega
  refine w_fn rfl ?_
  show W (b__law_need [some (tD s w), some (.ref n), some (knD (OR w t) (MM w r t b)), some (.int l), none, none] S) _
  unfold b__law_need
  simp only [w_seq, w_asg]
  refine w_meth ?_
  simp only [w_ev, List.getElem?_cons_succ, List.getElem?_cons_zero]
  refine ⟨n, _, rfl, h.1, has_no.1, ?_⟩
  simp only [w_acons, w_anil, w_ev, List.getElem?_cons_succ, List.getElem?_cons_zero]
  obtain ⟨d1, S1, e1, rfl, c1, k1⟩ := has_ok (l := l) hs (by rw [List.length_map, gr.len]) hz h
  refine ⟨_, _, e1, ?_⟩
  simp only [w_seq, w_asg, w_ret, w_retN, w_drop, w_brk, w_cnt, w_nil, w_sif, w_c, w_ev, w_bin, w_un, w_anil, w_acons, w_tup, w_lst, w_call, w_tB, w_tNot, w_tAnd, w_tOr, w_eIf, w_isN, w_notN, w_gnm, w_gnils, w_gcns, w_gtp2, w_gtp3, w_gtp2p, w_ixT0, w_ixT1, w_ixT2, w_ch, w_chL, w_chK, w_par2, w_par3, w_add, w_sub, w_neg, w_lt, w_le, w_gt, w_ge, w_abs, w_int, w_intb, w_max2, w_min2, w_pno, w_ppart, w_sl, w_bm, w_yes, w_eqI, w_neI, w_eqB, w_neB, QS_nx, QS_rt, QS_bk, QS_ct, QF_nx, QF_rt, QL_nx, QL_ct, QL_bk, QL_rt, wipeE, List.set_cons_succ, List.set_cons_zero, List.getElem?_cons_succ, List.getElem?_cons_zero, D.bl.injEq, D.int.injEq, exists_eq_left', exists_eq_left, w_eAnd, w_tTru, tru_bl, if_true, if_false, Bool.false_eq_true]
  obtain ⟨d2, S2, e2, q, bs, rfl, g2, a2, lq, ebs⟩ := verdicts_ok (S := S1) (l := l) kt km
  refine ⟨_, _, e2, ?_⟩
  simp only [w_seq, w_asg, w_ret, w_retN, w_drop, w_brk, w_cnt, w_nil, w_sif, w_c, w_ev, w_bin, w_un, w_anil, w_acons, w_tup, w_lst, w_call, w_tB, w_tNot, w_tAnd, w_tOr, w_eIf, w_isN, w_notN, w_gnm, w_gnils, w_gcns, w_gtp2, w_gtp3, w_gtp2p, w_ixT0, w_ixT1, w_ixT2, w_ch, w_chL, w_chK, w_par2, w_par3, w_add, w_sub, w_neg, w_lt, w_le, w_gt, w_ge, w_abs, w_int, w_intb, w_max2, w_min2, w_pno, w_ppart, w_sl, w_bm, w_yes, w_eqI, w_neI, w_eqB, w_neB, QS_nx, QS_rt, QS_bk, QS_ct, QF_nx, QF_rt, QL_nx, QL_ct, QL_bk, QL_rt, wipeE, List.set_cons_succ, List.set_cons_zero, List.getElem?_cons_succ, List.getElem?_cons_zero, D.bl.injEq, D.int.injEq, exists_eq_left', exists_eq_left, w_eAnd, w_tTru, tru_bl, if_true, if_false, Bool.false_eq_true]
  rw [row_map] at c1 ⊢
  have nr : (row s r l).Nodup := gr.nd _ _ (gr.row hs l)
  have len1 : S.length ≤ S1.length := by
    rcases Nat.lt_or_ge S1.length S.length with z | z
    · exfalso
      have hm1 := (List.getElem?_eq_some_iff.mp c1.2.1).1
      have e := k1 S1.length S[S1.length] (fun e => by rw [e] at hm1; exact Nat.lt_irrefl _ hm1) (List.getElem?_eq_getElem z)
      rw [List.getElem?_eq_none (Nat.le_refl _)] at e
      cases e
    · exact z
  have eu := uK_OR gt hs hw l
  have ea : (MM w r t b).map (aK s w l) = MM w (touch s l r) (touch s l t) b := by
    unfold MM
    split
    · rw [Option.map_some, aK_OR gr hs hw l]
    · rfl
  have mbs : decide (l ∈ (row s r l).take w) ∈ bs := by
    rw [ebs, any_has gt hs]
    by_cases h1 : l ∈ (row s t l).take w
    · rw [if_pos (decide_eq_true h1), decide_eq_true (by obtain ⟨u, e⟩ := pre; rw [← e, List.take_append]; exact List.mem_append_left _ h1)]
      exact List.mem_cons_self
    · rw [if_neg (by rw [decide_eq_false h1]; exact Bool.false_ne_true)]
      unfold MM
      by_cases hb : b = true
      · rw [if_pos hb]
        simp only [any_has gr hs]
        by_cases h2 : l ∈ (row s r l).take w
        · simp [h2]
        · simp [h2]
      · rw [if_neg hb]
        by_cases h2 : l ∈ (row s r l).take w
        · simp [h2]
        · simp [h2]
  by_cases hm : l ∈ (row s r l).take w
  · rw [if_pos hm, has_row nr hm, ← touch_map] at c1
    rw [if_pos (decide_eq_true hm)]
    obtain ⟨d3, S3, e3, rfl, a3⟩ := touched_ok (S := S2) (l := l) hs (by omega : w ≤ 100) kt km
    refine ⟨_, _, e3, (by show 3 ≤ 10000000; decide), q, bs, by rw [eu, ea], a3 _ _ g2, mbs, ⟨a3 _ _ (a2 _ _ c1.1), a3 _ _ (a2 _ _ c1.2.1), c1.2.2⟩, fun m' o hne e => a3 _ _ (a2 _ _ (k1 _ _ hne e)), by omega⟩
  · rw [if_neg hm] at c1
    rw [if_neg (by rw [decide_eq_false hm]; exact Bool.false_ne_true)]
    refine w_meth ?_
    simp only [w_ev, List.getElem?_cons_succ, List.getElem?_cons_zero]
    refine ⟨n, _, rfl, a2 _ _ c1.1, has_no.2.1, ?_⟩
    simp only [w_acons, w_anil, w_ev, List.getElem?_cons_succ, List.getElem?_cons_zero]
    obtain ⟨d4, S4, e4, rfl, c4, k4⟩ := fill_ok (S := S2) (l := l) hs (by rw [List.length_map, gr.len]) hz (⟨a2 _ _ c1.1, a2 _ _ c1.2.1, c1.2.2⟩ : CA S2 s w n m _)
    rw [row_map, fill_row hm, ← touch_map] at c4
    refine ⟨_, _, e4, ?_⟩
    obtain ⟨d5, S5, e5, rfl, a5⟩ := missed_ok (S := S4) (l := l) (k := OR w t) km
    have em : ((MM w r t b).map fun k2 => k2.filter fun p => decide (p.1 ≠ l)) = MM w r t b := by
      unfold MM
      split
      · rw [Option.map_some, miss_OR gr hs hm]
      · rfl
    rw [em] at e5
    refine ⟨_, _, e5, ?_⟩
    obtain ⟨d6, S6, e6, rfl, a6⟩ := filled_ok (S := S5) (l := l) hs (by omega : w ≤ 100) kt km
    have hqm : q ≠ m := by
      have := (List.getElem?_eq_some_iff.mp c1.2.1).1
      omega
    refine ⟨_, _, e6, (by show 3 ≤ 10000000; decide), q, bs, by rw [eu, ea], a6 _ _ (a5 _ _ (k4 _ _ hqm g2)), mbs, ⟨a6 _ _ (a5 _ _ c4.1), a6 _ _ (a5 _ _ c4.2.1), c4.2.2⟩, fun m' o hne e => a6 _ _ (a5 _ _ (k4 _ _ hne (a2 _ _ (k1 _ _ hne e)))), by omega⟩
end
end K51
/-! K51f: a new cache. -/
namespace K51
open PySem L2 FL M51
section
variable {S : Sto} {Q : D → Sto → Prop}
theorem put_flds {s w m : Nat} : FL.putF (Str.ofString "rows") (.ref m) (FL.putF (Str.ofString "policy") (.str "lru") (FL.putF (Str.ofString "ways") (.int w) (FL.putF (Str.ofString "sets") (.int s) []))) = cFs s w m := by
  have h1 : ¬ (Str.ofString "sets" = Str.ofString "ways") := by decide +kernel
  have h2 : ¬ (Str.ofString "sets" = Str.ofString "policy") := by decide +kernel
  have h3 : ¬ (Str.ofString "ways" = Str.ofString "policy") := by decide +kernel
  have h4 : ¬ (Str.ofString "sets" = Str.ofString "rows") := by decide +kernel
  have h5 : ¬ (Str.ofString "ways" = Str.ofString "rows") := by decide +kernel
  have h6 : ¬ (Str.ofString "policy" = Str.ofString "rows") := by decide +kernel
  simp only [FL.putF, if_neg h1, if_neg h2, if_neg h3, if_neg h4, if_neg h5, if_neg h6]
  rfl
theorem putF_len (f : Str) (d : D) : ∀ fs : List (Str × D), (FL.putF f d fs).length ≤ fs.length + 1
  | [] => Nat.le_refl _
  | (g, x) :: r => by
    unfold FL.putF
    split
    · simp
    · rw [List.length_cons, List.length_cons]
      have := putF_len f d r
      omega
theorem init_ok {s w n : Nat} {rows : List (List Int)} (hz : rows.length ≤ 1000) (h : S[n]? = some (.ins "Cache" [])) :
    W (f_Cache___init__ [.ref n, tD s w, .tup (rows.map rwD)] S) fun d S' => ∃ m, d = .non ∧ CA S' s w n m rows ∧ Kn n S S' ∧ S.length ≤ m := by
  refine w_fn rfl ?_
  show W (b_Cache___init__ [some (.ref n), some (tD s w), some (.tup (rows.map rwD)), none] S) _
  unfold b_Cache___init__
  simp only [w_seq, w_asg, w_ev, List.getElem?_cons_succ, List.getElem?_cons_zero, w_gtp3, w_gcns, w_gnils]
  rw [w_gfd (show eVar 0 _ _ = _ from rfl) h (List.mem_cons_self) (by decide)]
  rw [w_gfd (show eVar 0 _ _ = _ from rfl) (set_at h) (List.mem_cons_self) (Nat.lt_of_le_of_lt (putF_len _ _ _) (by decide)), w_gfd (show eVar 0 _ _ = _ from rfl) (set_at (set_at h)) (List.mem_cons_self) (Nat.lt_of_le_of_lt (Nat.le_trans (putF_len _ _ _) (Nat.succ_le_succ (putF_len _ _ _))) (by decide))]
  have g3 := set_at (o' := O.ins (Str.ofString "Cache") (FL.putF (Str.ofString "policy") (.str "lru") (FL.putF (Str.ofString "ways") (.int w) (FL.putF (Str.ofString "sets") (.int s) [])))) (set_at (o' := O.ins (Str.ofString "Cache") (FL.putF (Str.ofString "ways") (.int w) (FL.putF (Str.ofString "sets") (.int s) []))) (set_at (o' := O.ins (Str.ofString "Cache") (FL.putF (Str.ofString "sets") (.int s) [])) h))
  simp only [List.set_set] at g3 ⊢
  simp only [QS_nx, w_asg]
  revert g3
  generalize eS : S.set n (O.ins (Str.ofString "Cache") (FL.putF (Str.ofString "policy") (.str "lru") (FL.putF (Str.ofString "ways") (.int w) (FL.putF (Str.ofString "sets") (.int s) [])))) = S2
  intro g3
  have l2 : S2.length = S.length := by rw [← eS, List.length_set]
  refine w_lcm (ds := rows.map rwD) id (fun _ => true) ?_ (fun d hd S3 a => ?_) (by rw [List.length_map]; unfold cap; omega) fun m S3 a3 hm g => ?_
  · refine w_iseqT ?_
    simp only [w_seq, w_asg, w_ret, w_retN, w_drop, w_brk, w_cnt, w_nil, w_sif, w_c, w_ev, w_bin, w_un, w_anil, w_acons, w_tup, w_lst, w_call, w_tB, w_tNot, w_tAnd, w_tOr, w_eIf, w_isN, w_notN, w_gnm, w_gnils, w_gcns, w_gtp2, w_gtp3, w_gtp2p, w_ixT0, w_ixT1, w_ixT2, w_ch, w_chL, w_chK, w_par2, w_par3, w_add, w_sub, w_neg, w_lt, w_le, w_gt, w_ge, w_abs, w_int, w_intb, w_max2, w_min2, w_pno, w_ppart, w_sl, w_bm, w_yes, w_eqI, w_neI, w_eqB, w_neB, QS_nx, QS_rt, QS_bk, QS_ct, QF_nx, QF_rt, QL_nx, QL_ct, QL_bk, QL_rt, wipeE, List.set_cons_succ, List.set_cons_zero, List.getElem?_cons_succ, List.getElem?_cons_zero, D.bl.injEq, D.int.injEq, exists_eq_left', exists_eq_left, w_eAnd, w_tTru, tru_bl, if_true, if_false, Bool.false_eq_true]
    exact ⟨_, rfl, Ap.refl _, by simp [ItD.fix], fun S2 a i => rfl⟩
  · obtain ⟨r, _, rfl⟩ := List.mem_map.mp hd
    simp only [w_seq, w_asg, w_ret, w_retN, w_drop, w_brk, w_cnt, w_nil, w_sif, w_c, w_ev, w_bin, w_un, w_anil, w_acons, w_tup, w_lst, w_call, w_tB, w_tNot, w_tAnd, w_tOr, w_eIf, w_isN, w_notN, w_gnm, w_gnils, w_gcns, w_gtp2, w_gtp3, w_gtp2p, w_ixT0, w_ixT1, w_ixT2, w_ch, w_chL, w_chK, w_par2, w_par3, w_add, w_sub, w_neg, w_lt, w_le, w_gt, w_ge, w_abs, w_int, w_intb, w_max2, w_min2, w_pno, w_ppart, w_sl, w_bm, w_yes, w_eqI, w_neI, w_eqB, w_neB, QS_nx, QS_rt, QS_bk, QS_ct, QF_nx, QF_rt, QL_nx, QL_ct, QL_bk, QL_rt, wipeE, List.set_cons_succ, List.set_cons_zero, List.getElem?_cons_succ, List.getElem?_cons_zero, D.bl.injEq, D.int.injEq, exists_eq_left', exists_eq_left, w_eAnd, w_tTru, tru_bl, if_true, if_false, Bool.false_eq_true, w_tupT]
    exact ⟨trivial, Ap.refl _, fun _ => ⟨rfl, Ap.refl _⟩⟩
  · have hn := (List.getElem?_eq_some_iff.mp h).1
    rw [w_gfd (show eVar 0 _ _ = _ from rfl) (a3 _ _ g3) (List.mem_cons_self) (Nat.lt_of_le_of_lt (Nat.le_trans (putF_len _ _ _) (Nat.succ_le_succ (Nat.le_trans (putF_len _ _ _) (Nat.succ_le_succ (putF_len _ _ _))))) (by decide)), put_flds]
    refine ⟨m, rfl, ⟨set_at (a3 _ _ g3), ?_, by omega⟩, fun m' o hne e => ?_, by omega⟩
    · rw [List.getElem?_set_ne (by omega), g, List.filter_eq_self.mpr fun _ _ => rfl, List.map_id]
    · rw [List.getElem?_set_ne (Ne.symm hne)]
      refine a3 _ _ ?_
      rw [← eS, List.getElem?_set_ne (Ne.symm hne)]
      exact e
end
end K51
/-! K51g: what is known of a cache that is known. -/
namespace K51
open PySem L2 FL M51
section
variable {S : Sto} {Q : D → Sto → Prop}
theorem prs_succ {w i : Nat} {rows : List (List Int)} {r : List Int} (h : rows[i]? = some r) : prs w (rows.take (i + 1)) = prs w (rows.take i) ++ prw w r := by
  unfold prs
  rw [List.take_succ, h, List.flatMap_append]
  simp
theorem prw_get {w j : Nat} {r : List Int} {l : Int} (hw : r.length ≤ w) (h : r[j]? = some l) : (prw w r)[j]? = some (l, (j : Int)) := by
  unfold prw
  rw [List.take_of_length_le hw, List.getElem?_mapIdx, h]
  rfl
theorem keys_new {s w i j : Nat} {rows : List (List Int)} {r : List Int} {l : Int} (g : Good s rows) (hw : r.length ≤ w) (h : rows[i]? = some r) (hl : r[j]? = some l) : l ∉ (prs w (rows.take i) ++ (prw w r).take j).map (·.1) := by
  have nd := g.keys w
  have e : prs w rows = (prs w (rows.take i) ++ prw w r) ++ prs w (rows.drop (i + 1)) := by
    rw [← prs_succ h]
    unfold prs
    rw [← List.flatMap_append, List.take_append_drop]
  have pj := prw_get hw hl
  have e2 : prw w r = (prw w r).take j ++ (l, (j : Int)) :: (prw w r).drop (j + 1) := by
    have hj := (List.getElem?_eq_some_iff.mp pj)
    obtain ⟨h1, h2⟩ := hj
    rw [← h2, List.getElem_cons_drop, List.take_append_drop]
  rw [e, List.map_append, List.nodup_append] at nd
  have nd1 := nd.1
  rw [e2, ← List.append_assoc, List.map_append, List.nodup_append] at nd1
  intro z
  exact nd1.2.2 _ z _ (by rw [List.map_cons]; exact List.mem_cons_self) rfl
theorem of_cache_ok {s w : Nat} {rows : List (List Int)} (g : Good s rows) (hw : ∀ r ∈ rows, r.length ≤ w) (hs4 : s ≤ 4) (hw4 : w ≤ 4) :
    W (f_of_cache [tD s w, .tup (rows.map rwD)] S) fun d S' => d = knD (OR w rows) (some (OR w rows)) ∧ Ap S S' := by
  refine w_fn rfl ?_
  show W (b_of_cache [some (tD s w), some (.tup (rows.map rwD)), none, none, none, none, none] S) _
  unfold b_of_cache
  have d0 : ∀ (env : FL.Env) (S : Sto) (Q : D → Sto → Prop), W (eDic0 env S) Q ↔ W (some (D.ref S.length, S ++ [.dic []])) Q := fun _ _ _ => Iff.rfl
  simp only [w_seq, w_asg, d0, W_some, w_gnm, QS_nx, List.set_cons_succ, List.set_cons_zero]
  refine w_for.mpr (w_iseqT ?_)
  simp only [w_seq, w_asg, w_ret, w_retN, w_drop, w_brk, w_cnt, w_nil, w_sif, w_c, w_ev, w_bin, w_un, w_anil, w_acons, w_tup, w_lst, w_call, w_tB, w_tNot, w_tAnd, w_tOr, w_eIf, w_isN, w_notN, w_gnm, w_gnils, w_gcns, w_gtp2, w_gtp3, w_gtp2p, w_ixT0, w_ixT1, w_ixT2, w_ch, w_chL, w_chK, w_par2, w_par3, w_add, w_sub, w_neg, w_lt, w_le, w_gt, w_ge, w_abs, w_int, w_intb, w_max2, w_min2, w_pno, w_ppart, w_sl, w_bm, w_yes, w_eqI, w_neI, w_eqB, w_neB, QS_nx, QS_rt, QS_bk, QS_ct, QF_nx, QF_rt, QL_nx, QL_ct, QL_bk, QL_rt, wipeE, List.set_cons_succ, List.set_cons_zero, List.getElem?_cons_succ, List.getElem?_cons_zero, D.bl.injEq, D.int.injEq, exists_eq_left', exists_eq_left, w_eAnd, w_tTru, tru_bl, if_true, if_false, Bool.false_eq_true]
  refine ⟨_, rfl, ?_⟩
  refine for_fix (fun i env S' => ∃ x y z, env = [some (tD s w), some (.tup (rows.map rwD)), some (.ref S.length), some (.ref (S.length + 1)), x, y, z] ∧ Ap S S' ∧ S'[S.length]? = some (.dic ((prs w (rows.take i)).map kvI)) ∧ S'[S.length + 1]? = some (.dic ((prs w (rows.take i)).map kvI))) ?_ ?_ ?_
  · rintro i d env S' hd ⟨x, y, z, rfl, a, g1, g2⟩
    rw [List.getElem?_map] at hd
    obtain ⟨r, hr, rfl⟩ := Option.map_eq_some_iff.mp hd
    have hrw := hw r (List.mem_iff_getElem?.mpr ⟨i, hr⟩)
    rw [prs_succ hr]
    simp only [w_gnm, List.set_cons_succ, List.set_cons_zero]
    refine w_for.mpr (w_enumT ?_)
    simp only [w_seq, w_asg, w_ret, w_retN, w_drop, w_brk, w_cnt, w_nil, w_sif, w_c, w_ev, w_bin, w_un, w_anil, w_acons, w_tup, w_lst, w_call, w_tB, w_tNot, w_tAnd, w_tOr, w_eIf, w_isN, w_notN, w_gnm, w_gnils, w_gcns, w_gtp2, w_gtp3, w_gtp2p, w_ixT0, w_ixT1, w_ixT2, w_ch, w_chL, w_chK, w_par2, w_par3, w_add, w_sub, w_neg, w_lt, w_le, w_gt, w_ge, w_abs, w_int, w_intb, w_max2, w_min2, w_pno, w_ppart, w_sl, w_bm, w_yes, w_eqI, w_neI, w_eqB, w_neB, QS_nx, QS_rt, QS_bk, QS_ct, QF_nx, QF_rt, QL_nx, QL_ct, QL_bk, QL_rt, wipeE, List.set_cons_succ, List.set_cons_zero, List.getElem?_cons_succ, List.getElem?_cons_zero, D.bl.injEq, D.int.injEq, exists_eq_left', exists_eq_left, w_eAnd, w_tTru, tru_bl, if_true, if_false, Bool.false_eq_true]
    refine ⟨_, rfl, ?_⟩
    refine for_fix (fun j env S' => ∃ y z, env = [some (tD s w), some (.tup (rows.map rwD)), some (.ref S.length), some (.ref (S.length + 1)), some (rwD r), y, z] ∧ Ap S S' ∧ S'[S.length]? = some (.dic ((prs w (rows.take i) ++ (prw w r).take j).map kvI)) ∧ S'[S.length + 1]? = some (.dic ((prs w (rows.take i) ++ (prw w r).take j).map kvI))) ?_ ?_ ⟨_, _, rfl, a, by rw [List.take_zero, List.append_nil]; exact g1, by rw [List.take_zero, List.append_nil]; exact g2⟩
    · rintro j d env S3 hd ⟨y, z, rfl, a3, h1, h2⟩
      rw [List.getElem?_mapIdx] at hd
      obtain ⟨d', hd', rfl⟩ := Option.map_eq_some_iff.mp hd
      rw [List.getElem?_map] at hd'
      obtain ⟨l, hl, rfl⟩ := Option.map_eq_some_iff.mp hd'
      have nk := keys_new g hrw hr hl
      have len : (prs w (rows.take i) ++ (prw w r).take j).length < cap := by
        have e : (OR w rows).length = (prs w rows).length := (sortP_perm _).length_eq
        have k1 := (kok_OR g hs4 hw4).len
        have k2 : (prs w (rows.take i)).length ≤ (prs w rows).length := by
          have e2 : prs w rows = prs w (rows.take i) ++ prs w (rows.drop i) := by
            unfold prs
            rw [← List.flatMap_append, List.take_append_drop]
          rw [e2, List.length_append]
          omega
        have k3 : ((prw w r).take j).length ≤ 4 := by
          rw [List.length_take]
          unfold prw
          rw [List.length_mapIdx, List.length_take]
          omega
        rw [List.length_append]
        unfold cap
        omega
      have tk : (prw w r).take (j + 1) = (prw w r).take j ++ [(l, (j : Int))] := by
        rw [List.take_succ, prw_get hrw hl]
        rfl
      show W (gTp 2 (gCns (gNm 5) (gCns (gNm 6) gNils)) (.pr [.int j, .int l]) _ S3) _
      simp only [w_seq, w_asg, w_ret, w_retN, w_drop, w_brk, w_cnt, w_nil, w_sif, w_c, w_ev, w_bin, w_un, w_anil, w_acons, w_tup, w_lst, w_call, w_tB, w_tNot, w_tAnd, w_tOr, w_eIf, w_isN, w_notN, w_gnm, w_gnils, w_gcns, w_gtp2, w_gtp3, w_gtp2p, w_ixT0, w_ixT1, w_ixT2, w_ch, w_chL, w_chK, w_par2, w_par3, w_add, w_sub, w_neg, w_lt, w_le, w_gt, w_ge, w_abs, w_int, w_intb, w_max2, w_min2, w_pno, w_ppart, w_sl, w_bm, w_yes, w_eqI, w_neI, w_eqB, w_neB, QS_nx, QS_rt, QS_bk, QS_ct, QF_nx, QF_rt, QL_nx, QL_ct, QL_bk, QL_rt, wipeE, List.set_cons_succ, List.set_cons_zero, List.getElem?_cons_succ, List.getElem?_cons_zero, D.bl.injEq, D.int.injEq, exists_eq_left', exists_eq_left, w_eAnd, w_tTru, tru_bl, if_true, if_false, Bool.false_eq_true]
      rw [w_setI (ks := prs w (rows.take i) ++ (prw w r).take j) (x := l) (by show eVar 3 _ _ = _; rfl) (by show eVar 6 _ _ = _; rfl) h2 len nk]
      simp only [w_seq, w_asg, w_ret, w_retN, w_drop, w_brk, w_cnt, w_nil, w_sif, w_c, w_ev, w_bin, w_un, w_anil, w_acons, w_tup, w_lst, w_call, w_tB, w_tNot, w_tAnd, w_tOr, w_eIf, w_isN, w_notN, w_gnm, w_gnils, w_gcns, w_gtp2, w_gtp3, w_gtp2p, w_ixT0, w_ixT1, w_ixT2, w_ch, w_chL, w_chK, w_par2, w_par3, w_add, w_sub, w_neg, w_lt, w_le, w_gt, w_ge, w_abs, w_int, w_intb, w_max2, w_min2, w_pno, w_ppart, w_sl, w_bm, w_yes, w_eqI, w_neI, w_eqB, w_neB, QS_nx, QS_rt, QS_bk, QS_ct, QF_nx, QF_rt, QL_nx, QL_ct, QL_bk, QL_rt, wipeE, List.set_cons_succ, List.set_cons_zero, List.getElem?_cons_succ, List.getElem?_cons_zero, D.bl.injEq, D.int.injEq, exists_eq_left', exists_eq_left, w_eAnd, w_tTru, tru_bl, if_true, if_false, Bool.false_eq_true, w_lru]
      have hne : S.length + 1 ≠ S.length := by omega
      have h1' : (S3.set (S.length + 1) (.dic (((prs w (rows.take i) ++ (prw w r).take j) ++ [(l, (j : Int))]).map kvI)))[S.length]? = some (.dic ((prs w (rows.take i) ++ (prw w r).take j).map kvI)) := by
        rw [List.getElem?_set_ne hne]
        exact h1
      rw [w_setI (ks := prs w (rows.take i) ++ (prw w r).take j) (x := l) (by show eVar 2 _ _ = _; rfl) (by show eVar 6 _ _ = _; rfl) h1' len nk]
      refine ⟨_, _, rfl, (a3.set (by omega)).set (Nat.le_refl _), ?_, ?_⟩
      · rw [set_at h1', tk, List.append_assoc]
      · rw [List.getElem?_set_ne hne.symm, set_at h2, tk, List.append_assoc]
    · rintro env S3 ⟨y, z, rfl, a3, h1, h2⟩
      have e : (prw w r).take ((r.map D.int).mapIdx enumD).length = prw w r := by
        rw [List.length_mapIdx, List.length_map]
        refine List.take_of_length_le ?_
        unfold prw
        rw [List.length_mapIdx, List.length_take]
        omega
      rw [e] at h1 h2
      exact ⟨_, _, _, rfl, a3, h1, h2⟩
  · rintro env S' ⟨x, y, z, rfl, a, g1, g2⟩
    rw [List.length_map, List.take_length] at g1 g2
    have hl : (prs w rows).length ≤ cap := by
      have e : (OR w rows).length = (prs w rows).length := (sortP_perm _).length_eq
      have := (kok_OR g hs4 hw4).len
      unfold cap
      omega
    simp only [w_seq, w_asg, w_ret, w_retN, w_drop, w_brk, w_cnt, w_nil, w_sif, w_c, w_ev, w_bin, w_un, w_anil, w_acons, w_tup, w_lst, w_call, w_tB, w_tNot, w_tAnd, w_tOr, w_eIf, w_isN, w_notN, w_gnm, w_gnils, w_gcns, w_gtp2, w_gtp3, w_gtp2p, w_ixT0, w_ixT1, w_ixT2, w_ch, w_chL, w_chK, w_par2, w_par3, w_add, w_sub, w_neg, w_lt, w_le, w_gt, w_ge, w_abs, w_int, w_intb, w_max2, w_min2, w_pno, w_ppart, w_sl, w_bm, w_yes, w_eqI, w_neI, w_eqB, w_neB, QS_nx, QS_rt, QS_bk, QS_ct, QF_nx, QF_rt, QL_nx, QL_ct, QL_bk, QL_rt, wipeE, List.set_cons_succ, List.set_cons_zero, List.getElem?_cons_succ, List.getElem?_cons_zero, D.bl.injEq, D.int.injEq, exists_eq_left', exists_eq_left, w_eAnd, w_tTru, tru_bl, if_true, if_false, Bool.false_eq_true]
    refine w_sortItems ?_
    simp only [w_seq, w_asg, w_ret, w_retN, w_drop, w_brk, w_cnt, w_nil, w_sif, w_c, w_ev, w_bin, w_un, w_anil, w_acons, w_tup, w_lst, w_call, w_tB, w_tNot, w_tAnd, w_tOr, w_eIf, w_isN, w_notN, w_gnm, w_gnils, w_gcns, w_gtp2, w_gtp3, w_gtp2p, w_ixT0, w_ixT1, w_ixT2, w_ch, w_chL, w_chK, w_par2, w_par3, w_add, w_sub, w_neg, w_lt, w_le, w_gt, w_ge, w_abs, w_int, w_intb, w_max2, w_min2, w_pno, w_ppart, w_sl, w_bm, w_yes, w_eqI, w_neI, w_eqB, w_neB, QS_nx, QS_rt, QS_bk, QS_ct, QF_nx, QF_rt, QL_nx, QL_ct, QL_bk, QL_rt, wipeE, List.set_cons_succ, List.set_cons_zero, List.getElem?_cons_succ, List.getElem?_cons_zero, D.bl.injEq, D.int.injEq, exists_eq_left', exists_eq_left, w_eAnd, w_tTru, tru_bl, if_true, if_false, Bool.false_eq_true, W_some]
    refine ⟨_, _, _, rfl, g1, intKV_kvI _, hl, ?_⟩
    rw [w_tupR (getL_of (new_at _ _))]
    refine w_sortItems ?_
    simp only [w_seq, w_asg, w_ret, w_retN, w_drop, w_brk, w_cnt, w_nil, w_sif, w_c, w_ev, w_bin, w_un, w_anil, w_acons, w_tup, w_lst, w_call, w_tB, w_tNot, w_tAnd, w_tOr, w_eIf, w_isN, w_notN, w_gnm, w_gnils, w_gcns, w_gtp2, w_gtp3, w_gtp2p, w_ixT0, w_ixT1, w_ixT2, w_ch, w_chL, w_chK, w_par2, w_par3, w_add, w_sub, w_neg, w_lt, w_le, w_gt, w_ge, w_abs, w_int, w_intb, w_max2, w_min2, w_pno, w_ppart, w_sl, w_bm, w_yes, w_eqI, w_neI, w_eqB, w_neB, QS_nx, QS_rt, QS_bk, QS_ct, QF_nx, QF_rt, QL_nx, QL_ct, QL_bk, QL_rt, wipeE, List.set_cons_succ, List.set_cons_zero, List.getElem?_cons_succ, List.getElem?_cons_zero, D.bl.injEq, D.int.injEq, exists_eq_left', exists_eq_left, w_eAnd, w_tTru, tru_bl, if_true, if_false, Bool.false_eq_true, W_some]
    refine ⟨_, _, _, rfl, Ap.app _ _ _ _ g2, intKV_kvI _, hl, ?_⟩
    rw [w_tupR (getL_of (new_at _ _))]
    exact ⟨(by show 2 ≤ 10000000; decide), rfl, (a.trans (Ap.app _ _)).trans (Ap.app _ _)⟩
  · refine ⟨_, _, _, by rw [List.length_append]; rfl, (Ap.app _ _).trans (Ap.app _ _), ?_, ?_⟩
    · exact Ap.app _ _ _ _ (new_at _ _)
    · have z := new_at (S ++ [O.dic []]) (O.dic [])
      rw [List.length_append] at z
      exact z
end
end K51
/-! K51h: the state of the law; one need of one cache. -/
namespace K51
open PySem L2 FL M51
structure Pl where
  tp : Nat
  tm : Nat
  a0 : Nat
  ca : Nat
  n : Nat → Nat
  m : Nat → Nat
  kn : Nat
  si : Nat
  ms : Nat
  q : Nat → Nat
def KN (b : Bool) (R T : Nat → List (List Int)) (k : Nat) : D := knD (OR (k + 1) (T k)) (MM (k + 1) (R k) (T k) b)
structure PO (s : Nat) (p : Pl) : Prop where
  h1 : p.tp < p.a0 ∧ p.tm < p.a0 ∧ p.a0 < p.ca ∧ p.ca < p.kn ∧ p.kn < p.si ∧ p.si < p.ms
  h4 : ∀ k, k < 4 → p.ca < p.n k ∧ p.ca < p.m k ∧ p.n k < p.kn ∧ p.m k < p.kn
  h5 : ∀ j k, j < 4 → k < 4 → j ≠ k → p.n j ≠ p.m k ∧ p.m j ≠ p.m k
  h8 : ∀ i, i < s → p.si < p.q i ∧ p.q i ≠ p.ms
structure LI (s : Nat) (b : Bool) (p : Pl) (R T : Nat → List (List Int)) (r : List (List Int)) (mis : Nat → Int) (S : Sto) : Prop where
  tape : Tape S p.tp p.tm
  told : S[p.a0]? = some (.lst (lf 4 fun k => tD s (k + 1)))
  cas : S[p.ca]? = some (.lst (lf 4 fun k => .ref (p.n k)))
  ca : ∀ k, k < 4 → CA S s (k + 1) (p.n k) (p.m k) ((R k).map fun x => x.take (k + 1))
  kn : S[p.kn]? = some (.lst (lf 4 (KN b R T)))
  si : S[p.si]? = some (.lst (lf s fun i => .ref (p.q i)))
  sq : ∀ i, i < s → S[p.q i]? = some (.lst ((r.getD i []).map D.int))
  ms : S[p.ms]? = some (.lst (lf 4 fun k => .int (mis k)))
theorem CA.ap {S S' : Sto} {s w n m : Nat} {rows : List (List Int)} (h : CA S s w n m rows) (a : Ap S S') : CA S' s w n m rows := ⟨a _ _ h.1, a _ _ h.2.1, h.2.2⟩
theorem CA.kn {S S' : Sto} {s w n m q : Nat} {rows : List (List Int)} (h : CA S s w n m rows) (a : Kn q S S') (h1 : n ≠ q) (h2 : m ≠ q) : CA S' s w n m rows := ⟨a _ _ h1 h.1, a _ _ h2 h.2.1, h.2.2⟩
section
variable {s : Nat} {b : Bool} {p : Pl} {R T R' T' : Nat → List (List Int)} {r t : List (List Int)} {mis mis' : Nat → Int} {S S' : Sto} {Q : D → Sto → Prop}
theorem LI.ap (h : LI s b p R T r mis S) (a : Ap S S') : LI s b p R T r mis S' :=
  ⟨h.tape.ap a, a _ _ h.told, a _ _ h.cas, fun k hk => (h.ca k hk).ap a, a _ _ h.kn, a _ _ h.si, fun i hi => a _ _ (h.sq i hi), a _ _ h.ms⟩
theorem KN_congr (h : ∀ k, k < 4 → R k = R' k ∧ T k = T' k) : lf 4 (KN b R T) = lf 4 (KN b R' T') := lf_congr fun k hk => by
  unfold KN
  rw [(h k hk).1, (h k hk).2]
theorem LI.congr (h : LI s b p R T r mis S) (e : ∀ k, k < 4 → R k = R' k ∧ T k = T' k) (em : ∀ k, k < 4 → mis k = mis' k) : LI s b p R' T' r mis' S :=
  ⟨h.tape, h.told, h.cas, fun k hk => by rw [← (e k hk).1]; exact h.ca k hk, by rw [h.kn, KN_congr e], h.si, h.sq, by rw [h.ms, lf_congr fun k hk => by rw [em k hk]]⟩
theorem oInB_B {a : Bool} {bs : List Bool} {n : Nat} (h : getL S n = some (bs.map D.bl)) : oInB (.bl a) (.ref n) S = some (decide (a ∈ bs)) := by
  have e1 : ∀ bs : List Bool, (bs.map D.bl).all flatD = true := fun bs => by
    rw [List.all_eq_true]
    intro d hd
    obtain ⟨x, _, rfl⟩ := List.mem_map.mp hd
    rfl
  have e2 : ∀ bs : List Bool, inD (.bl a) (bs.map D.bl) = decide (a ∈ bs) := fun bs => by
    induction bs with
    | nil => rfl
    | cons x bs ih =>
      unfold inD at ih ⊢
      rw [List.map_cons, List.any_cons, ih]
      cases x <;> cases a <;> simp [eqD]
  unfold oInB
  simp only [h]
  rw [if_pos (by rw [e1]; rfl), e2]
theorem w_ninB {a : Bool} {bs : List Bool} {n : Nat} (h : getL S n = some (bs.map D.bl)) : W (oNotIn (.bl a) (.ref n) S) Q ↔ Q (.bl (!decide (a ∈ bs))) S := by
  unfold oNotIn
  rw [oInB_B h]
  simp
def cost (s : Nat) (r : List (List Int)) (l : Int) (k : Nat) : Int := if l ∈ (row s r l).take (k + 1) then 0 else 1
/-- a need of the k-th cache, noted -/
theorem LI.need {k : Nat} {S1 : Sto} (h : LI s b p R T r mis S) (o : PO s p) (hk : k < 4) (k1 : Kn (p.m k) S S1) (c1 : CA S1 s (k + 1) (p.n k) (p.m k) ((R' k).map fun x => x.take (k + 1)))
    (hR : ∀ j, j < 4 → j ≠ k → R' j = R j ∧ T' j = T j) (hM : ∀ j, j < 4 → j ≠ k → mis' j = mis j) :
    LI s b p R' T' r mis' ((S1.set p.kn (.lst ((lf 4 (KN b R T)).set k (KN b R' T' k)))).set p.ms (.lst ((lf 4 fun j => .int (mis j)).set k (.int (mis' k))))) := by
  obtain ⟨o1, o2, o3, o4, o5, o6⟩ := o.h1
  have ok := o.h4 k hk
  have g : ∀ q, q ≠ p.m k → q ≠ p.kn → q ≠ p.ms → ∀ ob, S[q]? = some ob → ((S1.set p.kn (.lst ((lf 4 (KN b R T)).set k (KN b R' T' k)))).set p.ms (.lst ((lf 4 fun j => .int (mis j)).set k (.int (mis' k)))))[q]? = some ob := fun q h1 h2 h3 ob e => by
    rw [List.getElem?_set_ne (Ne.symm h3), List.getElem?_set_ne (Ne.symm h2)]
    exact k1 _ _ h1 e
  have g1 : ∀ q, q ≠ p.kn → q ≠ p.ms → ∀ ob, S1[q]? = some ob → ((S1.set p.kn (.lst ((lf 4 (KN b R T)).set k (KN b R' T' k)))).set p.ms (.lst ((lf 4 fun j => .int (mis j)).set k (.int (mis' k)))))[q]? = some ob := fun q h2 h3 ob e => by
    rw [List.getElem?_set_ne (Ne.symm h3), List.getElem?_set_ne (Ne.symm h2)]
    exact e
  refine ⟨?_, g _ (by omega) (by omega) (by omega) _ h.told, g _ (by omega) (by omega) (by omega) _ h.cas, fun j hj => ?_, ?_, g _ (by omega) (by omega) (by omega) _ h.si, fun i hi => ?_, ?_⟩
  · refine ((h.tape.kn k1 (by omega) (by omega)).set (by omega) (by omega)).set (by omega) (by omega)
  · by_cases e : j = k
    · subst e
      exact ⟨g1 _ (by omega) (by omega) _ c1.1, g1 _ (by omega) (by omega) _ c1.2.1, c1.2.2⟩
    · have q := h.ca j hj
      rw [(hR j hj e).1]
      obtain ⟨x1, x2⟩ := o.h5 j k hj hk e
      have oj := o.h4 j hj
      exact ⟨g _ x1 (by omega) (by omega) _ q.1, g _ x2 (by omega) (by omega) _ q.2.1, q.2.2⟩
  · rw [List.getElem?_set_ne (by omega), List.getElem?_set_self (lt_of_at (k1 _ _ (by omega) h.kn)), lf_set hk]
    refine congrArg (fun z => some (O.lst z)) (lf_congr fun j hj => ?_)
    by_cases e : j = k
    · rw [if_pos e, e]
    · rw [if_neg e]
      unfold KN
      rw [(hR j hj e).1, (hR j hj e).2]
  · have := o.h8 i hi
    exact g _ (by omega) (by omega) this.2 _ (h.sq i hi)
  · rw [List.getElem?_set_self (by rw [List.length_set]; exact lt_of_at (k1 _ _ (by omega) h.ms)), lf_set hk]
    refine congrArg (fun z => some (O.lst z)) (lf_congr fun j hj => ?_)
    by_cases e : j = k
    · rw [if_pos e, e]
    · rw [if_neg e, hM j hj e]
abbrev eL (p : Pl) (s : Nat) (kind at' l : Int) (x3 x5 x6 x10 x15 x16 x17 x18 x19 x20 x21 : Option D) : FL.Env :=
  [some (.ref 0), some (.ref p.tp), some (.int s), x3, some (.int at'), x5, x6, some (.int l), some (.int kind), some (.ref p.a0), x10, some (.ref p.ca), some (.ref p.kn), some (.ref p.si), some (.ref p.ms), x15, x16, x17, x18, x19, x20, x21]
def upR (s : Nat) (l : Int) (i : Nat) (r : List (List Int)) : Nat → List (List Int) := fun k => if k < i then touch s l r else r
def upM (s : Nat) (r : List (List Int)) (l : Int) (i : Nat) (mis : Nat → Int) : Nat → Int := fun k => if k < i then mis k + cost s r l k else mis k
theorem need1 {kind l : Int} {i : Nat} {x3 x5 x6 x10 x15 x16 x17 x18 x19 x20 x21 : Option D} {N : FL.Env → Sto → Prop} {QO : Out → Sto → Prop} (hs : 0 < s) (hs4 : s ≤ 4) (gr : Good s r) (gt : Good s t) (pre : row s t l <+: row s r l) (o : PO s p)
    (h : LI s b p (upR s l i r) (upR s l i t) r (upM s r l i mis) S) (hi : i < 4)
    (hN : ∀ x16 x17 x18 S', LI s b p (upR s l (i + 1) r) (upR s l (i + 1) t) r (upM s r l (i + 1) mis) S' → N (eL p s kind ((ix s l : Nat) : Int) l x3 x5 (some (.int i)) x10 x15 x16 x17 x18 x19 x20 x21) S') :
    W ((sSeq (sAsg (eCall f__law_need (aCons (eBin oIx (eVar 9) (eVar 6)) (aCons (eBin oIx (eVar 11) (eVar 6)) (aCons (eBin oIx (eVar 12) (eVar 6)) (aCons (eVar 7) (aNil)))))) (gTp 3 (gCns (gNm 16) (gCns (gNm 17) (gCns (gIx (eVar 12) (eVar 6)) (gNils)))))) (sSeq (sAsg (eBin oIn (eVar 7) (eSl (eBin oIx (eVar 13) (eVar 4)) pNo (pPart (eBin oAdd (eVar 6) (eC (.int 1)))))) (gNm 18)) (sSeq (sIf (tOr (FL.tB (eBin oNe (eVar 16) (eVar 18))) (FL.tB (eBin oNotIn (eVar 16) (eVar 17)))) (sRet (eC (.bl false))) (sNil)) (sAsg (eBin oAdd (eBin oIx (eVar 14) (eVar 6)) (eCall fInt (aCons (eNot (eVar 16)) (aNil)))) (gIx (eVar 14) (eVar 6)))))) (eL p s kind ((ix s l : Nat) : Int) l x3 x5 (some (.int i)) x10 x15 x16 x17 x18 x19 x20 x21) S) (QL N QO) := by
  have ui : upR s l i r i = r := if_neg (Nat.lt_irrefl _)
  have ut : upR s l i t i = t := if_neg (Nat.lt_irrefl _)
  obtain ⟨o1, o2, o3, o4, o5, o6⟩ := o.h1
  have oi := o.h4 i hi
  simp only [w_seq, w_asg, w_ret, w_retN, w_drop, w_brk, w_cnt, w_nil, w_sif, w_c, w_ev, w_bin, w_un, w_anil, w_acons, w_tup, w_lst, w_call, w_tB, w_tNot, w_tAnd, w_tOr, w_eIf, w_isN, w_notN, w_gnm, w_gnils, w_gcns, w_gtp2, w_gtp3, w_gtp2p, w_ixT0, w_ixT1, w_ixT2, w_ch, w_chL, w_chK, w_par2, w_par3, w_add, w_sub, w_neg, w_lt, w_le, w_gt, w_ge, w_abs, w_int, w_intb, w_max2, w_min2, w_pno, w_ppart, w_sl, w_bm, w_yes, w_eqI, w_neI, w_eqB, w_neB, QS_nx, QS_rt, QS_bk, QS_ct, QF_nx, QF_rt, QL_nx, QL_ct, QL_bk, QL_rt, wipeE, List.set_cons_succ, List.set_cons_zero, List.getElem?_cons_succ, List.getElem?_cons_zero, D.bl.injEq, D.int.injEq, exists_eq_left', exists_eq_left, w_eAnd, w_tTru, tru_bl, if_true, if_false, Bool.false_eq_true]
  rw [w_ixL (getL_of h.told) (lf_at hi)]
  rw [w_ixL (getL_of h.cas) (lf_at hi)]
  rw [w_ixL (getL_of h.kn) (lf_at hi)]
  have ca := h.ca i hi
  rw [ui] at ca
  unfold KN
  rw [ui, ut]
  obtain ⟨d1, S1, e1, q, bs, rfl, g1, mb, c1, k1, lq⟩ := need_ok (w := i + 1) (l := l) (b := b) hs hs4 (Nat.succ_pos i) (by omega) gr gt pre ca
  refine ⟨_, _, e1, ?_⟩
  simp only [w_seq, w_asg, w_ret, w_retN, w_drop, w_brk, w_cnt, w_nil, w_sif, w_c, w_ev, w_bin, w_un, w_anil, w_acons, w_tup, w_lst, w_call, w_tB, w_tNot, w_tAnd, w_tOr, w_eIf, w_isN, w_notN, w_gnm, w_gnils, w_gcns, w_gtp2, w_gtp3, w_gtp2p, w_ixT0, w_ixT1, w_ixT2, w_ch, w_chL, w_chK, w_par2, w_par3, w_add, w_sub, w_neg, w_lt, w_le, w_gt, w_ge, w_abs, w_int, w_intb, w_max2, w_min2, w_pno, w_ppart, w_sl, w_bm, w_yes, w_eqI, w_neI, w_eqB, w_neB, QS_nx, QS_rt, QS_bk, QS_ct, QF_nx, QF_rt, QL_nx, QL_ct, QL_bk, QL_rt, wipeE, List.set_cons_succ, List.set_cons_zero, List.getElem?_cons_succ, List.getElem?_cons_zero, D.bl.injEq, D.int.injEq, exists_eq_left', exists_eq_left, w_eAnd, w_tTru, tru_bl, if_true, if_false, Bool.false_eq_true]
  have hkn := k1 _ _ (by omega) h.kn
  rw [w_setL (by show eVar 12 _ _ = _; rfl) (by show eVar 6 _ _ = _; rfl) hkn (lf_ixN hi)]
  simp only [w_seq, w_asg, w_ret, w_retN, w_drop, w_brk, w_cnt, w_nil, w_sif, w_c, w_ev, w_bin, w_un, w_anil, w_acons, w_tup, w_lst, w_call, w_tB, w_tNot, w_tAnd, w_tOr, w_eIf, w_isN, w_notN, w_gnm, w_gnils, w_gcns, w_gtp2, w_gtp3, w_gtp2p, w_ixT0, w_ixT1, w_ixT2, w_ch, w_chL, w_chK, w_par2, w_par3, w_add, w_sub, w_neg, w_lt, w_le, w_gt, w_ge, w_abs, w_int, w_intb, w_max2, w_min2, w_pno, w_ppart, w_sl, w_bm, w_yes, w_eqI, w_neI, w_eqB, w_neB, QS_nx, QS_rt, QS_bk, QS_ct, QF_nx, QF_rt, QL_nx, QL_ct, QL_bk, QL_rt, wipeE, List.set_cons_succ, List.set_cons_zero, List.getElem?_cons_succ, List.getElem?_cons_zero, D.bl.injEq, D.int.injEq, exists_eq_left', exists_eq_left, w_eAnd, w_tTru, tru_bl, if_true, if_false, Bool.false_eq_true]
  have hix := ix_lt hs l
  have hsi := k1 _ _ (by omega) h.si
  have hms := k1 _ _ (by omega) h.ms
  have hq8 := o.h8 (ix s l) hix
  have hsq := k1 _ _ (show p.q (ix s l) ≠ p.m i by omega) (h.sq _ hix)
  have LN := LI.need (R' := upR s l (i + 1) r) (T' := upR s l (i + 1) t) (mis' := upM s r l (i + 1) mis) (S1 := S1) h o hi k1 (by
      have : upR s l (i + 1) r i = touch s l r := if_pos (Nat.lt_succ_self _)
      rw [this]
      exact c1) (fun j hj hne => by
      unfold upR
      by_cases hji : j < i
      · rw [if_pos hji, if_pos (by omega), if_pos hji, if_pos (by omega)]
        exact ⟨rfl, rfl⟩
      · rw [if_neg hji, if_neg (by omega), if_neg hji, if_neg (by omega)]
        exact ⟨rfl, rfl⟩) (fun j hj hne => by
      unfold upM
      by_cases hji : j < i
      · rw [if_pos hji, if_pos (by omega)]
      · rw [if_neg hji, if_neg (by omega)])
  have eK : KN b (upR s l (i + 1) r) (upR s l (i + 1) t) i = knD (OR (i + 1) (touch s l t)) (MM (i + 1) (touch s l r) (touch s l t) b) := by
    unfold KN
    rw [show upR s l (i + 1) r i = touch s l r from if_pos (Nat.lt_succ_self _), show upR s l (i + 1) t i = touch s l t from if_pos (Nat.lt_succ_self _)]
  rw [eK] at LN
  rw [w_ixL (getL_of (by rw [List.getElem?_set_ne (by omega)]; exact hsi)) (lf_at hix)]
  rw [w_slL (getL_of (by rw [List.getElem?_set_ne (by omega)]; exact hsq)), W_some]
  have ecut : cutG ((r.getD (ix s l) []).map D.int) none (some ((i : Int) + 1)) = ((row s r l).take (i + 1)).map D.int := by
    rw [show ((i : Int) + 1) = ((i + 1 : Nat) : Int) by omega, cut_none, ← List.map_take]
    rfl
  rw [ecut]
  rw [w_inL (getL_of (new_at _ _))]
  simp only [w_seq, w_asg, w_ret, w_retN, w_drop, w_brk, w_cnt, w_nil, w_sif, w_c, w_ev, w_bin, w_un, w_anil, w_acons, w_tup, w_lst, w_call, w_tB, w_tNot, w_tAnd, w_tOr, w_eIf, w_isN, w_notN, w_gnm, w_gnils, w_gcns, w_gtp2, w_gtp3, w_gtp2p, w_ixT0, w_ixT1, w_ixT2, w_ch, w_chL, w_chK, w_par2, w_par3, w_add, w_sub, w_neg, w_lt, w_le, w_gt, w_ge, w_abs, w_int, w_intb, w_max2, w_min2, w_pno, w_ppart, w_sl, w_bm, w_yes, w_eqI, w_neI, w_eqB, w_neB, QS_nx, QS_rt, QS_bk, QS_ct, QF_nx, QF_rt, QL_nx, QL_ct, QL_bk, QL_rt, wipeE, List.set_cons_succ, List.set_cons_zero, List.getElem?_cons_succ, List.getElem?_cons_zero, D.bl.injEq, D.int.injEq, exists_eq_left', exists_eq_left, w_eAnd, w_tTru, tru_bl, if_true, if_false, Bool.false_eq_true]
  simp only [beq_self_eq_true, Bool.not_true]
  rw [if_neg Bool.false_ne_true]
  have ap : Ap (S1.set p.kn (.lst ((lf 4 (KN b (upR s l i r) (upR s l i t))).set i (knD (OR (i + 1) (touch s l t)) (MM (i + 1) (touch s l r) (touch s l t) b))))) (S1.set p.kn (.lst ((lf 4 (KN b (upR s l i r) (upR s l i t))).set i (knD (OR (i + 1) (touch s l t)) (MM (i + 1) (touch s l r) (touch s l t) b)))) ++ [O.lst (((row s r l).take (i + 1)).map D.int)]) := Ap.app _ _
  have hq : q ≠ p.kn := by
    have := lt_of_at h.kn
    omega
  rw [w_ninB (getL_of (ap _ _ (by rw [List.getElem?_set_ne (Ne.symm hq)]; exact g1)))]
  refine ⟨_, rfl, ?_⟩
  rw [decide_eq_true mb]
  simp only [Bool.not_true]
  rw [if_neg Bool.false_ne_true]
  have hms2 := ap _ _ (show _ = some _ by rw [List.getElem?_set_ne (show p.kn ≠ p.ms by omega)]; exact hms)
  rw [w_ixL (getL_of hms2) (lf_at hi)]
  rw [w_eNot]
  simp only [w_seq, w_asg, w_ret, w_retN, w_drop, w_brk, w_cnt, w_nil, w_sif, w_c, w_ev, w_bin, w_un, w_anil, w_acons, w_tup, w_lst, w_call, w_tB, w_tNot, w_tAnd, w_tOr, w_eIf, w_isN, w_notN, w_gnm, w_gnils, w_gcns, w_gtp2, w_gtp3, w_gtp2p, w_ixT0, w_ixT1, w_ixT2, w_ch, w_chL, w_chK, w_par2, w_par3, w_add, w_sub, w_neg, w_lt, w_le, w_gt, w_ge, w_abs, w_int, w_intb, w_max2, w_min2, w_pno, w_ppart, w_sl, w_bm, w_yes, w_eqI, w_neI, w_eqB, w_neB, QS_nx, QS_rt, QS_bk, QS_ct, QF_nx, QF_rt, QL_nx, QL_ct, QL_bk, QL_rt, wipeE, List.set_cons_succ, List.set_cons_zero, List.getElem?_cons_succ, List.getElem?_cons_zero, D.bl.injEq, D.int.injEq, exists_eq_left', exists_eq_left, w_eAnd, w_tTru, tru_bl, if_true, if_false, Bool.false_eq_true, tru_bl]
  rw [w_setL (by show eVar 14 _ _ = _; rfl) (by show eVar 6 _ _ = _; rfl) hms2 (lf_ixN hi)]
  refine hN _ _ _ _ ?_
  have eM : upM s r l i mis i + (if (!decide (l ∈ (row s r l).take (i + 1))) = true then 1 else 0) = upM s r l (i + 1) mis i := by
    unfold upM
    rw [if_neg (Nat.lt_irrefl _), if_pos (Nat.lt_succ_self _)]
    unfold cost
    by_cases hm : l ∈ (row s r l).take (i + 1)
    · simp [hm]
    · simp [hm]
  rw [eM]
  have e5 : ∀ (X : Sto) (y z : O) (n : Nat), n < X.length → (X ++ [y]).set n z = X.set n z ++ [y] := fun X y z n hn => by rw [List.set_append_left _ _ hn]
  rw [e5 _ _ _ _ (by rw [List.length_set]; exact lt_of_at hms)]
  exact LN.ap (Ap.app _ _)
end
end K51
/-! K51i: the comparisons of one cache; what was needed since, moved on. -/
namespace K51
open PySem L2 FL M51
section
variable {s : Nat} {b : Bool} {p : Pl} {R T R' T' : Nat → List (List Int)} {r t : List (List Int)} {mis mis' : Nat → Int} {S S' : Sto} {Q : D → Sto → Prop}
theorem okD_rw (r : List Int) : okD 18 (rwD r) = true := okD_map (fun x => rfl) r
theorem okD_pr (k : List P) : okD 18 (kD k) = true := okD_map (fun x => rfl) k
theorem okD_kn (k : List P) (m : Option (List P)) : okD 20 (knD k m) = true := by
  show ([kD k, mD m].all (okD 19)) = true
  have h1 := okD_mono (m := 19) (by omega) (okD_pr k)
  have h2 : okD 19 (mD m) = true := by
    cases m with
    | none => rfl
    | some k2 => exact okD_mono (m := 19) (by omega) (okD_pr k2)
  simp [h1, h2]
theorem Good.map {w : Nat} (g : Good s r) : Good s (r.map fun x => x.take w) := by
  refine ⟨by rw [List.length_map, g.len], fun i x h => ?_, fun i x l h hl => ?_⟩
  · rw [List.getElem?_map] at h
    obtain ⟨y, hy, rfl⟩ := Option.map_eq_some_iff.mp h
    exact (g.nd i y hy).sublist (List.take_sublist _ _)
  · rw [List.getElem?_map] at h
    obtain ⟨y, hy, rfl⟩ := Option.map_eq_some_iff.mp h
    exact g.md i y l hy (List.mem_of_mem_take hl)
theorem OR_map {w : Nat} : OR w (r.map fun x => x.take w) = OR w r := by
  unfold OR prs
  rw [List.flatMap_map]
  refine congrArg sortP (congrArg (fun f => List.flatMap f r) (funext fun x => ?_))
  show prw w (x.take w) = prw w x
  unfold prw
  rw [List.take_take, Nat.min_self]
theorem w_anyB {n : Nat} {bs : List Bool} (h : getL S n = some (bs.map D.bl)) : W (fAny [.ref n] S) Q ↔ Q (.bl (bs.any id)) S := by
  have f : fAny [.ref n] S = some (.bl (bs.any id), S) := by
    unfold fAny bools1
    simp only [h, Option.bind_some, boolsD_map, Option.map_some]
  rw [f, W_some]
theorem check1 {kind l : Int} {at' : Int} {i : Nat} {x3 x5 x6 x10 x15 x16 x17 x18 x19 x20 x21 : Option D} {N : FL.Env → Sto → Prop} {QO : Out → Sto → Prop} (hs : 0 < s) (hs4 : s ≤ 4) (gr : Good s r) (gt : Good s t) (hb : b = decide (kind < 2)) (hbt : b = true → t = r)
    (ha : ∀ j k, j < k → k < 4 → mis k ≤ mis j) (h : LI s b p (fun _ => r) (fun _ => t) r mis S) (hi : i < 4)
    (hN : ∀ S', Ap S S' → N (eL p s kind at' l x3 x5 (some (.int i)) x10 x15 x16 x17 x18 x19 x20 x21) S') :
    W ((sSeq (sIf (tOr (FL.tB (eBin oNe (eMeth "Cache" "lines" f_Cache_lines (eBin oIx (eVar 11) (eVar 6)) aNil) (eCall fTuple (aCons (eLc (iRng1 (aCons (eVar 2) (aNil))) (gNm 21) (tYs) (eCall fTuple (aCons (eSl (eBin oIx (eVar 13) (eVar 21)) pNo (pPart (eBin oAdd (eVar 6) (eC (.int 1))))) (aNil))) [21]) (aNil))))) (FL.tB (eBin oNe (eBin oIx (eVar 12) (eVar 6)) (eCall f__law_cut (aCons (eBin oIx (eVar 12) (eC (.int 3))) (aCons (eBin oAdd (eVar 6) (eC (.int 1))) (aNil))))))) (sRet (eC (.bl false))) (sNil)) (sIf (tOr (tTru (eCall fAny (aCons (eLc (iRng1 (aCons (eVar 6) (aNil))) (gNm 21) (tYs) (eBin oLt (eBin oIx (eVar 14) (eVar 21)) (eBin oIx (eVar 14) (eVar 6))) [21]) (aNil)))) (tAnd (FL.tB (eBin oLt (eVar 8) (eC (.int 2)))) (FL.tB (eBin oNe (eBin oIx (eVar 12) (eVar 6)) (eCall f_of_cache (aCons (eBin oIx (eVar 9) (eVar 6)) (aCons (eMeth "Cache" "lines" f_Cache_lines (eBin oIx (eVar 11) (eVar 6)) aNil) (aNil)))))))) (sRet (eC (.bl false))) (sNil))) (eL p s kind at' l x3 x5 (some (.int i)) x10 x15 x16 x17 x18 x19 x20 x21) S) (QL N QO) := by
  have cai := h.ca i hi
  have kok3 : Kok (OR 4 t) := kok_OR gt hs4 (Nat.le_refl _)
  have kokm : ∀ k2, MM 4 r t b = some k2 → Kok k2 := fun k2 e => by
    unfold MM at e
    split at e
    · cases e
      exact kok_OR gr hs4 (Nat.le_refl _)
    · cases e
  simp only [w_seq, w_asg, w_ret, w_retN, w_drop, w_brk, w_cnt, w_nil, w_sif, w_c, w_ev, w_bin, w_un, w_anil, w_acons, w_tup, w_lst, w_call, w_tB, w_tNot, w_tAnd, w_tOr, w_eIf, w_isN, w_notN, w_gnm, w_gnils, w_gcns, w_gtp2, w_gtp3, w_gtp2p, w_ixT0, w_ixT1, w_ixT2, w_ch, w_chL, w_chK, w_par2, w_par3, w_add, w_sub, w_neg, w_lt, w_le, w_gt, w_ge, w_abs, w_int, w_intb, w_max2, w_min2, w_pno, w_ppart, w_sl, w_bm, w_yes, w_eqI, w_neI, w_eqB, w_neB, QS_nx, QS_rt, QS_bk, QS_ct, QF_nx, QF_rt, QL_nx, QL_ct, QL_bk, QL_rt, wipeE, List.set_cons_succ, List.set_cons_zero, List.getElem?_cons_succ, List.getElem?_cons_zero, D.bl.injEq, D.int.injEq, exists_eq_left', exists_eq_left, w_eAnd, w_tTru, tru_bl, if_true, if_false, Bool.false_eq_true]
  refine w_meth ?_
  simp only [w_seq, w_asg, w_ret, w_retN, w_drop, w_brk, w_cnt, w_nil, w_sif, w_c, w_ev, w_bin, w_un, w_anil, w_acons, w_tup, w_lst, w_call, w_tB, w_tNot, w_tAnd, w_tOr, w_eIf, w_isN, w_notN, w_gnm, w_gnils, w_gcns, w_gtp2, w_gtp3, w_gtp2p, w_ixT0, w_ixT1, w_ixT2, w_ch, w_chL, w_chK, w_par2, w_par3, w_add, w_sub, w_neg, w_lt, w_le, w_gt, w_ge, w_abs, w_int, w_intb, w_max2, w_min2, w_pno, w_ppart, w_sl, w_bm, w_yes, w_eqI, w_neI, w_eqB, w_neB, QS_nx, QS_rt, QS_bk, QS_ct, QF_nx, QF_rt, QL_nx, QL_ct, QL_bk, QL_rt, wipeE, List.set_cons_succ, List.set_cons_zero, List.getElem?_cons_succ, List.getElem?_cons_zero, D.bl.injEq, D.int.injEq, exists_eq_left', exists_eq_left, w_eAnd, w_tTru, tru_bl, if_true, if_false, Bool.false_eq_true]
  rw [w_ixL (getL_of h.cas) (lf_at hi)]
  refine ⟨p.n i, _, rfl, cai.1, has_no.2.2, ?_⟩
  obtain ⟨d1, S1, e1, rfl, rfl⟩ := lines_ok cai
  refine ⟨_, _, e1, ?_⟩
  refine w_lcr (n := s) (lo := 0) (fun j => rwD ((r.getD j []).take (i + 1))) ?_ (fun j hj S2 a2 => ?_) (by unfold cap; omega) fun n2 S2 a2 _ g2 => ?_
  · refine w_rng1 ?_
    simp only [w_seq, w_asg, w_ret, w_retN, w_drop, w_brk, w_cnt, w_nil, w_sif, w_c, w_ev, w_bin, w_un, w_anil, w_acons, w_tup, w_lst, w_call, w_tB, w_tNot, w_tAnd, w_tOr, w_eIf, w_isN, w_notN, w_gnm, w_gnils, w_gcns, w_gtp2, w_gtp3, w_gtp2p, w_ixT0, w_ixT1, w_ixT2, w_ch, w_chL, w_chK, w_par2, w_par3, w_add, w_sub, w_neg, w_lt, w_le, w_gt, w_ge, w_abs, w_int, w_intb, w_max2, w_min2, w_pno, w_ppart, w_sl, w_bm, w_yes, w_eqI, w_neI, w_eqB, w_neB, QS_nx, QS_rt, QS_bk, QS_ct, QF_nx, QF_rt, QL_nx, QL_ct, QL_bk, QL_rt, wipeE, List.set_cons_succ, List.set_cons_zero, List.getElem?_cons_succ, List.getElem?_cons_zero, D.bl.injEq, D.int.injEq, exists_eq_left', exists_eq_left, w_eAnd, w_tTru, tru_bl, if_true, if_false, Bool.false_eq_true]
    exact ⟨_, rfl, by omega, by omega, by simp [Int.toNat], by trivial⟩
  · simp only [w_seq, w_asg, w_ret, w_retN, w_drop, w_brk, w_cnt, w_nil, w_sif, w_c, w_ev, w_bin, w_un, w_anil, w_acons, w_tup, w_lst, w_call, w_tB, w_tNot, w_tAnd, w_tOr, w_eIf, w_isN, w_notN, w_gnm, w_gnils, w_gcns, w_gtp2, w_gtp3, w_gtp2p, w_ixT0, w_ixT1, w_ixT2, w_ch, w_chL, w_chK, w_par2, w_par3, w_add, w_sub, w_neg, w_lt, w_le, w_gt, w_ge, w_abs, w_int, w_intb, w_max2, w_min2, w_pno, w_ppart, w_sl, w_bm, w_yes, w_eqI, w_neI, w_eqB, w_neB, QS_nx, QS_rt, QS_bk, QS_ct, QF_nx, QF_rt, QL_nx, QL_ct, QL_bk, QL_rt, wipeE, List.set_cons_succ, List.set_cons_zero, List.getElem?_cons_succ, List.getElem?_cons_zero, D.bl.injEq, D.int.injEq, exists_eq_left', exists_eq_left, w_eAnd, w_tTru, tru_bl, if_true, if_false, Bool.false_eq_true, Int.zero_add]
    rw [w_ixL (getL_of (a2 _ _ h.si)) (lf_at hj)]
    refine ⟨trivial, Ap.refl _, ?_⟩
    rw [w_slL (getL_of (a2 _ _ (h.sq j hj))), W_some, w_tupR (getL_of (new_at _ _))]
    refine ⟨?_, Ap.app _ _⟩
    rw [show ((i : Int) + 1) = ((i + 1 : Nat) : Int) by omega, cut_none, ← List.map_take]
  · rw [w_tupR (getL_of g2)]
    have e2 : (List.range s).map (fun j => rwD ((r.getD j []).take (i + 1))) = (r.map fun x => x.take (i + 1)).map rwD := by
      rw [List.map_map, ← gr.len]
      refine range_map r (fun x => rwD (x.take (i + 1))) _ fun j x hx => ?_
      rw [List.getD_eq_getElem?_getD, hx]
      rfl
    rw [e2, w_neR (okD_mono (m := 20) (n := 19) (by omega) (okD_map okD_rw _))]
    refine ⟨_, rfl, ?_⟩
    rw [if_neg Bool.false_ne_true]
    have h2 := h.ap a2
    rw [w_ixL (getL_of h2.kn) (lf_at hi), w_ixL (i := 3) (getL_of h2.kn) (lf_at (k := 3) (by omega))]
    unfold KN
    rw [show ((i : Int) + 1) = ((i + 1 : Nat) : Int) by omega]
    obtain ⟨d3, S3, e3, rfl, a3⟩ := cut_ok (S := S2) (w := i + 1) kok3 kokm
    refine ⟨_, _, e3, ?_⟩
    simp only []
    have eM : (MM (3 + 1) r t b).map (fun k2 => k2.filter fun p => decide (p.2 < ((i + 1 : Nat) : Int))) = MM (i + 1) r t b := by
      unfold MM
      split
      · rw [Option.map_some, cut_OR gr hs (by omega)]
      · rfl
    rw [cut_OR gt hs (by omega), eM, w_neR (okD_kn _ _)]
    refine ⟨_, rfl, ?_⟩
    rw [if_neg Bool.false_ne_true]
    have h3 := h2.ap a3
    refine w_lcr (n := i) (lo := 0) (fun j => .bl false) ?_ (fun j hj S4 a4 => ?_) (by unfold cap; omega) fun n4 S4 a4 _ g4 => ?_
    · refine w_rng1 ?_
      simp only [w_seq, w_asg, w_ret, w_retN, w_drop, w_brk, w_cnt, w_nil, w_sif, w_c, w_ev, w_bin, w_un, w_anil, w_acons, w_tup, w_lst, w_call, w_tB, w_tNot, w_tAnd, w_tOr, w_eIf, w_isN, w_notN, w_gnm, w_gnils, w_gcns, w_gtp2, w_gtp3, w_gtp2p, w_ixT0, w_ixT1, w_ixT2, w_ch, w_chL, w_chK, w_par2, w_par3, w_add, w_sub, w_neg, w_lt, w_le, w_gt, w_ge, w_abs, w_int, w_intb, w_max2, w_min2, w_pno, w_ppart, w_sl, w_bm, w_yes, w_eqI, w_neI, w_eqB, w_neB, QS_nx, QS_rt, QS_bk, QS_ct, QF_nx, QF_rt, QL_nx, QL_ct, QL_bk, QL_rt, wipeE, List.set_cons_succ, List.set_cons_zero, List.getElem?_cons_succ, List.getElem?_cons_zero, D.bl.injEq, D.int.injEq, exists_eq_left', exists_eq_left, w_eAnd, w_tTru, tru_bl, if_true, if_false, Bool.false_eq_true]
      exact ⟨_, rfl, by omega, by omega, by simp [Int.toNat], by trivial⟩
    · simp only [w_seq, w_asg, w_ret, w_retN, w_drop, w_brk, w_cnt, w_nil, w_sif, w_c, w_ev, w_bin, w_un, w_anil, w_acons, w_tup, w_lst, w_call, w_tB, w_tNot, w_tAnd, w_tOr, w_eIf, w_isN, w_notN, w_gnm, w_gnils, w_gcns, w_gtp2, w_gtp3, w_gtp2p, w_ixT0, w_ixT1, w_ixT2, w_ch, w_chL, w_chK, w_par2, w_par3, w_add, w_sub, w_neg, w_lt, w_le, w_gt, w_ge, w_abs, w_int, w_intb, w_max2, w_min2, w_pno, w_ppart, w_sl, w_bm, w_yes, w_eqI, w_neI, w_eqB, w_neB, QS_nx, QS_rt, QS_bk, QS_ct, QF_nx, QF_rt, QL_nx, QL_ct, QL_bk, QL_rt, wipeE, List.set_cons_succ, List.set_cons_zero, List.getElem?_cons_succ, List.getElem?_cons_zero, D.bl.injEq, D.int.injEq, exists_eq_left', exists_eq_left, w_eAnd, w_tTru, tru_bl, if_true, if_false, Bool.false_eq_true, Int.zero_add]
      rw [w_ixL (getL_of (a4 _ _ h3.ms)) (lf_at (by omega)), w_ixL (getL_of (a4 _ _ h3.ms)) (lf_at hi)]
      simp only [w_seq, w_asg, w_ret, w_retN, w_drop, w_brk, w_cnt, w_nil, w_sif, w_c, w_ev, w_bin, w_un, w_anil, w_acons, w_tup, w_lst, w_call, w_tB, w_tNot, w_tAnd, w_tOr, w_eIf, w_isN, w_notN, w_gnm, w_gnils, w_gcns, w_gtp2, w_gtp3, w_gtp2p, w_ixT0, w_ixT1, w_ixT2, w_ch, w_chL, w_chK, w_par2, w_par3, w_add, w_sub, w_neg, w_lt, w_le, w_gt, w_ge, w_abs, w_int, w_intb, w_max2, w_min2, w_pno, w_ppart, w_sl, w_bm, w_yes, w_eqI, w_neI, w_eqB, w_neB, QS_nx, QS_rt, QS_bk, QS_ct, QF_nx, QF_rt, QL_nx, QL_ct, QL_bk, QL_rt, wipeE, List.set_cons_succ, List.set_cons_zero, List.getElem?_cons_succ, List.getElem?_cons_zero, D.bl.injEq, D.int.injEq, exists_eq_left', exists_eq_left, w_eAnd, w_tTru, tru_bl, if_true, if_false, Bool.false_eq_true]
      have := ha j i hj hi
      exact ⟨trivial, Ap.refl _, by rw [decide_eq_false (by omega)], Ap.refl _⟩
    · have e4 : (List.range i).map (fun _ => D.bl false) = (List.replicate i false).map D.bl := by
        rw [List.map_const', List.map_replicate, List.length_range]
      rw [e4] at g4
      rw [w_anyB (getL_of g4)]
      have e5 : (List.replicate i false).any id = false := by
        rw [List.any_eq_false]
        intro x hx
        rw [List.eq_of_mem_replicate hx]
        exact Bool.false_ne_true
      rw [e5]
      simp only [tru_bl]
      rw [if_neg Bool.false_ne_true]
      have h4 := h3.ap a4
      by_cases hk : kind < 2
      · rw [decide_eq_true hk, if_pos rfl]
        have bt : b = true := by rw [hb]; exact decide_eq_true hk
        have er := hbt bt
        rw [w_ixL (getL_of h4.kn) (lf_at hi), w_ixL (getL_of h4.told) (lf_at hi)]
        refine w_meth ?_
        simp only [w_seq, w_asg, w_ret, w_retN, w_drop, w_brk, w_cnt, w_nil, w_sif, w_c, w_ev, w_bin, w_un, w_anil, w_acons, w_tup, w_lst, w_call, w_tB, w_tNot, w_tAnd, w_tOr, w_eIf, w_isN, w_notN, w_gnm, w_gnils, w_gcns, w_gtp2, w_gtp3, w_gtp2p, w_ixT0, w_ixT1, w_ixT2, w_ch, w_chL, w_chK, w_par2, w_par3, w_add, w_sub, w_neg, w_lt, w_le, w_gt, w_ge, w_abs, w_int, w_intb, w_max2, w_min2, w_pno, w_ppart, w_sl, w_bm, w_yes, w_eqI, w_neI, w_eqB, w_neB, QS_nx, QS_rt, QS_bk, QS_ct, QF_nx, QF_rt, QL_nx, QL_ct, QL_bk, QL_rt, wipeE, List.set_cons_succ, List.set_cons_zero, List.getElem?_cons_succ, List.getElem?_cons_zero, D.bl.injEq, D.int.injEq, exists_eq_left', exists_eq_left, w_eAnd, w_tTru, tru_bl, if_true, if_false, Bool.false_eq_true]
        rw [w_ixL (getL_of h4.cas) (lf_at hi)]
        have ca4 := h4.ca i hi
        refine ⟨p.n i, _, rfl, ca4.1, has_no.2.2, ?_⟩
        obtain ⟨d5, S5, e5, rfl, rfl⟩ := lines_ok ca4
        refine ⟨_, _, e5, ?_⟩
        obtain ⟨d6, S6, e6, rfl, a6⟩ := of_cache_ok (S := S5) (w := i + 1) (Good.map (w := i + 1) gr) (fun x hx => by
          obtain ⟨y, _, rfl⟩ := List.mem_map.mp hx
          rw [List.length_take]
          omega) hs4 (by omega)
        refine ⟨_, _, e6, ?_⟩
        simp only []
        unfold KN MM
        rw [OR_map, if_pos bt, er, w_neR (okD_kn _ _)]
        refine ⟨_, rfl, ?_⟩
        rw [if_neg Bool.false_ne_true]
        exact hN _ (((a2.trans a3).trans a4).trans a6)
      · rw [decide_eq_false hk, if_neg Bool.false_ne_true]
        exact hN _ ((a2.trans a3).trans a4)
def mvP (p : Pl) (a c : Nat) : Pl := { p with q := fun i => if i = a then c else p.q i }
theorem touch_getD {l : Int} (gr : Good s r) (hs : 0 < s) (i : Nat) : (touch s l r).getD i [] = if i = ix s l then front l (row s r l) else r.getD i [] := by
  unfold touch
  rw [List.getD_eq_getElem?_getD]
  by_cases e : i = ix s l
  · subst e
    rw [if_pos rfl, List.getElem?_set_self (by rw [gr.len]; exact ix_lt hs l)]
    rfl
  · rw [if_neg e, List.getElem?_set_ne (Ne.symm e), List.getD_eq_getElem?_getD]
/-- what was needed since is moved on -/
theorem since1 {kind l : Int} {x3 x5 x6 x10 x15 x16 x17 x18 x19 x20 x21 : Option D} {QO : Out → Sto → Prop} (hs : 0 < s) (gr : Good s r) (o : PO s p) (hz : (row s r l).length ≤ 1000)
    (h : LI s b p R T r mis S)
    (hN : ∀ p' S', PO s p' → LI s b p' R T (touch s l r) mis S' → p' = mvP p (ix s l) (p'.q (ix s l)) → QO (.nx (eL p' s kind ((ix s l : Nat) : Int) l x3 x5 x6 x10 x15 x16 x17 x18 x19 x20 x21)) S') :
    W ((sAsg (eBin oAdd (eLst (aCons (eVar 7) (aNil))) (eLc (iSeq (eBin oIx (eVar 13) (eVar 4))) (gNm 20) (FL.tB (eBin oNe (eVar 20) (eVar 7))) (eVar 20) [20])) (gIx (eVar 13) (eVar 4))) (eL p s kind ((ix s l : Nat) : Int) l x3 x5 x6 x10 x15 x16 x17 x18 x19 x20 x21) S) QO := by
  have hix := ix_lt hs l
  obtain ⟨o1, o2, o3, o4, o5, o6⟩ := o.h1
  simp only [w_seq, w_asg, w_ret, w_retN, w_drop, w_brk, w_cnt, w_nil, w_sif, w_c, w_ev, w_bin, w_un, w_anil, w_acons, w_tup, w_lst, w_call, w_tB, w_tNot, w_tAnd, w_tOr, w_eIf, w_isN, w_notN, w_gnm, w_gnils, w_gcns, w_gtp2, w_gtp3, w_gtp2p, w_ixT0, w_ixT1, w_ixT2, w_ch, w_chL, w_chK, w_par2, w_par3, w_add, w_sub, w_neg, w_lt, w_le, w_gt, w_ge, w_abs, w_int, w_intb, w_max2, w_min2, w_pno, w_ppart, w_sl, w_bm, w_yes, w_eqI, w_neI, w_eqB, w_neB, QS_nx, QS_rt, QS_bk, QS_ct, QF_nx, QF_rt, QL_nx, QL_ct, QL_bk, QL_rt, wipeE, List.set_cons_succ, List.set_cons_zero, List.getElem?_cons_succ, List.getElem?_cons_zero, D.bl.injEq, D.int.injEq, exists_eq_left', exists_eq_left, w_eAnd, w_tTru, tru_bl, if_true, if_false, Bool.false_eq_true, W_some]
  refine ⟨(by show 1 ≤ 10000000; decide), ?_⟩
  have ap1 : Ap S (S ++ [O.lst [D.int l]]) := Ap.app _ _
  refine w_lci (ns := row s r l) id (fun x => decide (x ≠ l)) ?_ (fun x _ S2 a2 => ?_) (by unfold cap; omega) fun n S2 a2 hl g => ?_
  · refine w_iseqL ?_
    simp only [w_seq, w_asg, w_ret, w_retN, w_drop, w_brk, w_cnt, w_nil, w_sif, w_c, w_ev, w_bin, w_un, w_anil, w_acons, w_tup, w_lst, w_call, w_tB, w_tNot, w_tAnd, w_tOr, w_eIf, w_isN, w_notN, w_gnm, w_gnils, w_gcns, w_gtp2, w_gtp3, w_gtp2p, w_ixT0, w_ixT1, w_ixT2, w_ch, w_chL, w_chK, w_par2, w_par3, w_add, w_sub, w_neg, w_lt, w_le, w_gt, w_ge, w_abs, w_int, w_intb, w_max2, w_min2, w_pno, w_ppart, w_sl, w_bm, w_yes, w_eqI, w_neI, w_eqB, w_neB, QS_nx, QS_rt, QS_bk, QS_ct, QF_nx, QF_rt, QL_nx, QL_ct, QL_bk, QL_rt, wipeE, List.set_cons_succ, List.set_cons_zero, List.getElem?_cons_succ, List.getElem?_cons_zero, D.bl.injEq, D.int.injEq, exists_eq_left', exists_eq_left, w_eAnd, w_tTru, tru_bl, if_true, if_false, Bool.false_eq_true]
    rw [w_ixL (getL_of (ap1 _ _ h.si)) (lf_at hix)]
    have gq := getL_of (ap1 _ _ (h.sq _ hix))
    exact ⟨_, _, rfl, gq, Ap.refl _, by unfold ItD.lst row; simp, hit_lst gq _⟩
  · simp only [w_seq, w_asg, w_ret, w_retN, w_drop, w_brk, w_cnt, w_nil, w_sif, w_c, w_ev, w_bin, w_un, w_anil, w_acons, w_tup, w_lst, w_call, w_tB, w_tNot, w_tAnd, w_tOr, w_eIf, w_isN, w_notN, w_gnm, w_gnils, w_gcns, w_gtp2, w_gtp3, w_gtp2p, w_ixT0, w_ixT1, w_ixT2, w_ch, w_chL, w_chK, w_par2, w_par3, w_add, w_sub, w_neg, w_lt, w_le, w_gt, w_ge, w_abs, w_int, w_intb, w_max2, w_min2, w_pno, w_ppart, w_sl, w_bm, w_yes, w_eqI, w_neI, w_eqB, w_neB, QS_nx, QS_rt, QS_bk, QS_ct, QF_nx, QF_rt, QL_nx, QL_ct, QL_bk, QL_rt, wipeE, List.set_cons_succ, List.set_cons_zero, List.getElem?_cons_succ, List.getElem?_cons_zero, D.bl.injEq, D.int.injEq, exists_eq_left', exists_eq_left, w_eAnd, w_tTru, tru_bl, if_true, if_false, Bool.false_eq_true]
    refine ⟨by simp, Ap.refl _, fun _ => ⟨rfl, Ap.refl _⟩⟩
  · have fl : ((row s r l).filter fun x => decide (x ≠ l)).length ≤ 1000 := Nat.le_trans (List.length_filter_le _ _) hz
    rw [List.map_id] at g
    rw [w_cat (a2 _ _ (new_at _ _)) g (by rw [List.length_map]; simp only [List.length_cons, List.length_nil]; unfold cap; omega), W_some]
    have a3 : Ap S (S2 ++ [O.lst ([D.int l] ++ ((row s r l).filter fun x => decide (x ≠ l)).map D.int)]) := (ap1.trans a2).trans (Ap.app _ _)
    rw [w_setL (by show eVar 13 _ _ = _; rfl) (by show eVar 4 _ _ = _; rfl) (a3 _ _ h.si) (lf_ixN hix)]
    have h3 := h.ap a3
    have ls := (ap1.trans a2).len
    have lms := lt_of_at h.ms
    have new : S2.length ≠ p.ms ∧ p.si < S2.length := ⟨by omega, by omega⟩
    have keep : ∀ q, q ≠ p.si → ∀ ob, S[q]? = some ob → ((S2 ++ [O.lst ([D.int l] ++ ((row s r l).filter fun x => decide (x ≠ l)).map D.int)]).set p.si (.lst ((lf s fun i => .ref (p.q i)).set (ix s l) (.ref S2.length))))[q]? = some ob := fun q hq ob e => by
      rw [List.getElem?_set_ne (Ne.symm hq)]
      exact a3 _ _ e
    refine hN (mvP p (ix s l) S2.length) _ ⟨o.h1, o.h4, o.h5, fun i hi => ?_⟩ ⟨?_, keep _ (by show p.a0 ≠ p.si; omega) _ h.told, keep _ (by show p.ca ≠ p.si; omega) _ h.cas, fun k hk => ?_, keep _ (by show p.kn ≠ p.si; omega) _ h.kn, ?_, fun i hi => ?_, keep _ (by show p.ms ≠ p.si; omega) _ h.ms⟩ ?_
    · unfold mvP
      simp only
      split
      · exact ⟨new.2, new.1⟩
      · exact o.h8 i hi
    · exact (h3.tape).set (by show p.si ≠ p.tp; omega) (by show p.si ≠ p.tm; omega)
    · have ok := o.h4 k hk
      have q := h.ca k hk
      exact ⟨keep _ (by show p.n k ≠ p.si; omega) _ q.1, keep _ (by show p.m k ≠ p.si; omega) _ q.2.1, q.2.2⟩
    · show ((S2 ++ [O.lst ([D.int l] ++ ((row s r l).filter fun x => decide (x ≠ l)).map D.int)]).set p.si _)[p.si]? = _
      rw [set_at (a3 _ _ h.si), lf_set hix]
      refine congrArg (fun z => some (O.lst z)) (lf_congr fun j hj => ?_)
      unfold mvP
      by_cases e : j = ix s l
      · simp only [if_pos e]
      · simp only [if_neg e]
    · rw [touch_getD gr hs]
      by_cases e : i = ix s l
      · have eq : (mvP p (ix s l) S2.length).q i = S2.length := if_pos e
        rw [if_pos e, eq, List.getElem?_set_ne (by omega), new_at]
        rfl
      · have eq : (mvP p (ix s l) S2.length).q i = p.q i := if_neg e
        rw [if_neg e, eq]
        exact keep _ (by have := o.h8 i hi; omega) _ (h.sq i hi)
    · unfold mvP
      simp
end
end K51
/-! K51j: one turn. -/
namespace K51
open PySem L2 FL M51
section
variable {s : Nat} {b : Bool} {p : Pl} {R T R' T' : Nat → List (List Int)} {r t : List (List Int)} {mis mis' : Nat → Int} {S S' : Sto} {Q : D → Sto → Prop}
theorem W_take {S : Sto} {tp tm : Nat} {k : Int} {Q : D → Sto → Prop} (hT : Tape S tp tm) (hk : 0 < k) (hk2 : k < 18446744073709551616) (h : ∀ (r : Int) (S' : Sto), 0 ≤ r → r < k → Kn tp S S' → Tape S' tp tm → S'.length = S.length → Q (.int r) S') : W (f__law_take [.ref tp, .int k] S) Q := by
  refine (take_ok hT hk hk2).mono ?_
  rintro d S' ⟨r, rfl, h1, h2, h3, h4, h5⟩
  exact h r S' h1 h2 h3 h4 h5
theorem LI.take {S' : Sto} (h : LI s b p R T r mis S) (o : PO s p) (k : Kn p.tp S S') (t : Tape S' p.tp p.tm) : LI s b p R T r mis S' := by
  obtain ⟨o1, o2, o3, o4, o5, o6⟩ := o.h1
  refine ⟨t, k _ _ (by omega) h.told, k _ _ (by omega) h.cas, fun j hj => ?_, k _ _ (by omega) h.kn, k _ _ (by omega) h.si, fun i hi => k _ _ (by have := o.h8 i hi; omega) (h.sq i hi), k _ _ (by omega) h.ms⟩
  have oj := o.h4 j hj
  have q := h.ca j hj
  exact ⟨k _ _ (by omega) q.1, k _ _ (by omega) q.2.1, q.2.2⟩
/-- what holds between turns -/
def TI (s : Nat) (kind : Int) (p : Pl) (i : Nat) (S : Sto) : Prop := ∃ r t mis, Good s r ∧ Good s t ∧ (decide (kind < 2) = true → t = r) ∧ (∀ l, row s t l <+: row s r l) ∧ (∀ l, (row s r l).length ≤ 4 + i) ∧ (∀ j k, j < k → k < 4 → mis k ≤ mis j) ∧ LI s (decide (kind < 2)) p (fun _ => r) (fun _ => t) r mis S
theorem cost_mono {l : Int} {j k : Nat} (h : j < k) : cost s r l k ≤ cost s r l j := by
  unfold cost
  by_cases h1 : l ∈ (row s r l).take (j + 1)
  · have h2 : l ∈ (row s r l).take (k + 1) := by
      have : (row s r l).take (j + 1) = ((row s r l).take (k + 1)).take (j + 1) := by rw [List.take_take, Nat.min_eq_left (by omega)]
      rw [this] at h1
      exact List.mem_of_mem_take h1
    rw [if_pos h1, if_pos h2]
    exact Int.le_refl _
  · rw [if_neg h1]
    split <;> omega
theorem touch_pre {l : Int} (gr : Good s r) (gt : Good s t) (hs : 0 < s) (pre : ∀ l, row s t l <+: row s r l) : ∀ x, row s (touch s l t) x <+: row s (touch s l r) x := by
  intro x
  rw [touch_row gr hs, touch_row gt hs]
  split
  · exact front_pre (pre l)
  · exact pre x
theorem touch_len {l : Int} {m : Nat} (gr : Good s r) (hs : 0 < s) (h : ∀ l, (row s r l).length ≤ m) : ∀ x, (row s (touch s l r) x).length ≤ m + 1 := by
  intro x
  rw [touch_row gr hs]
  split
  · unfold front
    rw [List.length_cons]
    have := Nat.le_trans (List.length_filter_le (fun x => decide (x ≠ l)) (row s r l)) (h l)
    omega
  · have := h x
    omega
abbrev eT (p : Pl) (s : Nat) (kind : Int) (x3 x4 x5 x6 x7 x10 x15 x16 x17 x18 x19 x20 x21 : Option D) : FL.Env :=
  [some (.ref 0), some (.ref p.tp), some (.int s), x3, x4, x5, x6, x7, some (.int kind), some (.ref p.a0), x10, some (.ref p.ca), some (.ref p.kn), some (.ref p.si), some (.ref p.ms), x15, x16, x17, x18, x19, x20, x21]
theorem turns {kind : Int} {x3 x4 x5 x6 x7 x10 x15 x16 x17 x18 x19 x20 x21 : Option D} {QO : Out → Sto → Prop} (hs : 0 < s) (hs4 : s ≤ 4) (o : PO s p) (h : TI s kind p 0 S) (hN : ∀ env S', QO (.nx env) S') :
    W ((sFor (iRng1 (aCons (eC (.int 40)) (aNil))) (gNm 15) (sSeq (sAsg (eCall f__law_take (aCons (eVar 1) (aCons (eBin oMul (eC (.int 6)) (eVar 2)) (aNil)))) (gNm 7)) (sSeq (sAsg (eBin oMod (eCall fInt (aCons (eVar 7) (aNil))) (eVar 2)) (gNm 4)) (sSeq (sFor (iRng1 (aCons (eC (.int 4)) (aNil))) (gNm 6) (sSeq (sAsg (eCall f__law_need (aCons (eBin oIx (eVar 9) (eVar 6)) (aCons (eBin oIx (eVar 11) (eVar 6)) (aCons (eBin oIx (eVar 12) (eVar 6)) (aCons (eVar 7) (aNil)))))) (gTp 3 (gCns (gNm 16) (gCns (gNm 17) (gCns (gIx (eVar 12) (eVar 6)) (gNils)))))) (sSeq (sAsg (eBin oIn (eVar 7) (eSl (eBin oIx (eVar 13) (eVar 4)) pNo (pPart (eBin oAdd (eVar 6) (eC (.int 1)))))) (gNm 18)) (sSeq (sIf (tOr (FL.tB (eBin oNe (eVar 16) (eVar 18))) (FL.tB (eBin oNotIn (eVar 16) (eVar 17)))) (sRet (eC (.bl false))) (sNil)) (sAsg (eBin oAdd (eBin oIx (eVar 14) (eVar 6)) (eCall fInt (aCons (eNot (eVar 16)) (aNil)))) (gIx (eVar 14) (eVar 6))))))) (sSeq (sAsg (eBin oAdd (eLst (aCons (eVar 7) (aNil))) (eLc (iSeq (eBin oIx (eVar 13) (eVar 4))) (gNm 20) (FL.tB (eBin oNe (eVar 20) (eVar 7))) (eVar 20) [20])) (gIx (eVar 13) (eVar 4))) (sFor (iRng1 (aCons (eC (.int 4)) (aNil))) (gNm 6) (sSeq (sIf (tOr (FL.tB (eBin oNe (eMeth "Cache" "lines" f_Cache_lines (eBin oIx (eVar 11) (eVar 6)) aNil) (eCall fTuple (aCons (eLc (iRng1 (aCons (eVar 2) (aNil))) (gNm 21) (tYs) (eCall fTuple (aCons (eSl (eBin oIx (eVar 13) (eVar 21)) pNo (pPart (eBin oAdd (eVar 6) (eC (.int 1))))) (aNil))) [21]) (aNil))))) (FL.tB (eBin oNe (eBin oIx (eVar 12) (eVar 6)) (eCall f__law_cut (aCons (eBin oIx (eVar 12) (eC (.int 3))) (aCons (eBin oAdd (eVar 6) (eC (.int 1))) (aNil))))))) (sRet (eC (.bl false))) (sNil)) (sIf (tOr (tTru (eCall fAny (aCons (eLc (iRng1 (aCons (eVar 6) (aNil))) (gNm 21) (tYs) (eBin oLt (eBin oIx (eVar 14) (eVar 21)) (eBin oIx (eVar 14) (eVar 6))) [21]) (aNil)))) (tAnd (FL.tB (eBin oLt (eVar 8) (eC (.int 2)))) (FL.tB (eBin oNe (eBin oIx (eVar 12) (eVar 6)) (eCall f_of_cache (aCons (eBin oIx (eVar 9) (eVar 6)) (aCons (eMeth "Cache" "lines" f_Cache_lines (eBin oIx (eVar 11) (eVar 6)) aNil) (aNil)))))))) (sRet (eC (.bl false))) (sNil))))))))) (eT p s kind x3 x4 x5 x6 x7 x10 x15 x16 x17 x18 x19 x20 x21) S) QO := by
  rw [w_for]
  refine w_rng1 ?_
  simp only [w_seq, w_asg, w_ret, w_retN, w_drop, w_brk, w_cnt, w_nil, w_sif, w_c, w_ev, w_bin, w_un, w_anil, w_acons, w_tup, w_lst, w_call, w_tB, w_tNot, w_tAnd, w_tOr, w_eIf, w_isN, w_notN, w_gnm, w_gnils, w_gcns, w_gtp2, w_gtp3, w_gtp2p, w_ixT0, w_ixT1, w_ixT2, w_ch, w_chL, w_chK, w_par2, w_par3, w_add, w_sub, w_neg, w_lt, w_le, w_gt, w_ge, w_abs, w_int, w_intb, w_max2, w_min2, w_pno, w_ppart, w_sl, w_bm, w_yes, w_eqI, w_neI, w_eqB, w_neB, QS_nx, QS_rt, QS_bk, QS_ct, QF_nx, QF_rt, QL_nx, QL_ct, QL_bk, QL_rt, wipeE, List.set_cons_succ, List.set_cons_zero, List.getElem?_cons_succ, List.getElem?_cons_zero, D.bl.injEq, D.int.injEq, exists_eq_left', exists_eq_left, w_eAnd, w_tTru, tru_bl, if_true, if_false, Bool.false_eq_true]
  refine ⟨40, rfl, by decide, by decide, ?_⟩
  rw [show Int.toNat 40 = 40 from rfl]
  refine for_rng (lo := 0) (n := 40) (fun i env S => ∃ p x4 x5 x6 x7 x15 x16 x17 x18 x19 x20 x21, env = eT p s kind x3 x4 x5 x6 x7 x10 x15 x16 x17 x18 x19 x20 x21 ∧ PO s p ∧ TI s kind p i S) ?_ (fun env S' _ => hN env S') ⟨p, _, _, _, _, _, _, _, _, _, _, _, rfl, o, h⟩
  rintro i env S hi ⟨p, x4, x5, x6, x7, x15, x16, x17, x18, x19, x20, x21, rfl, o, r, t, mis, gr, gt, hbt, pre, len, ha, h⟩
  simp only [w_seq, w_asg, w_ret, w_retN, w_drop, w_brk, w_cnt, w_nil, w_sif, w_c, w_ev, w_bin, w_un, w_anil, w_acons, w_tup, w_lst, w_call, w_tB, w_tNot, w_tAnd, w_tOr, w_eIf, w_isN, w_notN, w_gnm, w_gnils, w_gcns, w_gtp2, w_gtp3, w_gtp2p, w_ixT0, w_ixT1, w_ixT2, w_ch, w_chL, w_chK, w_par2, w_par3, w_add, w_sub, w_neg, w_lt, w_le, w_gt, w_ge, w_abs, w_int, w_intb, w_max2, w_min2, w_pno, w_ppart, w_sl, w_bm, w_yes, w_eqI, w_neI, w_eqB, w_neB, QS_nx, QS_rt, QS_bk, QS_ct, QF_nx, QF_rt, QL_nx, QL_ct, QL_bk, QL_rt, wipeE, List.set_cons_succ, List.set_cons_zero, List.getElem?_cons_succ, List.getElem?_cons_zero, D.bl.injEq, D.int.injEq, exists_eq_left', exists_eq_left, w_eAnd, w_tTru, tru_bl, if_true, if_false, Bool.false_eq_true]
  rw [w_mul (okMul_l (by decide) (by decide))]
  refine W_take h.tape (by omega) (by omega) fun l S1 l0 l1 k1 T1 _ => ?_
  have h1 := h.take o k1 T1
  simp only [w_seq, w_asg, w_ret, w_retN, w_drop, w_brk, w_cnt, w_nil, w_sif, w_c, w_ev, w_bin, w_un, w_anil, w_acons, w_tup, w_lst, w_call, w_tB, w_tNot, w_tAnd, w_tOr, w_eIf, w_isN, w_notN, w_gnm, w_gnils, w_gcns, w_gtp2, w_gtp3, w_gtp2p, w_ixT0, w_ixT1, w_ixT2, w_ch, w_chL, w_chK, w_par2, w_par3, w_add, w_sub, w_neg, w_lt, w_le, w_gt, w_ge, w_abs, w_int, w_intb, w_max2, w_min2, w_pno, w_ppart, w_sl, w_bm, w_yes, w_eqI, w_neI, w_eqB, w_neB, QS_nx, QS_rt, QS_bk, QS_ct, QF_nx, QF_rt, QL_nx, QL_ct, QL_bk, QL_rt, wipeE, List.set_cons_succ, List.set_cons_zero, List.getElem?_cons_succ, List.getElem?_cons_zero, D.bl.injEq, D.int.injEq, exists_eq_left', exists_eq_left, w_eAnd, w_tTru, tru_bl, if_true, if_false, Bool.false_eq_true]
  rw [w_mod (by omega)]
  rw [← ix_eq hs l]
  rw [w_for]
  refine w_rng1 ?_
  simp only [w_seq, w_asg, w_ret, w_retN, w_drop, w_brk, w_cnt, w_nil, w_sif, w_c, w_ev, w_bin, w_un, w_anil, w_acons, w_tup, w_lst, w_call, w_tB, w_tNot, w_tAnd, w_tOr, w_eIf, w_isN, w_notN, w_gnm, w_gnils, w_gcns, w_gtp2, w_gtp3, w_gtp2p, w_ixT0, w_ixT1, w_ixT2, w_ch, w_chL, w_chK, w_par2, w_par3, w_add, w_sub, w_neg, w_lt, w_le, w_gt, w_ge, w_abs, w_int, w_intb, w_max2, w_min2, w_pno, w_ppart, w_sl, w_bm, w_yes, w_eqI, w_neI, w_eqB, w_neB, QS_nx, QS_rt, QS_bk, QS_ct, QF_nx, QF_rt, QL_nx, QL_ct, QL_bk, QL_rt, wipeE, List.set_cons_succ, List.set_cons_zero, List.getElem?_cons_succ, List.getElem?_cons_zero, D.bl.injEq, D.int.injEq, exists_eq_left', exists_eq_left, w_eAnd, w_tTru, tru_bl, if_true, if_false, Bool.false_eq_true]
  refine ⟨4, rfl, by decide, by decide, ?_⟩
  rw [show Int.toNat 4 = 4 from rfl]
  refine for_rng (lo := 0) (n := 4) (fun j env S => ∃ x6 x16 x17 x18, env = eL p s kind ((ix s l : Nat) : Int) l x3 x5 x6 x10 (some (.int (0 + (i : Int)))) x16 x17 x18 x19 x20 x21 ∧ LI s (decide (kind < 2)) p (upR s l j r) (upR s l j t) r (upM s r l j mis) S) ?_ ?_ ⟨_, _, _, _, rfl, ?_⟩
  · rintro j env S hj ⟨x6, x16, x17, x18, rfl, hL⟩
    rw [w_gnm, Int.zero_add (j : Int)]
    simp only [List.set_cons_succ, List.set_cons_zero]
    exact need1 (x6 := none) hs hs4 gr gt (pre l) o hL hj fun x16 x17 x18 S' h' => ⟨_, _, _, _, rfl, h'⟩
  · rintro env S ⟨x6, x16, x17, x18, rfl, hL⟩
    have hL2 : LI s (decide (kind < 2)) p (fun _ => touch s l r) (fun _ => touch s l t) r (fun k => mis k + cost s r l k) S := hL.congr (fun k hk => ⟨if_pos hk, if_pos hk⟩) fun k hk => if_pos hk
    rw [QS_nx, w_seq]
    refine since1 hs gr o (by have := len l; omega) hL2 fun p' S' o' h' _ => ?_
    have gr' := gr.touch hs l
    have gt' := gt.touch hs l
    have ha' : ∀ j k, j < k → k < 4 → mis k + cost s r l k ≤ mis j + cost s r l j := fun j k hj hk => by
      have := ha j k hj hk
      have := cost_mono (s := s) (r := r) (l := l) hj
      omega
    rw [QS_nx, w_for]
    refine w_rng1 ?_
    simp only [w_seq, w_asg, w_ret, w_retN, w_drop, w_brk, w_cnt, w_nil, w_sif, w_c, w_ev, w_bin, w_un, w_anil, w_acons, w_tup, w_lst, w_call, w_tB, w_tNot, w_tAnd, w_tOr, w_eIf, w_isN, w_notN, w_gnm, w_gnils, w_gcns, w_gtp2, w_gtp3, w_gtp2p, w_ixT0, w_ixT1, w_ixT2, w_ch, w_chL, w_chK, w_par2, w_par3, w_add, w_sub, w_neg, w_lt, w_le, w_gt, w_ge, w_abs, w_int, w_intb, w_max2, w_min2, w_pno, w_ppart, w_sl, w_bm, w_yes, w_eqI, w_neI, w_eqB, w_neB, QS_nx, QS_rt, QS_bk, QS_ct, QF_nx, QF_rt, QL_nx, QL_ct, QL_bk, QL_rt, wipeE, List.set_cons_succ, List.set_cons_zero, List.getElem?_cons_succ, List.getElem?_cons_zero, D.bl.injEq, D.int.injEq, exists_eq_left', exists_eq_left, w_eAnd, w_tTru, tru_bl, if_true, if_false, Bool.false_eq_true]
    refine ⟨4, rfl, by decide, by decide, ?_⟩
    rw [show Int.toNat 4 = 4 from rfl]
    refine for_rng (lo := 0) (n := 4) (fun j env S => ∃ x6, env = eL p' s kind ((ix s l : Nat) : Int) l x3 x5 x6 x10 (some (.int (0 + (i : Int)))) x16 x17 x18 x19 x20 x21 ∧ LI s (decide (kind < 2)) p' (fun _ => touch s l r) (fun _ => touch s l t) (touch s l r) (fun k => mis k + cost s r l k) S) ?_ ?_ ⟨_, rfl, h'⟩
    · rintro j env S hj ⟨x6, rfl, hL⟩
      rw [w_gnm, Int.zero_add (j : Int)]
      simp only [List.set_cons_succ, List.set_cons_zero]
      exact check1 (x6 := none) hs hs4 gr' gt' rfl (fun e => by rw [hbt e]) ha' hL hj fun S' a => ⟨_, rfl, hL.ap a⟩
    · rintro env S ⟨x6, rfl, hL⟩
      rw [QL_nx]
      exact ⟨p', _, _, _, _, _, _, _, _, _, _, _, rfl, o', _, _, _, gr', gt', fun e => by rw [hbt e], touch_pre gr gt hs pre, touch_len gr hs len, ha', hL⟩
  · exact h1.congr (fun k hk => ⟨(if_neg (Nat.not_lt_zero _)).symm, (if_neg (Nat.not_lt_zero _)).symm⟩) fun k hk => (if_neg (Nat.not_lt_zero _)).symm
end
end K51
/-! K51k: the start, and the law. -/
namespace K51
open PySem L2 FL M51
section
variable {s : Nat} {S S' : Sto} {Q : D → Sto → Prop}
/-- a row that is drawn for a set -/
structure RW (s i m : Nat) (r : List Int) : Prop where
  nd : r.Nodup
  md : ∀ l ∈ r, l % (s : Int) = (i : Int)
  len : r.length ≤ m
abbrev e22 (x1 x2 x3 x4 x5 x6 x7 : Option D) : FL.Env := [some (.ref 0), x1, x2, x3, x4, x5, x6, x7, none, none, none, none, none, none, none, none, none, none, none, none, none, none]
theorem rows_ok {tp tm rw : Nat} {QO : Out → Sto → Prop} (hs : 0 < s) (hs4 : s ≤ 4) (hT : Tape S tp tm) (o1 : tp < rw) (o2 : tm < rw) (g : S[rw]? = some (.lst []))
    (hN : ∀ x4 x5 x6 x7 (rs : List (List Int)) S', Tape S' tp tm → S'[rw]? = some (.lst (rs.map rwD)) → rs.length = s → (∀ i r, rs[i]? = some r → RW s i 4 r) → rw < S'.length → QO (.nx (e22 (some (.ref tp)) (some (.int s)) (some (.ref rw)) x4 x5 x6 x7)) S') :
    W ((sFor (FL.iRng1 (aCons (eVar 2) (aNil))) (gNm 4) (sSeq (sAsg (eLst (aNil)) (gNm 5)) (sSeq (sFor (FL.iRng1 (aCons (eC (.int 4)) (aNil))) (gNm 6) (sSeq (sAsg (eBin oAdd (eVar 4) (eBin oMul (eVar 2) (eCall f__law_take (aCons (eVar 1) (aCons (eC (.int 6)) (aNil)))))) (gNm 7)) (sIf (tAnd (FL.tB (eBin oNotIn (eVar 7) (eVar 5))) (FL.tB (eBin oGt (eCall f__law_take (aCons (eVar 1) (aCons (eC (.int 3)) (aNil)))) (eC (.int 0))))) (sDrop (eBm "list" mAppend (eVar 5) (aCons (eVar 7) (aNil)))) (sNil)))) (sDrop (eBm "list" mAppend (eVar 3) (aCons (eCall fTuple (aCons (eVar 5) (aNil))) (aNil))))))) (e22 (some (.ref tp)) (some (.int s)) (some (.ref rw)) none none none none) S) QO := by
  rw [w_for]
  refine w_rng1 ?_
  simp only [w_seq, w_asg, w_ret, w_retN, w_drop, w_brk, w_cnt, w_nil, w_sif, w_c, w_ev, w_bin, w_un, w_anil, w_acons, w_tup, w_lst, w_call, w_tB, w_tNot, w_tAnd, w_tOr, w_eIf, w_isN, w_notN, w_gnm, w_gnils, w_gcns, w_gtp2, w_gtp3, w_gtp2p, w_ixT0, w_ixT1, w_ixT2, w_ch, w_chL, w_chK, w_par2, w_par3, w_add, w_sub, w_neg, w_lt, w_le, w_gt, w_ge, w_abs, w_int, w_intb, w_max2, w_min2, w_pno, w_ppart, w_sl, w_bm, w_yes, w_eqI, w_neI, w_eqB, w_neB, QS_nx, QS_rt, QS_bk, QS_ct, QF_nx, QF_rt, QL_nx, QL_ct, QL_bk, QL_rt, wipeE, List.set_cons_succ, List.set_cons_zero, List.getElem?_cons_succ, List.getElem?_cons_zero, D.bl.injEq, D.int.injEq, exists_eq_left', exists_eq_left, w_eAnd, w_tTru, tru_bl, if_true, if_false, Bool.false_eq_true]
  refine ⟨_, rfl, by omega, by omega, ?_⟩
  rw [show Int.toNat (s : Int) = s from rfl]
  refine for_rng (lo := 0) (n := s) (fun i env S => ∃ x4 x5 x6 x7 rs, env = e22 (some (.ref tp)) (some (.int s)) (some (.ref rw)) x4 x5 x6 x7 ∧ Tape S tp tm ∧ S[rw]? = some (.lst (rs.map rwD)) ∧ rs.length = i ∧ (∀ i r, rs[i]? = some r → RW s i 4 r)) ?_ ?_ ⟨_, _, _, _, [], rfl, hT, g, rfl, fun i r e => by simp at e⟩
  · rintro i env S hi ⟨x4, x5, x6, x7, rs, rfl, hT, g, hl, hr⟩
    rw [w_gnm, Int.zero_add (i : Int)]
    simp only [List.set_cons_succ, List.set_cons_zero]
    simp only [w_seq, w_asg, w_ret, w_retN, w_drop, w_brk, w_cnt, w_nil, w_sif, w_c, w_ev, w_bin, w_un, w_anil, w_acons, w_tup, w_lst, w_call, w_tB, w_tNot, w_tAnd, w_tOr, w_eIf, w_isN, w_notN, w_gnm, w_gnils, w_gcns, w_gtp2, w_gtp3, w_gtp2p, w_ixT0, w_ixT1, w_ixT2, w_ch, w_chL, w_chK, w_par2, w_par3, w_add, w_sub, w_neg, w_lt, w_le, w_gt, w_ge, w_abs, w_int, w_intb, w_max2, w_min2, w_pno, w_ppart, w_sl, w_bm, w_yes, w_eqI, w_neI, w_eqB, w_neB, QS_nx, QS_rt, QS_bk, QS_ct, QF_nx, QF_rt, QL_nx, QL_ct, QL_bk, QL_rt, wipeE, List.set_cons_succ, List.set_cons_zero, List.getElem?_cons_succ, List.getElem?_cons_zero, D.bl.injEq, D.int.injEq, exists_eq_left', exists_eq_left, w_eAnd, w_tTru, tru_bl, if_true, if_false, Bool.false_eq_true, W_some]
    refine ⟨Nat.zero_le _, ?_⟩
    have lrw := lt_of_at g
    rw [w_for]
    refine w_rng1 ?_
    simp only [w_seq, w_asg, w_ret, w_retN, w_drop, w_brk, w_cnt, w_nil, w_sif, w_c, w_ev, w_bin, w_un, w_anil, w_acons, w_tup, w_lst, w_call, w_tB, w_tNot, w_tAnd, w_tOr, w_eIf, w_isN, w_notN, w_gnm, w_gnils, w_gcns, w_gtp2, w_gtp3, w_gtp2p, w_ixT0, w_ixT1, w_ixT2, w_ch, w_chL, w_chK, w_par2, w_par3, w_add, w_sub, w_neg, w_lt, w_le, w_gt, w_ge, w_abs, w_int, w_intb, w_max2, w_min2, w_pno, w_ppart, w_sl, w_bm, w_yes, w_eqI, w_neI, w_eqB, w_neB, QS_nx, QS_rt, QS_bk, QS_ct, QF_nx, QF_rt, QL_nx, QL_ct, QL_bk, QL_rt, wipeE, List.set_cons_succ, List.set_cons_zero, List.getElem?_cons_succ, List.getElem?_cons_zero, D.bl.injEq, D.int.injEq, exists_eq_left', exists_eq_left, w_eAnd, w_tTru, tru_bl, if_true, if_false, Bool.false_eq_true]
    refine ⟨4, rfl, by decide, by decide, ?_⟩
    rw [show Int.toNat 4 = 4 from rfl]
    have a0 : Ap S (S ++ [O.lst []]) := Ap.app _ _
    refine for_rng (lo := 0) (n := 4) (fun k env S' => ∃ x6 x7 r, env = e22 (some (.ref tp)) (some (.int s)) (some (.ref rw)) (some (.int i)) (some (.ref S.length)) x6 x7 ∧ Tape S' tp tm ∧ S'[rw]? = some (.lst (rs.map rwD)) ∧ S'[S.length]? = some (.lst (r.map D.int)) ∧ RW s i k r) ?_ ?_ ⟨_, _, [], rfl, hT.ap a0, a0 _ _ g, new_at _ _, List.Pairwise.nil, fun l h => by simp at h, Nat.le_refl _⟩
    · rintro k env S1 hk ⟨x6, x7, r, rfl, T1, g1, h1, hR⟩
      rw [w_gnm, Int.zero_add (k : Int)]
      simp only [List.set_cons_succ, List.set_cons_zero]
      simp only [w_seq, w_asg, w_ret, w_retN, w_drop, w_brk, w_cnt, w_nil, w_sif, w_c, w_ev, w_bin, w_un, w_anil, w_acons, w_tup, w_lst, w_call, w_tB, w_tNot, w_tAnd, w_tOr, w_eIf, w_isN, w_notN, w_gnm, w_gnils, w_gcns, w_gtp2, w_gtp3, w_gtp2p, w_ixT0, w_ixT1, w_ixT2, w_ch, w_chL, w_chK, w_par2, w_par3, w_add, w_sub, w_neg, w_lt, w_le, w_gt, w_ge, w_abs, w_int, w_intb, w_max2, w_min2, w_pno, w_ppart, w_sl, w_bm, w_yes, w_eqI, w_neI, w_eqB, w_neB, QS_nx, QS_rt, QS_bk, QS_ct, QF_nx, QF_rt, QL_nx, QL_ct, QL_bk, QL_rt, wipeE, List.set_cons_succ, List.set_cons_zero, List.getElem?_cons_succ, List.getElem?_cons_zero, D.bl.injEq, D.int.injEq, exists_eq_left', exists_eq_left, w_eAnd, w_tTru, tru_bl, if_true, if_false, Bool.false_eq_true]
      refine W_take T1 (by decide) (by decide) fun z S2 p0 p1 k2 T2 l2 => ?_
      rw [w_mul (okMul_l (by omega) (by omega))]
      simp only [w_seq, w_asg, w_ret, w_retN, w_drop, w_brk, w_cnt, w_nil, w_sif, w_c, w_ev, w_bin, w_un, w_anil, w_acons, w_tup, w_lst, w_call, w_tB, w_tNot, w_tAnd, w_tOr, w_eIf, w_isN, w_notN, w_gnm, w_gnils, w_gcns, w_gtp2, w_gtp3, w_gtp2p, w_ixT0, w_ixT1, w_ixT2, w_ch, w_chL, w_chK, w_par2, w_par3, w_add, w_sub, w_neg, w_lt, w_le, w_gt, w_ge, w_abs, w_int, w_intb, w_max2, w_min2, w_pno, w_ppart, w_sl, w_bm, w_yes, w_eqI, w_neI, w_eqB, w_neB, QS_nx, QS_rt, QS_bk, QS_ct, QF_nx, QF_rt, QL_nx, QL_ct, QL_bk, QL_rt, wipeE, List.set_cons_succ, List.set_cons_zero, List.getElem?_cons_succ, List.getElem?_cons_zero, D.bl.injEq, D.int.injEq, exists_eq_left', exists_eq_left, w_eAnd, w_tTru, tru_bl, if_true, if_false, Bool.false_eq_true]
      have g2 := k2 _ _ (by omega) g1
      have h2 := k2 _ _ (by omega) h1
      rw [w_ninL (getL_of h2)]
      have md : ((i : Int) + (s : Int) * z) % (s : Int) = (i : Int) := by
        rw [Int.add_mul_emod_self_left]
        exact Int.emod_eq_of_lt (by omega) (by omega)
      have stay : ∀ x7 S3, Tape S3 tp tm → S3[rw]? = some (.lst (rs.map rwD)) → S3[S.length]? = some (.lst (r.map D.int)) → ∃ x6 x7' r, e22 (some (.ref tp)) (some (.int s)) (some (.ref rw)) (some (.int i)) (some (.ref S.length)) (some (.int k)) x7 = e22 (some (.ref tp)) (some (.int s)) (some (.ref rw)) (some (.int i)) (some (.ref S.length)) x6 x7' ∧ Tape S3 tp tm ∧ S3[rw]? = some (.lst (rs.map rwD)) ∧ S3[S.length]? = some (.lst (r.map D.int)) ∧ RW s i (k + 1) r := fun x7 S3 t a b => ⟨_, _, r, rfl, t, a, b, hR.nd, hR.md, by have := hR.len; omega⟩
      by_cases hm : ((i : Int) + (s : Int) * z) ∈ r
      · rw [decide_eq_true hm]
        simp only [Bool.not_true, Bool.false_eq_true, if_false, exists_eq_left', D.bl.injEq]
        exact stay _ _ T2 g2 h2
      · rw [decide_eq_false hm]
        simp only [Bool.not_false, if_true, exists_eq_left', D.bl.injEq]
        refine W_take T2 (by decide) (by decide) fun z3 S3 q0 q1 k3 T3 l3 => ?_
        have g3 := k3 _ _ (by omega) g2
        have h3 := k3 _ _ (by omega) h2
        simp only [w_seq, w_asg, w_ret, w_retN, w_drop, w_brk, w_cnt, w_nil, w_sif, w_c, w_ev, w_bin, w_un, w_anil, w_acons, w_tup, w_lst, w_call, w_tB, w_tNot, w_tAnd, w_tOr, w_eIf, w_isN, w_notN, w_gnm, w_gnils, w_gcns, w_gtp2, w_gtp3, w_gtp2p, w_ixT0, w_ixT1, w_ixT2, w_ch, w_chL, w_chK, w_par2, w_par3, w_add, w_sub, w_neg, w_lt, w_le, w_gt, w_ge, w_abs, w_int, w_intb, w_max2, w_min2, w_pno, w_ppart, w_sl, w_bm, w_yes, w_eqI, w_neI, w_eqB, w_neB, QS_nx, QS_rt, QS_bk, QS_ct, QF_nx, QF_rt, QL_nx, QL_ct, QL_bk, QL_rt, wipeE, List.set_cons_succ, List.set_cons_zero, List.getElem?_cons_succ, List.getElem?_cons_zero, D.bl.injEq, D.int.injEq, exists_eq_left', exists_eq_left, w_eAnd, w_tTru, tru_bl, if_true, if_false, Bool.false_eq_true]
        by_cases hz : 0 < z3
        · rw [decide_eq_true hz, if_pos rfl]
          refine ⟨tyL h3, ?_⟩
          rw [w_app h3 (by rw [List.length_map]; have := hR.len; unfold cap; omega)]
          refine ⟨_, _, r ++ [(i : Int) + (s : Int) * z], rfl, T3.set (by omega) (by omega), by rw [List.getElem?_set_ne (by omega)]; exact g3, by rw [set_at h3, List.map_append]; rfl, ?_, fun l hl => ?_, ?_⟩
          · rw [List.nodup_append]
            refine ⟨hR.nd, by simp, fun a ha b hb e => ?_⟩
            rw [List.mem_singleton.mp hb] at e
            rw [e] at ha
            exact hm ha
          · rcases List.mem_append.mp hl with h | h
            · exact hR.md l h
            · rw [List.mem_singleton.mp h]
              exact md
          · rw [List.length_append]
            have := hR.len
            simp only [List.length_cons, List.length_nil]
            omega
        · rw [decide_eq_false hz, if_neg Bool.false_ne_true]
          exact stay _ _ T3 g3 h3
    · rintro env S1 ⟨x6, x7, r, rfl, T1, g1, h1, hR⟩
      simp only [w_seq, w_asg, w_ret, w_retN, w_drop, w_brk, w_cnt, w_nil, w_sif, w_c, w_ev, w_bin, w_un, w_anil, w_acons, w_tup, w_lst, w_call, w_tB, w_tNot, w_tAnd, w_tOr, w_eIf, w_isN, w_notN, w_gnm, w_gnils, w_gcns, w_gtp2, w_gtp3, w_gtp2p, w_ixT0, w_ixT1, w_ixT2, w_ch, w_chL, w_chK, w_par2, w_par3, w_add, w_sub, w_neg, w_lt, w_le, w_gt, w_ge, w_abs, w_int, w_intb, w_max2, w_min2, w_pno, w_ppart, w_sl, w_bm, w_yes, w_eqI, w_neI, w_eqB, w_neB, QS_nx, QS_rt, QS_bk, QS_ct, QF_nx, QF_rt, QL_nx, QL_ct, QL_bk, QL_rt, wipeE, List.set_cons_succ, List.set_cons_zero, List.getElem?_cons_succ, List.getElem?_cons_zero, D.bl.injEq, D.int.injEq, exists_eq_left', exists_eq_left, w_eAnd, w_tTru, tru_bl, if_true, if_false, Bool.false_eq_true]
      refine ⟨tyL g1, ?_⟩
      rw [w_tupR (getL_of h1)]
      rw [w_app g1 (by rw [List.length_map]; unfold cap; omega)]
      refine ⟨_, _, _, _, rs ++ [r], rfl, T1.set (by omega) (by omega), by rw [set_at g1, List.map_append]; rfl, by rw [List.length_append, hl]; rfl, fun j x hx => ?_⟩
      by_cases hj : j < rs.length
      · rw [List.getElem?_append_left hj] at hx
        exact hr j x hx
      · rw [List.getElem?_append_right (by omega)] at hx
        have e : j = rs.length := by
          have := (List.getElem?_eq_some_iff.mp hx).1
          simp at this
          omega
        subst e
        rw [Nat.sub_self] at hx
        cases hx
        rw [hl]
        exact hR
  · rintro env S' ⟨x4, x5, x6, x7, rs, rfl, hT, g, hl, hr⟩
    exact hN _ _ _ _ rs S' hT g hl hr (lt_of_at g)
theorem good_rows {rs : List (List Int)} (hl : rs.length = s) (hr : ∀ i r, rs[i]? = some r → RW s i 4 r) : Good s rs := ⟨hl, fun i r h => (hr i r h).nd, fun i r l h hl => (hr i r h).md l hl⟩
theorem good_nil : Good s (List.replicate s []) := by
  refine ⟨List.length_replicate, fun i r h => ?_, fun i r l h hl => ?_⟩
  · rw [List.getElem?_replicate] at h
    split at h
    · cases h
      exact List.Pairwise.nil
    · cases h
  · rw [List.getElem?_replicate] at h
    split at h
    · cases h
      simp at hl
    · cases h
theorem row_nil (l : Int) : row s (List.replicate s []) l = [] := by
  unfold row
  rw [List.getD_eq_getElem?_getD, List.getElem?_replicate]
  split <;> rfl
theorem OR_nil {w : Nat} : OR w (List.replicate s []) = [] := by
  unfold OR prs
  have : ∀ n, (List.replicate n ([] : List Int)).flatMap (prw w) = [] := fun n => by
    induction n with
    | zero => rfl
    | succ n ih =>
      rw [List.replicate_succ, List.flatMap_cons, ih]
      unfold prw
      simp
  rw [this]
  rfl
theorem L_mono {L : Nat → Nat} (h : ∀ i, L i ≤ L (i + 1)) {j k : Nat} (hjk : j ≤ k) : L j ≤ L k := by
  induction k with
  | zero =>
    have : j = 0 := by omega
    subst this
    exact Nat.le_refl _
  | succ k ih =>
    by_cases e : j = k + 1
    · subst e
      exact Nat.le_refl _
    · exact Nat.le_trans (ih (by omega)) (h k)
def R0 (kind : Int) (s : Nat) (rs : List (List Int)) : List (List Int) := if kind = 1 then List.replicate s [] else rs
def T0 (kind : Int) (s : Nat) (rs : List (List Int)) : List (List Int) := if kind = 0 then rs else List.replicate s []
theorem w_mul2 {k : Nat} {us : List D} (h0 : us ≠ []) (h1 : 1 ≤ k) (h2 : k ≤ 1000) (h3 : us.length ≤ 1000) : W (oMul2 (.tup us) (.int k) S) Q ↔ Q (.tup (List.replicate k us).flatten) S := by
  unfold oMul2
  have z1 : (1 : Int) ≤ (k : Int) := by omega
  have z2 : (k : Int) ≤ 1000 := by omega
  simp only [h0, ne_eq, not_false_eq_true, z1, z2, h3, and_self, if_true, W_some]
  rfl
theorem w_listT {ds : List D} : W (fList [.tup ds] S) Q ↔ W (some (D.ref S.length, S ++ [.lst ds])) Q := Iff.rfl
theorem rest_ok {tp tm rw : Nat} {x4 x5 x6 x7 : Option D} {rs : List (List Int)} {QO : Out → Sto → Prop} (hs : 0 < s) (hs4 : s ≤ 4) (hT : Tape S tp tm) (o1 : tp < rw) (o2 : tm < rw) (g : S[rw]? = some (.lst (rs.map rwD))) (hl : rs.length = s) (hr : ∀ i r, rs[i]? = some r → RW s i 4 r)
    (hN : ∀ S', QO (.rt (.bl true)) S') :
    W ((sSeq (sAsg (eCall f__law_take (aCons (eVar 1) (aCons (eC (.int 3)) (aNil)))) (gNm 8)) (sSeq (sAsg (eLc (iSeq (eTup (aCons (eC (.int 1)) (aCons (eC (.int 2)) (aCons (eC (.int 3)) (aCons (eC (.int 4)) (aNil))))))) (gNm 19) (tYs) (eTup (aCons (eVar 2) (aCons (eVar 19) (aCons (eC (.str "lru")) (aNil))))) [19]) (gNm 9)) (sSeq (sAsg (eLc (iSeq (eVar 9)) (gNm 20) (tYs) (eIf (FL.tB (eBin oNe (eVar 8) (eC (.int 1)))) (eCall fTuple (aCons (eLc (iSeq (eVar 3)) (gNm 5) (tYs) (eSl (eVar 5) pNo (pPart (eBin oIx (eVar 20) (eC (.int 1))))) [5]) (aNil))) (eBin oMul2 (eTup (aCons (eTup (aNil)) (aNil))) (eVar 2))) [20]) (gNm 10)) (sSeq (sAsg (eLc (FL.iRng1 (aCons (eC (.int 4)) (aNil))) (gNm 6) (tYs) (eMake "Cache" f_Cache___init__ (aCons (eBin oIx (eVar 9) (eVar 6)) (aCons (eBin oIx (eVar 10) (eVar 6)) (aNil)))) [6]) (gNm 11)) (sSeq (sAsg (eLc (FL.iRng1 (aCons (eC (.int 4)) (aNil))) (gNm 6) (tYs) (eIf (FL.tB (eBin oEq (eVar 8) (eC (.int 0)))) (eCall f_of_cache (aCons (eBin oIx (eVar 9) (eVar 6)) (aCons (eBin oIx (eVar 10) (eVar 6)) (aNil)))) (eIf (FL.tB (eBin oEq (eVar 8) (eC (.int 1)))) (eCall f_nothing aNil) (eCall f_anything aNil))) [6]) (gNm 12)) (sSeq (sAsg (eTup (aCons (eLc (iSeq (eVar 3)) (gNm 5) (tYs) (eIf (FL.tB (eBin oEq (eVar 8) (eC (.int 1)))) (eLst (aNil)) (eCall fList (aCons (eVar 5) (aNil)))) [5]) (aCons (eLst (aCons (eC (.int 0)) (aCons (eC (.int 0)) (aCons (eC (.int 0)) (aCons (eC (.int 0)) (aNil)))))) (aNil)))) (gTp 2 (gCns (gNm 13) (gCns (gNm 14) (gNils))))) (sSeq (sFor (FL.iRng1 (aCons (eC (.int 40)) (aNil))) (gNm 15) (sSeq (sAsg (eCall f__law_take (aCons (eVar 1) (aCons (eBin oMul (eC (.int 6)) (eVar 2)) (aNil)))) (gNm 7)) (sSeq (sAsg (eBin oMod (eCall fInt (aCons (eVar 7) (aNil))) (eVar 2)) (gNm 4)) (sSeq (sFor (FL.iRng1 (aCons (eC (.int 4)) (aNil))) (gNm 6) (sSeq (sAsg (eCall f__law_need (aCons (eBin oIx (eVar 9) (eVar 6)) (aCons (eBin oIx (eVar 11) (eVar 6)) (aCons (eBin oIx (eVar 12) (eVar 6)) (aCons (eVar 7) (aNil)))))) (gTp 3 (gCns (gNm 16) (gCns (gNm 17) (gCns (gIx (eVar 12) (eVar 6)) (gNils)))))) (sSeq (sAsg (eBin oIn (eVar 7) (eSl (eBin oIx (eVar 13) (eVar 4)) pNo (pPart (eBin oAdd (eVar 6) (eC (.int 1)))))) (gNm 18)) (sSeq (sIf (tOr (FL.tB (eBin oNe (eVar 16) (eVar 18))) (FL.tB (eBin oNotIn (eVar 16) (eVar 17)))) (sRet (eC (.bl false))) (sNil)) (sAsg (eBin oAdd (eBin oIx (eVar 14) (eVar 6)) (eCall fInt (aCons (eNot (eVar 16)) (aNil)))) (gIx (eVar 14) (eVar 6))))))) (sSeq (sAsg (eBin oAdd (eLst (aCons (eVar 7) (aNil))) (eLc (iSeq (eBin oIx (eVar 13) (eVar 4))) (gNm 20) (FL.tB (eBin oNe (eVar 20) (eVar 7))) (eVar 20) [20])) (gIx (eVar 13) (eVar 4))) (sFor (FL.iRng1 (aCons (eC (.int 4)) (aNil))) (gNm 6) (sSeq (sIf (tOr (FL.tB (eBin oNe (eMeth "Cache" "lines" f_Cache_lines (eBin oIx (eVar 11) (eVar 6)) aNil) (eCall fTuple (aCons (eLc (FL.iRng1 (aCons (eVar 2) (aNil))) (gNm 21) (tYs) (eCall fTuple (aCons (eSl (eBin oIx (eVar 13) (eVar 21)) pNo (pPart (eBin oAdd (eVar 6) (eC (.int 1))))) (aNil))) [21]) (aNil))))) (FL.tB (eBin oNe (eBin oIx (eVar 12) (eVar 6)) (eCall f__law_cut (aCons (eBin oIx (eVar 12) (eC (.int 3))) (aCons (eBin oAdd (eVar 6) (eC (.int 1))) (aNil))))))) (sRet (eC (.bl false))) (sNil)) (sIf (tOr (tTru (eCall fAny (aCons (eLc (FL.iRng1 (aCons (eVar 6) (aNil))) (gNm 21) (tYs) (eBin oLt (eBin oIx (eVar 14) (eVar 21)) (eBin oIx (eVar 14) (eVar 6))) [21]) (aNil)))) (tAnd (FL.tB (eBin oLt (eVar 8) (eC (.int 2)))) (FL.tB (eBin oNe (eBin oIx (eVar 12) (eVar 6)) (eCall f_of_cache (aCons (eBin oIx (eVar 9) (eVar 6)) (aCons (eMeth "Cache" "lines" f_Cache_lines (eBin oIx (eVar 11) (eVar 6)) aNil) (aNil)))))))) (sRet (eC (.bl false))) (sNil))))))))) (sRet (eC (.bl true)))))))))) (e22 (some (.ref tp)) (some (.int s)) (some (.ref rw)) x4 x5 x6 x7) S) QO := by
  have lrw := lt_of_at g
  have grs := good_rows hl hr
  rw [w_seq]
  simp only [w_asg, w_call, w_acons, w_anil, w_ev, List.getElem?_cons_succ, List.getElem?_cons_zero, w_c]
  refine W_take hT (by decide) (by decide) fun kind S1 k0 k3 kn1 T1 l1 => ?_
  have g1 := kn1 _ _ (by omega) g
  simp only [w_gnm, List.set_cons_succ, List.set_cons_zero, QS_nx]
  have gr0 : Good s (R0 kind s rs) := by
    unfold R0
    split
    · exact good_nil
    · exact grs
  have gt0 : Good s (T0 kind s rs) := by
    unfold T0
    split
    · exact grs
    · exact good_nil
  -- told
  rw [w_seq]
  simp only [w_asg]
  refine w_lcg (ds := [.int 1, .int 2, .int 3, .int 4]) (fun k => tD s (k + 1)) ?_ (fun i d hd S2 a2 => ?_) (by show 4 ≤ 10000000; decide) fun a0 S2 a2 p2 g2 => ?_
  · refine w_iseqT ?_
    simp only [w_seq, w_asg, w_ret, w_retN, w_drop, w_brk, w_cnt, w_nil, w_sif, w_c, w_ev, w_bin, w_un, w_anil, w_acons, w_tup, w_lst, w_call, w_tB, w_tNot, w_tAnd, w_tOr, w_eIf, w_isN, w_notN, w_gnm, w_gnils, w_gcns, w_gtp2, w_gtp3, w_gtp2p, w_ixT0, w_ixT1, w_ixT2, w_ch, w_chL, w_chK, w_par2, w_par3, w_add, w_sub, w_neg, w_lt, w_le, w_gt, w_ge, w_abs, w_int, w_intb, w_max2, w_min2, w_pno, w_ppart, w_sl, w_bm, w_yes, w_eqI, w_neI, w_eqB, w_neB, QS_nx, QS_rt, QS_bk, QS_ct, QF_nx, QF_rt, QL_nx, QL_ct, QL_bk, QL_rt, wipeE, List.set_cons_succ, List.set_cons_zero, List.getElem?_cons_succ, List.getElem?_cons_zero, D.bl.injEq, D.int.injEq, exists_eq_left', exists_eq_left, w_eAnd, w_tTru, tru_bl, if_true, if_false, Bool.false_eq_true]
    exact ⟨(by show 4 ≤ 10000000; decide), _, rfl, Ap.refl _, by simp [ItD.fix], fun S2 a i => rfl⟩
  · simp only [w_seq, w_asg, w_ret, w_retN, w_drop, w_brk, w_cnt, w_nil, w_sif, w_c, w_ev, w_bin, w_un, w_anil, w_acons, w_tup, w_lst, w_call, w_tB, w_tNot, w_tAnd, w_tOr, w_eIf, w_isN, w_notN, w_gnm, w_gnils, w_gcns, w_gtp2, w_gtp3, w_gtp2p, w_ixT0, w_ixT1, w_ixT2, w_ch, w_chL, w_chK, w_par2, w_par3, w_add, w_sub, w_neg, w_lt, w_le, w_gt, w_ge, w_abs, w_int, w_intb, w_max2, w_min2, w_pno, w_ppart, w_sl, w_bm, w_yes, w_eqI, w_neI, w_eqB, w_neB, QS_nx, QS_rt, QS_bk, QS_ct, QF_nx, QF_rt, QL_nx, QL_ct, QL_bk, QL_rt, wipeE, List.set_cons_succ, List.set_cons_zero, List.getElem?_cons_succ, List.getElem?_cons_zero, D.bl.injEq, D.int.injEq, exists_eq_left', exists_eq_left, w_eAnd, w_tTru, tru_bl, if_true, if_false, Bool.false_eq_true]
    refine ⟨trivial, Ap.refl _, ⟨(by show 3 ≤ 10000000; decide), ?_, Ap.refl _⟩⟩
    have hi := (List.getElem?_eq_some_iff.mp hd).1
    match i, hi, hd with
    | 0, _, h => cases h; rfl
    | 1, _, h => cases h; rfl
    | 2, _, h => cases h; rfl
    | 3, _, h => cases h; rfl
  have g2' : S2[a0]? = some (.lst (lf 4 fun k => tD s (k + 1))) := g2
  clear g2
  have T2 := T1.ap a2
  have r2 := a2 _ _ g1
  simp only [w_gnm, List.set_cons_succ, List.set_cons_zero, QS_nx]
  -- starts
  rw [w_seq]
  simp only [w_asg]
  refine w_lcg (ds := lf 4 fun k => tD s (k + 1)) (fun k => .tup (((R0 kind s rs).map fun x => x.take (k + 1)).map rwD)) ?_ (fun i d hd S3 a3 => ?_) (by rw [lf_len]; show 4 ≤ 10000000; decide) fun st S3 a3 p3 g3 => ?_
  · refine w_iseqL ?_
    simp only [w_seq, w_asg, w_ret, w_retN, w_drop, w_brk, w_cnt, w_nil, w_sif, w_c, w_ev, w_bin, w_un, w_anil, w_acons, w_tup, w_lst, w_call, w_tB, w_tNot, w_tAnd, w_tOr, w_eIf, w_isN, w_notN, w_gnm, w_gnils, w_gcns, w_gtp2, w_gtp3, w_gtp2p, w_ixT0, w_ixT1, w_ixT2, w_ch, w_chL, w_chK, w_par2, w_par3, w_add, w_sub, w_neg, w_lt, w_le, w_gt, w_ge, w_abs, w_int, w_intb, w_max2, w_min2, w_pno, w_ppart, w_sl, w_bm, w_yes, w_eqI, w_neI, w_eqB, w_neB, QS_nx, QS_rt, QS_bk, QS_ct, QF_nx, QF_rt, QL_nx, QL_ct, QL_bk, QL_rt, wipeE, List.set_cons_succ, List.set_cons_zero, List.getElem?_cons_succ, List.getElem?_cons_zero, D.bl.injEq, D.int.injEq, exists_eq_left', exists_eq_left, w_eAnd, w_tTru, tru_bl, if_true, if_false, Bool.false_eq_true]
    exact ⟨_, _, rfl, getL_of g2', Ap.refl _, Nat.le_refl _, fun S2 a i => by unfold ItD.lst; simp [getL_ap (getL_of g2') a]⟩
  · have hi : i < 4 := by
      have := (List.getElem?_eq_some_iff.mp hd).1
      rwa [lf_len] at this
    have ed : d = tD s (i + 1) := by
      unfold lf at hd
      rw [List.getElem?_map, List.getElem?_range hi] at hd
      exact (Option.some.inj hd).symm
    subst ed
    simp only [w_seq, w_asg, w_ret, w_retN, w_drop, w_brk, w_cnt, w_nil, w_sif, w_c, w_ev, w_bin, w_un, w_anil, w_acons, w_tup, w_lst, w_call, w_tB, w_tNot, w_tAnd, w_tOr, w_eIf, w_isN, w_notN, w_gnm, w_gnils, w_gcns, w_gtp2, w_gtp3, w_gtp2p, w_ixT0, w_ixT1, w_ixT2, w_ch, w_chL, w_chK, w_par2, w_par3, w_add, w_sub, w_neg, w_lt, w_le, w_gt, w_ge, w_abs, w_int, w_intb, w_max2, w_min2, w_pno, w_ppart, w_sl, w_bm, w_yes, w_eqI, w_neI, w_eqB, w_neB, QS_nx, QS_rt, QS_bk, QS_ct, QF_nx, QF_rt, QL_nx, QL_ct, QL_bk, QL_rt, wipeE, List.set_cons_succ, List.set_cons_zero, List.getElem?_cons_succ, List.getElem?_cons_zero, D.bl.injEq, D.int.injEq, exists_eq_left', exists_eq_left, w_eAnd, w_tTru, tru_bl, if_true, if_false, Bool.false_eq_true]
    refine ⟨trivial, Ap.refl _, ?_⟩
    by_cases hk : kind = 1
    · rw [decide_eq_true hk]
      simp only [Bool.not_true, Bool.false_eq_true, if_false]
      refine ⟨by show 0 ≤ 10000000; decide, by show 1 ≤ 10000000; decide, ?_⟩
      rw [w_mul2 (by simp) (by omega) (by omega) (by simp)]
      refine ⟨?_, Ap.refl _⟩
      unfold R0
      rw [if_pos hk, List.map_replicate, List.map_replicate]
      have : ∀ n, (List.replicate n [D.tup []]).flatten = List.replicate n (D.tup []) := fun n => by
        induction n with
        | zero => rfl
        | succ n ih => rw [List.replicate_succ, List.flatten_cons, ih]; rfl
      rw [this]
      simp
    · rw [decide_eq_false hk]
      simp only [Bool.not_false, if_true]
      refine w_lcx (f := rwD) (xs := rs) (fun r => rwD (r.take (i + 1))) ?_ (fun r hr' S4 a4 => ?_) (by unfold cap; omega) fun n S4 a4 p4 g4 => ?_
      · refine w_iseqL ?_
        simp only [w_seq, w_asg, w_ret, w_retN, w_drop, w_brk, w_cnt, w_nil, w_sif, w_c, w_ev, w_bin, w_un, w_anil, w_acons, w_tup, w_lst, w_call, w_tB, w_tNot, w_tAnd, w_tOr, w_eIf, w_isN, w_notN, w_gnm, w_gnils, w_gcns, w_gtp2, w_gtp3, w_gtp2p, w_ixT0, w_ixT1, w_ixT2, w_ch, w_chL, w_chK, w_par2, w_par3, w_add, w_sub, w_neg, w_lt, w_le, w_gt, w_ge, w_abs, w_int, w_intb, w_max2, w_min2, w_pno, w_ppart, w_sl, w_bm, w_yes, w_eqI, w_neI, w_eqB, w_neB, QS_nx, QS_rt, QS_bk, QS_ct, QF_nx, QF_rt, QL_nx, QL_ct, QL_bk, QL_rt, wipeE, List.set_cons_succ, List.set_cons_zero, List.getElem?_cons_succ, List.getElem?_cons_zero, D.bl.injEq, D.int.injEq, exists_eq_left', exists_eq_left, w_eAnd, w_tTru, tru_bl, if_true, if_false, Bool.false_eq_true]
        exact ⟨_, _, rfl, getL_of (a3 _ _ r2), Ap.refl _, rw, by rw [List.length_map], getL_of (a3 _ _ r2)⟩
      · simp only [w_seq, w_asg, w_ret, w_retN, w_drop, w_brk, w_cnt, w_nil, w_sif, w_c, w_ev, w_bin, w_un, w_anil, w_acons, w_tup, w_lst, w_call, w_tB, w_tNot, w_tAnd, w_tOr, w_eIf, w_isN, w_notN, w_gnm, w_gnils, w_gcns, w_gtp2, w_gtp3, w_gtp2p, w_ixT0, w_ixT1, w_ixT2, w_ch, w_chL, w_chK, w_par2, w_par3, w_add, w_sub, w_neg, w_lt, w_le, w_gt, w_ge, w_abs, w_int, w_intb, w_max2, w_min2, w_pno, w_ppart, w_sl, w_bm, w_yes, w_eqI, w_neI, w_eqB, w_neB, QS_nx, QS_rt, QS_bk, QS_ct, QF_nx, QF_rt, QL_nx, QL_ct, QL_bk, QL_rt, wipeE, List.set_cons_succ, List.set_cons_zero, List.getElem?_cons_succ, List.getElem?_cons_zero, D.bl.injEq, D.int.injEq, exists_eq_left', exists_eq_left, w_eAnd, w_tTru, tru_bl, if_true, if_false, Bool.false_eq_true]
        refine ⟨trivial, Ap.refl _, ?_⟩
        have sl : ∀ S, oSl (rwD r) none (some ((i + 1 : Nat) : Int)) S = some (rwD (r.take (i + 1)), S) := fun S => by
          show some (D.tup (cutG _ none _), S) = _
          rw [cut_none, ← List.map_take]
        rw [sl, W_some]
        exact ⟨rfl, Ap.refl _⟩
      · rw [w_tupR (getL_of g4)]
        refine ⟨?_, a4⟩
        unfold R0
        rw [if_neg hk, List.map_map]
        rfl
  rw [lf_len] at g3
  have g3' : S3[st]? = some (.lst (lf 4 fun k => .tup (((R0 kind s rs).map fun x => x.take (k + 1)).map rwD))) := g3
  clear g3
  have T3 := T2.ap a3
  have r3 := a3 _ _ r2
  have t3 := a3 _ _ g2'
  simp only [w_gnm, List.set_cons_succ, List.set_cons_zero, QS_nx]
  -- caches
  rw [w_seq]
  simp only [w_asg]
  refine w_lcq (ds := rngD 0 4) (fun lo hi i y S => ∃ c m, y = .ref c ∧ CA S s (i + 1) c m ((R0 kind s rs).map fun x => x.take (i + 1)) ∧ lo ≤ c ∧ c < hi ∧ lo ≤ m ∧ m < hi) ?_ ?_ (fun i d hd S4 a4 l4 => ?_) (by rw [rng_len]; show 4 ≤ 10000000; decide) fun ca S4 ys L a4 p4 g4 ly L0 Lm Le hP => ?_
  · rintro lo hi i y S S' sp ⟨c, m, rfl, h, h1, h2, h3, h4⟩
    exact ⟨c, m, rfl, ⟨sp _ h1 h2 _ h.1, sp _ h3 h4 _ h.2.1, h.2.2⟩, h1, h2, h3, h4⟩
  · refine w_rng1 ?_
    simp only [w_seq, w_asg, w_ret, w_retN, w_drop, w_brk, w_cnt, w_nil, w_sif, w_c, w_ev, w_bin, w_un, w_anil, w_acons, w_tup, w_lst, w_call, w_tB, w_tNot, w_tAnd, w_tOr, w_eIf, w_isN, w_notN, w_gnm, w_gnils, w_gcns, w_gtp2, w_gtp3, w_gtp2p, w_ixT0, w_ixT1, w_ixT2, w_ch, w_chL, w_chK, w_par2, w_par3, w_add, w_sub, w_neg, w_lt, w_le, w_gt, w_ge, w_abs, w_int, w_intb, w_max2, w_min2, w_pno, w_ppart, w_sl, w_bm, w_yes, w_eqI, w_neI, w_eqB, w_neB, QS_nx, QS_rt, QS_bk, QS_ct, QF_nx, QF_rt, QL_nx, QL_ct, QL_bk, QL_rt, wipeE, List.set_cons_succ, List.set_cons_zero, List.getElem?_cons_succ, List.getElem?_cons_zero, D.bl.injEq, D.int.injEq, exists_eq_left', exists_eq_left, w_eAnd, w_tTru, tru_bl, if_true, if_false, Bool.false_eq_true]
    exact ⟨4, rfl, by decide, by decide, Ap.refl _, Nat.le_refl _, fun S2 a i => rfl⟩
  · obtain ⟨rfl, hi⟩ := rng_get hd
    rw [w_gnm, Int.zero_add (i : Int)]
    simp only [List.set_cons_succ, List.set_cons_zero, wipeE]
    simp only [w_seq, w_asg, w_ret, w_retN, w_drop, w_brk, w_cnt, w_nil, w_sif, w_c, w_ev, w_bin, w_un, w_anil, w_acons, w_tup, w_lst, w_call, w_tB, w_tNot, w_tAnd, w_tOr, w_eIf, w_isN, w_notN, w_gnm, w_gnils, w_gcns, w_gtp2, w_gtp3, w_gtp2p, w_ixT0, w_ixT1, w_ixT2, w_ch, w_chL, w_chK, w_par2, w_par3, w_add, w_sub, w_neg, w_lt, w_le, w_gt, w_ge, w_abs, w_int, w_intb, w_max2, w_min2, w_pno, w_ppart, w_sl, w_bm, w_yes, w_eqI, w_neI, w_eqB, w_neB, QS_nx, QS_rt, QS_bk, QS_ct, QF_nx, QF_rt, QL_nx, QL_ct, QL_bk, QL_rt, wipeE, List.set_cons_succ, List.set_cons_zero, List.getElem?_cons_succ, List.getElem?_cons_zero, D.bl.injEq, D.int.injEq, exists_eq_left', exists_eq_left, w_eAnd, w_tTru, tru_bl, if_true, if_false, Bool.false_eq_true]
    refine ⟨trivial, Ap.refl _, w_make ?_⟩
    simp only [w_seq, w_asg, w_ret, w_retN, w_drop, w_brk, w_cnt, w_nil, w_sif, w_c, w_ev, w_bin, w_un, w_anil, w_acons, w_tup, w_lst, w_call, w_tB, w_tNot, w_tAnd, w_tOr, w_eIf, w_isN, w_notN, w_gnm, w_gnils, w_gcns, w_gtp2, w_gtp3, w_gtp2p, w_ixT0, w_ixT1, w_ixT2, w_ch, w_chL, w_chK, w_par2, w_par3, w_add, w_sub, w_neg, w_lt, w_le, w_gt, w_ge, w_abs, w_int, w_intb, w_max2, w_min2, w_pno, w_ppart, w_sl, w_bm, w_yes, w_eqI, w_neI, w_eqB, w_neB, QS_nx, QS_rt, QS_bk, QS_ct, QF_nx, QF_rt, QL_nx, QL_ct, QL_bk, QL_rt, wipeE, List.set_cons_succ, List.set_cons_zero, List.getElem?_cons_succ, List.getElem?_cons_zero, D.bl.injEq, D.int.injEq, exists_eq_left', exists_eq_left, w_eAnd, w_tTru, tru_bl, if_true, if_false, Bool.false_eq_true]
    rw [w_ixL (getL_of (a4 _ _ t3)) (lf_at hi), w_ixL (getL_of (a4 _ _ g3')) (lf_at hi)]
    refine (init_ok (by rw [List.length_map, gr0.len]; omega) (new_at _ _)).mono fun d S5 h => ?_
    obtain ⟨m, rfl, hc, kn, hm⟩ := h
    refine ⟨rfl, fun q o e => ?_, S4.length, m, rfl, hc, Nat.le_refl _, lt_of_at hc.1, by rw [List.length_append] at hm; omega, lt_of_at hc.2.1⟩
    exact kn _ _ (by have := lt_of_at e; omega) (Ap.app _ _ _ _ e)
  obtain ⟨f, rfl, hf⟩ := lf_of (n := 4) (by rw [ly, rng_len]) (fun i hi => hP i (by rw [rng_len]; exact hi))
  clear hP ly
  rw [rng_len] at Le
  have ⟨n, m, hnm⟩ : ∃ n m : Nat → Nat, ∀ i, i < 4 → f i = .ref (n i) ∧ CA S4 s (i + 1) (n i) (m i) ((R0 kind s rs).map fun x => x.take (i + 1)) ∧ L i ≤ n i ∧ n i < L (i + 1) ∧ L i ≤ m i ∧ m i < L (i + 1) := by
    have h : ∀ i, ∃ c m, i < 4 → f i = .ref c ∧ CA S4 s (i + 1) c m ((R0 kind s rs).map fun x => x.take (i + 1)) ∧ L i ≤ c ∧ c < L (i + 1) ∧ L i ≤ m ∧ m < L (i + 1) := fun i => by
      by_cases hi : i < 4
      · obtain ⟨c, m, h⟩ := hf i hi
        exact ⟨c, m, fun _ => h⟩
      · exact ⟨0, 0, fun z => absurd z hi⟩
    exact ⟨fun i => Classical.choose (h i), fun i => Classical.choose (Classical.choose_spec (h i)), fun i hi => Classical.choose_spec (Classical.choose_spec (h i)) hi⟩
  rw [lf_congr fun k hk => (hnm k hk).1] at g4
  clear hf
  have T4 := T3.ap a4
  have r4 := a4 _ _ r3
  have t4 := a4 _ _ t3
  have s4 := a4 _ _ g3'
  simp only [w_gnm, List.set_cons_succ, List.set_cons_zero, QS_nx]
  -- known
  rw [w_seq]
  simp only [w_asg]
  refine w_lcr (n := 4) (lo := 0) (KN (decide (kind < 2)) (fun _ => R0 kind s rs) (fun _ => T0 kind s rs)) ?_ (fun i hi S5 a5 => ?_) (by show 4 ≤ 10000000; decide) fun kn S5 a5 p5 g5 => ?_
  · refine w_rng1 ?_
    simp only [w_seq, w_asg, w_ret, w_retN, w_drop, w_brk, w_cnt, w_nil, w_sif, w_c, w_ev, w_bin, w_un, w_anil, w_acons, w_tup, w_lst, w_call, w_tB, w_tNot, w_tAnd, w_tOr, w_eIf, w_isN, w_notN, w_gnm, w_gnils, w_gcns, w_gtp2, w_gtp3, w_gtp2p, w_ixT0, w_ixT1, w_ixT2, w_ch, w_chL, w_chK, w_par2, w_par3, w_add, w_sub, w_neg, w_lt, w_le, w_gt, w_ge, w_abs, w_int, w_intb, w_max2, w_min2, w_pno, w_ppart, w_sl, w_bm, w_yes, w_eqI, w_neI, w_eqB, w_neB, QS_nx, QS_rt, QS_bk, QS_ct, QF_nx, QF_rt, QL_nx, QL_ct, QL_bk, QL_rt, wipeE, List.set_cons_succ, List.set_cons_zero, List.getElem?_cons_succ, List.getElem?_cons_zero, D.bl.injEq, D.int.injEq, exists_eq_left', exists_eq_left, w_eAnd, w_tTru, tru_bl, if_true, if_false, Bool.false_eq_true]
    exact ⟨4, rfl, by decide, by decide, rfl, trivial⟩
  · rw [w_gnm, Int.zero_add (i : Int)]
    simp only [List.set_cons_succ, List.set_cons_zero, wipeE]
    simp only [w_seq, w_asg, w_ret, w_retN, w_drop, w_brk, w_cnt, w_nil, w_sif, w_c, w_ev, w_bin, w_un, w_anil, w_acons, w_tup, w_lst, w_call, w_tB, w_tNot, w_tAnd, w_tOr, w_eIf, w_isN, w_notN, w_gnm, w_gnils, w_gcns, w_gtp2, w_gtp3, w_gtp2p, w_ixT0, w_ixT1, w_ixT2, w_ch, w_chL, w_chK, w_par2, w_par3, w_add, w_sub, w_neg, w_lt, w_le, w_gt, w_ge, w_abs, w_int, w_intb, w_max2, w_min2, w_pno, w_ppart, w_sl, w_bm, w_yes, w_eqI, w_neI, w_eqB, w_neB, QS_nx, QS_rt, QS_bk, QS_ct, QF_nx, QF_rt, QL_nx, QL_ct, QL_bk, QL_rt, wipeE, List.set_cons_succ, List.set_cons_zero, List.getElem?_cons_succ, List.getElem?_cons_zero, D.bl.injEq, D.int.injEq, exists_eq_left', exists_eq_left, w_eAnd, w_tTru, tru_bl, if_true, if_false, Bool.false_eq_true]
    refine ⟨trivial, Ap.refl _, ?_⟩
    unfold KN MM
    by_cases h0 : kind = 0
    · rw [decide_eq_true h0, if_pos rfl, w_ixL (getL_of (a5 _ _ t4)) (lf_at hi), w_ixL (getL_of (a5 _ _ s4)) (lf_at hi)]
      refine (of_cache_ok (S := S5) (w := i + 1) (Good.map (w := i + 1) gr0) (fun x hx => by
          obtain ⟨y, _, rfl⟩ := List.mem_map.mp hx
          rw [List.length_take]
          omega) hs4 (by omega)).mono fun d S6 h => ?_
      obtain ⟨rfl, a6⟩ := h
      refine ⟨?_, a6⟩
      rw [OR_map, decide_eq_true (by omega : kind < 2), if_pos rfl]
      unfold R0 T0
      rw [if_pos h0, if_neg (by omega)]
    · rw [decide_eq_false h0, if_neg Bool.false_ne_true]
      have et : T0 kind s rs = List.replicate s [] := by unfold T0; rw [if_neg h0]
      rw [et, OR_nil]
      by_cases h1 : kind = 1
      · rw [decide_eq_true h1, if_pos rfl]
        refine w_fn rfl ?_
        show W (b_nothing [] S5) _
        unfold b_nothing
        simp only [w_seq, w_asg, w_ret, w_retN, w_drop, w_brk, w_cnt, w_nil, w_sif, w_c, w_ev, w_bin, w_un, w_anil, w_acons, w_tup, w_lst, w_call, w_tB, w_tNot, w_tAnd, w_tOr, w_eIf, w_isN, w_notN, w_gnm, w_gnils, w_gcns, w_gtp2, w_gtp3, w_gtp2p, w_ixT0, w_ixT1, w_ixT2, w_ch, w_chL, w_chK, w_par2, w_par3, w_add, w_sub, w_neg, w_lt, w_le, w_gt, w_ge, w_abs, w_int, w_intb, w_max2, w_min2, w_pno, w_ppart, w_sl, w_bm, w_yes, w_eqI, w_neI, w_eqB, w_neB, QS_nx, QS_rt, QS_bk, QS_ct, QF_nx, QF_rt, QL_nx, QL_ct, QL_bk, QL_rt, wipeE, List.set_cons_succ, List.set_cons_zero, List.getElem?_cons_succ, List.getElem?_cons_zero, D.bl.injEq, D.int.injEq, exists_eq_left', exists_eq_left, w_eAnd, w_tTru, tru_bl, if_true, if_false, Bool.false_eq_true]
        refine ⟨by show 0 ≤ 10000000; decide, by show 0 ≤ 10000000; decide, by show 2 ≤ 10000000; decide, ?_, Ap.refl _⟩
        rw [decide_eq_true (by omega : kind < 2), if_pos rfl]
        unfold R0
        rw [if_pos h1, OR_nil]
        rfl
      · rw [decide_eq_false h1, if_neg Bool.false_ne_true]
        refine w_fn rfl ?_
        show W (b_anything [] S5) _
        unfold b_anything
        simp only [w_seq, w_asg, w_ret, w_retN, w_drop, w_brk, w_cnt, w_nil, w_sif, w_c, w_ev, w_bin, w_un, w_anil, w_acons, w_tup, w_lst, w_call, w_tB, w_tNot, w_tAnd, w_tOr, w_eIf, w_isN, w_notN, w_gnm, w_gnils, w_gcns, w_gtp2, w_gtp3, w_gtp2p, w_ixT0, w_ixT1, w_ixT2, w_ch, w_chL, w_chK, w_par2, w_par3, w_add, w_sub, w_neg, w_lt, w_le, w_gt, w_ge, w_abs, w_int, w_intb, w_max2, w_min2, w_pno, w_ppart, w_sl, w_bm, w_yes, w_eqI, w_neI, w_eqB, w_neB, QS_nx, QS_rt, QS_bk, QS_ct, QF_nx, QF_rt, QL_nx, QL_ct, QL_bk, QL_rt, wipeE, List.set_cons_succ, List.set_cons_zero, List.getElem?_cons_succ, List.getElem?_cons_zero, D.bl.injEq, D.int.injEq, exists_eq_left', exists_eq_left, w_eAnd, w_tTru, tru_bl, if_true, if_false, Bool.false_eq_true]
        refine ⟨by show 0 ≤ 10000000; decide, by show 2 ≤ 10000000; decide, ?_, Ap.refl _⟩
        rw [decide_eq_false (by omega : ¬ kind < 2), if_neg Bool.false_ne_true]
        rfl
  have T5 := T4.ap a5
  have r5 := a5 _ _ r4
  have t5 := a5 _ _ t4
  have c5 := a5 _ _ g4
  simp only [w_gnm, List.set_cons_succ, List.set_cons_zero, QS_nx]
  -- since, misses
  rw [w_seq]
  simp only [w_asg, w_tup, w_acons]
  refine w_lcq (ds := rs.map rwD) (fun lo hi i y S => ∃ q, y = .ref q ∧ S[q]? = some (.lst (((R0 kind s rs).getD i []).map D.int)) ∧ lo ≤ q ∧ q < hi) ?_ ?_ (fun i d hd S6 a6 l6 => ?_) (by rw [List.length_map]; unfold cap; omega) fun si S6 ys L' a6 p6 g6 ly L0' Lm' Le' hP => ?_
  · rintro lo hi i y S S' sp ⟨q, rfl, h, h1, h2⟩
    exact ⟨q, rfl, sp _ h1 h2 _ h, h1, h2⟩
  · refine w_iseqL ?_
    simp only [w_seq, w_asg, w_ret, w_retN, w_drop, w_brk, w_cnt, w_nil, w_sif, w_c, w_ev, w_bin, w_un, w_anil, w_acons, w_tup, w_lst, w_call, w_tB, w_tNot, w_tAnd, w_tOr, w_eIf, w_isN, w_notN, w_gnm, w_gnils, w_gcns, w_gtp2, w_gtp3, w_gtp2p, w_ixT0, w_ixT1, w_ixT2, w_ch, w_chL, w_chK, w_par2, w_par3, w_add, w_sub, w_neg, w_lt, w_le, w_gt, w_ge, w_abs, w_int, w_intb, w_max2, w_min2, w_pno, w_ppart, w_sl, w_bm, w_yes, w_eqI, w_neI, w_eqB, w_neB, QS_nx, QS_rt, QS_bk, QS_ct, QF_nx, QF_rt, QL_nx, QL_ct, QL_bk, QL_rt, wipeE, List.set_cons_succ, List.set_cons_zero, List.getElem?_cons_succ, List.getElem?_cons_zero, D.bl.injEq, D.int.injEq, exists_eq_left', exists_eq_left, w_eAnd, w_tTru, tru_bl, if_true, if_false, Bool.false_eq_true]
    exact ⟨_, _, rfl, getL_of r5, Ap.refl _, Nat.le_refl _, fun S2 a i => by unfold ItD.lst; simp [getL_ap (getL_of r5) a]⟩
  · rw [List.getElem?_map] at hd
    obtain ⟨r, hr', rfl⟩ := Option.map_eq_some_iff.mp hd
    simp only [w_seq, w_asg, w_ret, w_retN, w_drop, w_brk, w_cnt, w_nil, w_sif, w_c, w_ev, w_bin, w_un, w_anil, w_acons, w_tup, w_lst, w_call, w_tB, w_tNot, w_tAnd, w_tOr, w_eIf, w_isN, w_notN, w_gnm, w_gnils, w_gcns, w_gtp2, w_gtp3, w_gtp2p, w_ixT0, w_ixT1, w_ixT2, w_ch, w_chL, w_chK, w_par2, w_par3, w_add, w_sub, w_neg, w_lt, w_le, w_gt, w_ge, w_abs, w_int, w_intb, w_max2, w_min2, w_pno, w_ppart, w_sl, w_bm, w_yes, w_eqI, w_neI, w_eqB, w_neB, QS_nx, QS_rt, QS_bk, QS_ct, QF_nx, QF_rt, QL_nx, QL_ct, QL_bk, QL_rt, wipeE, List.set_cons_succ, List.set_cons_zero, List.getElem?_cons_succ, List.getElem?_cons_zero, D.bl.injEq, D.int.injEq, exists_eq_left', exists_eq_left, w_eAnd, w_tTru, tru_bl, if_true, if_false, Bool.false_eq_true]
    refine ⟨trivial, Ap.refl _, ?_⟩
    by_cases hk : kind = 1
    · rw [decide_eq_true hk, if_pos rfl, W_some]
      refine ⟨Nat.zero_le _, Ap.app _ _, S6.length, rfl, ?_, Nat.le_refl _, by simp⟩
      rw [new_at]
      unfold R0
      rw [if_pos hk, List.getD_eq_getElem?_getD, List.getElem?_replicate]
      split <;> rfl
    · rw [decide_eq_false hk, if_neg Bool.false_ne_true, w_listT, W_some]
      refine ⟨Ap.app _ _, S6.length, rfl, ?_, Nat.le_refl _, by simp⟩
      rw [new_at]
      unfold R0
      rw [if_neg hk, List.getD_eq_getElem?_getD, hr']
      rfl
  obtain ⟨f', rfl, hf⟩ := lf_of (n := s) (by rw [ly, List.length_map, hl]) (fun i hi => hP i (by rw [List.length_map, hl]; exact hi))
  clear hP ly
  rw [List.length_map, hl] at Le'
  have ⟨q, hq⟩ : ∃ q : Nat → Nat, ∀ i, i < s → f' i = .ref (q i) ∧ S6[q i]? = some (.lst (((R0 kind s rs).getD i []).map D.int)) ∧ L' i ≤ q i ∧ q i < L' (i + 1) := by
    have h : ∀ i, ∃ c, i < s → f' i = .ref c ∧ S6[c]? = some (.lst (((R0 kind s rs).getD i []).map D.int)) ∧ L' i ≤ c ∧ c < L' (i + 1) := fun i => by
      by_cases hi : i < s
      · obtain ⟨c, h⟩ := hf i hi
        exact ⟨c, fun _ => h⟩
      · exact ⟨0, fun z => absurd z hi⟩
    exact ⟨fun i => Classical.choose (h i), fun i hi => Classical.choose_spec (h i) hi⟩
  rw [lf_congr fun k hk => (hq k hk).1] at g6
  clear hf
  simp only [w_anil, w_lst, w_c, W_some, w_acons]
  refine ⟨by show 4 ≤ 10000000; decide, by show 2 ≤ 10000000; decide, ?_⟩
  simp only [w_gtp2, w_gcns, w_gnm, w_gnils, List.set_cons_succ, List.set_cons_zero, QS_nx]
  rw [w_seq]
  have a7 : Ap S6 (S6 ++ [O.lst [.int 0, .int 0, .int 0, .int 0]]) := Ap.app _ _
  have la := a2.len
  have lb := a3.len
  have lc := a4.len
  have ld := a5.len
  have le := a6.len
  have q2 := lt_of_at g2'
  have q3 := lt_of_at g3'
  have q4 := lt_of_at g4
  have q5 := lt_of_at g5
  have q6 := lt_of_at g6
  have po : PO s ⟨tp, tm, a0, ca, n, m, kn, si, S6.length, q⟩ := by
    refine ⟨⟨by show tp < a0; omega, by show tm < a0; omega, by show a0 < ca; omega, by show ca < kn; omega, by show kn < si; omega, by show si < S6.length; omega⟩, fun k hk => ?_, fun j k hj hk hne => ?_, fun i hi => ?_⟩
    · obtain ⟨_, _, z1, z2, z3, z4⟩ := hnm k hk
      have w1 := L_mono Lm (Nat.zero_le k)
      have w2 := L_mono Lm (show k + 1 ≤ 4 by omega)
      exact ⟨by show ca < n k; omega, by show ca < m k; omega, by show n k < kn; omega, by show m k < kn; omega⟩
    · obtain ⟨_, _, z1, z2, z3, z4⟩ := hnm k hk
      obtain ⟨_, _, y1, y2, y3, y4⟩ := hnm j hj
      show n j ≠ m k ∧ m j ≠ m k
      rcases Nat.lt_or_ge j k with h | h
      · have w := L_mono Lm (show j + 1 ≤ k by omega)
        exact ⟨by omega, by omega⟩
      · have w := L_mono Lm (show k + 1 ≤ j by omega)
        exact ⟨by omega, by omega⟩
    · obtain ⟨_, _, z1, z2⟩ := hq i hi
      have w1 := L_mono Lm' (Nat.zero_le i)
      have w2 := L_mono Lm' (show i + 1 ≤ s by omega)
      exact ⟨by show si < q i; omega, by show q i ≠ S6.length; omega⟩
  have ti : TI s kind ⟨tp, tm, a0, ca, n, m, kn, si, S6.length, q⟩ 0 (S6 ++ [O.lst [.int 0, .int 0, .int 0, .int 0]]) := by
    refine ⟨R0 kind s rs, T0 kind s rs, fun _ => 0, gr0, gt0, fun e => ?_, fun l => ?_, fun l => ?_, fun _ _ _ _ => Int.le_refl _, ((T5.ap a6).ap a7), a7 _ _ (a6 _ _ t5), a7 _ _ (a6 _ _ c5), fun k hk => ?_, a7 _ _ (a6 _ _ g5), a7 _ _ g6, fun i hi => a7 _ _ (hq i hi).2.1, new_at _ _⟩
    · have e' := of_decide_eq_true e
      unfold R0 T0
      by_cases h0 : kind = 0
      · rw [if_pos h0, if_neg (by omega)]
      · rw [if_neg h0, if_pos (by omega)]
    · by_cases h0 : kind = 0
      · unfold R0 T0
        rw [if_pos h0, if_neg (by omega)]
        exact List.prefix_refl _
      · unfold T0
        rw [if_neg h0, row_nil]
        exact List.nil_prefix
    · unfold R0
      split
      · rw [row_nil]
        exact Nat.zero_le _
      · have := grs.row hs l
        exact (hr _ _ this).len
    · have h := (hnm k hk).2.1
      exact ⟨a7 _ _ (a6 _ _ (a5 _ _ h.1)), a7 _ _ (a6 _ _ (a5 _ _ h.2.1)), h.2.2⟩
  refine turns (p := ⟨tp, tm, a0, ca, n, m, kn, si, S6.length, q⟩) hs hs4 po ti fun env S' => ?_
  rw [QS_nx]
  simp only [w_ret, w_c]
  exact hN S'
theorem law_true (ns : List Int) (hl : ns.length ≤ 63) : ∃ S', f_law [.ref 0] [.ro (ns.map D.int)] = some (.bl true, S') := by
  have : W (f_law [.ref 0] [.ro (ns.map D.int)]) fun d _ => d = .bl true := by
    refine w_fn rfl ?_
    show W (b_law (e22 none none none none none none none) _) _
    unfold b_law
    rw [w_seq]
    simp only [w_asg, w_call, w_acons, w_anil, w_ev, List.getElem?_cons_zero]
    refine (tape_ok hl).mono ?_
    rintro d S0 ⟨tp, tm, rfl, T0⟩
    simp only [w_gnm, List.set_cons_succ, List.set_cons_zero, QS_nx]
    rw [w_seq]
    simp only [w_asg, w_call, w_acons, w_anil, w_ev, List.getElem?_cons_succ, List.getElem?_cons_zero, w_bin, w_lst, w_c, W_some]
    refine ⟨by show 3 ≤ 10000000; decide, ?_⟩
    have a1 : Ap S0 (S0 ++ [O.lst [.int 1, .int 2, .int 4]]) := Ap.app _ _
    refine W_take (T0.ap a1) (by decide) (by decide) fun z S1 p0 p1 k1 T1 l1 => ?_
    have t0 := T0.lt
    have t1 := T0.ltm
    have g1 := k1 _ _ (by omega) (new_at _ _)
    refine w_ixr (getL_of g1) p0 p1 fun d hd => ?_
    have ⟨s, es, hs, hs4⟩ : ∃ s : Nat, d = .int s ∧ 0 < s ∧ s ≤ 4 := by
      simp only [List.mem_cons, List.mem_singleton, List.not_mem_nil, or_false] at hd
      rcases hd with rfl | rfl | rfl
      · exact ⟨1, rfl, by omega, by omega⟩
      · exact ⟨2, rfl, by omega, by omega⟩
      · exact ⟨4, rfl, by omega, by omega⟩
    subst es
    rw [List.length_append] at l1
    simp only [w_gnm, List.set_cons_succ, List.set_cons_zero, QS_nx]
    rw [w_seq]
    simp only [w_asg, w_lst, w_anil, W_some, w_gnm, List.set_cons_succ, List.set_cons_zero, QS_nx]
    refine ⟨Nat.zero_le _, ?_⟩
    rw [w_seq]
    have a2 : Ap S1 (S1 ++ [O.lst []]) := Ap.app _ _
    refine rows_ok hs hs4 (T1.ap a2) (by omega) (by omega) (new_at _ _) fun x4 x5 x6 x7 rs S' t g l r _ => ?_
    rw [QS_nx]
    exact rest_ok hs hs4 t (by omega) (by omega) g l r fun S' => rfl
  obtain ⟨d, S', e, rfl⟩ := this
  exact ⟨S', e⟩
end
end K51
namespace K51
open PySem PySem.Spec PyProof.Rows L2 FL
theorem walk {l : PySem.W.OpenLaw} {q : Program} {loose : List Str} {XP : (Str → Option Value) → Heap → Prop} {YP : World → Heap → Prop} {d : DefRec} {K : Params → PySem.W.Frag} (hn : l.most = some 63) (hdf : d.params.defaults = [])
    (hY : ∀ (w : World) (h : Heap), YP w h → (K w.params).In h)
    (F : ∀ (w : World) (mg : Str → Option Value) (fa : Addr) (h : Heap), (K w.params).In h → h.Ns mainGlobals mg → mg d.name = some (.ref fa) →
      ∃ fd : FuncData, (∀ (s : Shared) (u : Value), BindsTo s fd ⟨[u], []⟩ [("script", u)]) ∧ ∀ base : Heap, (K w.params).In base → base.Ns mainGlobals mg → FnOk l.prog w (K w.params) mg base CX0 5 fa fd ["script"] (spF ⟨K w.params, ctK (K w.params)⟩ 1 f_law)) :
    PySem.W.WalkO q loose XP YP l.row.toRowW d [] (fun f vs => PySem.call f vs) :=
  L2.walk_of (n := 63) (k := 5) (x := "script") (CX := fun _ => CX0) (sp := fun w => spF ⟨K w.params, ctK (K w.params)⟩ 1 f_law) hn (by decide) hdf ⟨rfl, by decide, by decide⟩ hY F (fun w H a ns hl hO hS => end_red (law_true ns hl) hO hS) fun _ _ _ _ _ z => z
end K51
open PySem PySem.W PyProof.Rows in
set_option maxRecDepth 100000 in
set_option maxHeartbeats 0 in
theorem PySem.Challenge.cw_nocyclemore_k51_whole_caches_with_more_w_holds : PySem.Challenge.rw_nocyclemore_k51_whole_caches_with_more_w.Holds := by
  w_on; o_law; k_head; (case hw => w_witness2)
  k_fill
  refine K51.walk (l := PySem.Challenge.rw_nocyclemore_k51_whole_caches_with_more_w) rfl rfl (fun w h Y => PySem.W.kIn_of Y) ?F
  case F =>
    intro w mg fa h KX G hmg
    refine' K51.all_mk KX G hmg ?aC_Cache ?pg_Cache ?hd_Cache ?po_Cache ?sa_Cache ?mk_Cache ?kc_Cache ?nF_Cache_policy ?nF_Cache_rows ?nF_Cache_sets ?nF_Cache_ways ?a0 ?l0 ?c0 ?k0 ?a1 ?i1 ?l1 ?c1 ?k1 ?a2 ?l2 ?c2 ?k2 ?a3 ?l3 ?c3 ?k3 ?a4 ?l4 ?c4 ?k4 ?a5 ?l5 ?c5 ?k5 ?a6 ?l6 ?c6 ?k6 ?a7 ?l7 ?c7 ?k7 ?a8 ?i8 ?l8 ?c8 ?k8 ?a9 ?l9 ?c9 ?k9 ?a10 ?l10 ?c10 ?k10 ?a11 ?i11 ?l11 ?c11 ?k11 ?a12 ?l12 ?c12 ?k12 ?a13 ?l13 ?c13 ?k13 ?a14 ?l14 ?c14 ?k14 ?a15 ?l15 ?c15 ?k15 ?a16 ?i16 ?l16 ?c16 ?k16 ?a17 ?l17 ?c17 ?k17 ?a18 ?l18 ?c18 ?k18 ?z_abs ?z_any ?z_dict ?z_enumerate ?z_int ?z_len ?z_list ?z_range ?z_sorted ?z_tuple
    (case aC_Cache => k_is)
    (case pg_Cache => k_is)
    (case hd_Cache => k_is)
    (case po_Cache => k_is)
    (case sa_Cache => k_is)
    (case mk_Cache => k_is)
    (case kc_Cache => k_is)
    (case nF_Cache_policy => k_is)
    (case nF_Cache_rows => k_is)
    (case nF_Cache_sets => k_is)
    (case nF_Cache_ways => k_is)
    (case a0 => k_is)
    (case l0 => k_is)
    (case c0 => k_is)
    (case k0 => k_is)
    (case a1 => k_is)
    (case i1 => k_is)
    (case l1 => k_is)
    (case c1 => k_is)
    (case k1 => k_is)
    (case a2 => k_is)
    (case l2 => k_is)
    (case c2 => k_is)
    (case k2 => k_is)
    (case a3 => k_is)
    (case l3 => k_is)
    (case c3 => k_is)
    (case k3 => k_is)
    (case a4 => k_is)
    (case l4 => k_is)
    (case c4 => k_is)
    (case k4 => k_is)
    (case a5 => k_is)
    (case l5 => k_is)
    (case c5 => k_is)
    (case k5 => k_is)
    (case a6 => k_is)
    (case l6 => k_is)
    (case c6 => k_is)
    (case k6 => k_is)
    (case a7 => k_is)
    (case l7 => k_is)
    (case c7 => k_is)
    (case k7 => k_is)
    (case a8 => k_is)
    (case i8 => k_is)
    (case l8 => k_is)
    (case c8 => k_is)
    (case k8 => k_is)
    (case a9 => k_is)
    (case l9 => k_is)
    (case c9 => k_is)
    (case k9 => k_is)
    (case a10 => k_is)
    (case l10 => k_is)
    (case c10 => k_is)
    (case k10 => k_is)
    (case a11 => k_is)
    (case i11 => k_is)
    (case l11 => k_is)
    (case c11 => k_is)
    (case k11 => k_is)
    (case a12 => k_is)
    (case l12 => k_is)
    (case c12 => k_is)
    (case k12 => k_is)
    (case a13 => k_is)
    (case l13 => k_is)
    (case c13 => k_is)
    (case k13 => k_is)
    (case a14 => k_is)
    (case l14 => k_is)
    (case c14 => k_is)
    (case k14 => k_is)
    (case a15 => k_is)
    (case l15 => k_is)
    (case c15 => k_is)
    (case k15 => k_is)
    (case a16 => k_is)
    (case i16 => k_is)
    (case l16 => k_is)
    (case c16 => k_is)
    (case k16 => k_is)
    (case a17 => k_is)
    (case l17 => k_is)
    (case c17 => k_is)
    (case k17 => k_is)
    (case a18 => k_is)
    (case l18 => k_is)
    (case c18 => k_is)
    (case k18 => k_is)
    (case z_abs => k_is)
    (case z_any => k_is)
    (case z_dict => k_is)
    (case z_enumerate => k_is)
    (case z_int => k_is)
    (case z_len => k_is)
    (case z_list => k_is)
    (case z_range => k_is)
    (case z_sorted => k_is)
    (case z_tuple => k_is)
