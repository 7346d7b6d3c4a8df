import PyProof.Rows.All
import Wide.All
import OpenK.AllK
import Wide.FinOn
import HandS.ForMost
import HandS.TupAny
import HandS.Wide
import HandS.WideMore
import HandS.Flow
import HandS.Small
import HandS.SortInts
import HandS.WordsDict
import HandS.RaiseMore
import HandS.More
import HandS.Iter
import HandS.Text
import HandS.DictComp
import HandS.Style
import HandS.Zip
import HandS.Ends
import HandS.EndOwn
import HandS.SetFor
import HandS.Strs
import HandS.DictTup
import HandS.SortRule
import KE.KDictPairs
import KE.GoesEnum
import HandS.TupMul
import PyProof.Rows.SortShell
import HandS.SortOrd
import PySem.Challenge.RW_nocyclemore_k50_whole_caches_set_by_set
set_option Elab.async false
set_option linter.all false
set_option maxRecDepth 100000
set_option autoImplicit false
set_option maxHeartbeats 8000000
/-! FL0: tuples whose object is known to have no dict: the rules that make them. -/
namespace FL
open PySem PySem.Spec PyProof.Rows L2
/-- a tuple whose object is at hand and has no dict -/
def TupP (K : PySem.W.Frag) (H : Hp) (a : Addr) (xs : List V) : Prop :=
  (∃ o, H a = some (.frz o (.tup xs)) ∧ o.dict = none) ∨ ∃ (o : Obj) (its : Array Value) (n : Nat), K.lookup a = some o ∧ o.cls = .type "tuple" ∧ o.dict = none ∧ o.data = .seq its n ∧ its.size ≤ sizeLine ∧ Vals xs its.toList
theorem TupP.sq {K : PySem.W.Frag} {H : Hp} {a : Addr} {xs : List V} (h : TupP K H a xs) : SqT K H a xs :=
  h.elim (fun ⟨o, h, _⟩ => .inl (.inr ⟨o, h⟩)) fun ⟨o, its, n, h1, h2, _, h4⟩ => .inr ⟨o, its, n, h1, h2, h4⟩
def newT (its : List Value) : Obj := { cls := .type "tuple", data := .seq its.toArray }
section
variable {X : Cx} {pins : List (Addr × Obj)} {σ : L2.St} {H : Hp} {s : Shared}
theorem lay_tup {xs : List V} {its : List Value} (I : Inv X pins σ H s) (hz : xs.length ≤ sizeLine) (r : Vals xs its) :
    Inv X pins σ (upd H s.heap.objs.size (.frz (newT its) (.tup xs))) { s with heap := s.heap.push (newT its) } :=
  I.laid (t' := s.toks) (o := .frz (newT its) (.tup xs)) (fun b u e => Heap.get?_push_of_some _ e) (Nat.le_refl _) ⟨Heap.get?_push_size _ rfl, hz, its, r, IsTup.new _ _⟩
/-- what is asked of a place for the new tuple xs -/
def NewT (H : Hp) (xs : List V) (Q : VK) : Prop := ∀ (p : Addr) (o : Obj), H p = none → o.dict = none → Q (.ref p) (upd H p (.frz o (.tup xs)))
theorem NewT.go {xs : List V} {its : List Value} {Q : VK} (h : NewT H xs Q) (I : Inv X pins σ H s) (hz : xs.length ≤ sizeLine) (r : Vals xs its) : EP X pins σ Q (.ref s.heap.objs.size) { s with heap := s.heap.push (newT its) } :=
  ⟨.ref s.heap.objs.size, _, lay_tup I hz r, rfl, h _ _ (I.hok.fresh (Nat.le_refl _)) rfl⟩
def tTupF (t : TA) : TE := fun σ H Q => t σ H fun xs H1 => xs.length ≤ sizeLine ∧ NewT H1 xs Q
theorem pe_tupF {es : List Expr} {t : TA} {k : Nat} {pos : Pos} (h : PA X es t) : PE X (.Tuple es k pos) (tTupF t) := by
  refine ⟨fun pins s σ H Q I hq => ?_⟩
  refine wpAny_Tuple_spliced (thn (h.run pos pins s σ H _ I hq) fun us s1 ⟨xs, H1, I1, r, z, q⟩ => ⟨by rw [← r.length]; exact z, ?_⟩)
  exact q.go I1 z r
def rCatF (K : PySem.W.Frag) : R2 := fun x y H Q => ∃ a b xs ys, x = .ref a ∧ y = .ref b ∧ SqT K H a xs ∧ SqT K H b ys ∧ xs.length + ys.length ≤ sizeLine ∧ (xs = [] → Q (.ref b) H) ∧ (xs ≠ [] → ys = [] → Q (.ref a) H) ∧ (xs ≠ [] → ys ≠ [] → NewT H (xs ++ ys) Q)
theorem op_catF : OpR X (binaryOp .Add) (rCatF X.K) := by
  intro pins s σ H x y v u Q I rx ry h
  obtain ⟨a, b, xs, ys, rfl, rfl, ha, hb, hz, q0, q1, q2⟩ := h
  cases rx
  cases ry
  obtain ⟨i1, r1, p1, _⟩ := I.tuple ha
  obtain ⟨i2, r2, p2, _⟩ := I.tuple hb
  by_cases hx : xs = []
  · subst hx
    cases r1
    exact cat_tup0 p1 p2 ⟨.ref b, H, I, rfl, q0 rfl⟩
  · refine HT.cat_tup p1 p2 (fun z => hx (r1.nil_iff.mp z)) (fun z => ⟨.ref a, H, I, rfl, q1 hx (r2.nil_iff.mp z)⟩) (fun z => ?_) (by rw [← r1.length, ← r2.length]; exact hz)
    exact (q2 hx fun w => z (r2.nil_iff.mpr w)).go I (by rw [List.length_append]; exact hz) (r1.append r2)
def rSlF (K : PySem.W.Frag) : V → Option Int → Option Int → Hp → VK → Prop := fun x lo hi H Q => ∃ a xs, x = .ref a ∧ SqT K H a xs ∧
  (HT.sIx xs.length 0 lo = 0 ∧ HT.sIx xs.length xs.length hi = xs.length → Q (.ref a) H) ∧ (¬ (HT.sIx xs.length 0 lo = 0 ∧ HT.sIx xs.length xs.length hi = xs.length) → NewT H (cutV xs lo hi) Q)
theorem sl_tupF : SlR X (rSlF X.K) := by
  intro pins s σ H x v vl vu lo hi sl Q I rx hs pl pu h
  obtain ⟨a, xs, rfl, hx, q1, q2⟩ := h
  cases rx
  obtain ⟨its, r, ht, hz⟩ := I.tuple hx
  have same : its.toArray.size = xs.length := by rw [List.size_toArray]; exact r.length.symm
  refine ⟨"tuple", _, PyProof.Rows.slot_tuple_getitem.lookup, ht.typeIs, ?_⟩
  by_cases hw : HT.sIx xs.length 0 lo = 0 ∧ HT.sIx xs.length xs.length hi = xs.length
  · exact getItem_tuple_whole ht hs pl pu (by rw [same]; exact hw) ⟨.ref a, H, I, rfl, q1 hw⟩
  · refine HT.getItem_tuple_cut ht hs pl pu (by rw [same]; exact hw) ?_ (by rw [same]; exact hz)
    rw [same]
    exact (q2 hw).go I (Nat.le_trans (cutV_length xs lo hi) hz) ((r.drop _).take _)
theorem call_tupF : CallR X (.type "tuple") (fun xs H Q => ∃ p ys, xs = [.ref p] ∧ ((SqL X.K H p ys ∧ NewT H ys Q) ∨ (SqT X.K H p ys ∧ Q (.ref p) H))) := by
  intro pins s σ H xs us Q I r h
  obtain ⟨p, ys, rfl, h⟩ := h
  obtain ⟨u, rfl, rx⟩ := vals1 r
  cases rx
  rcases h with ⟨hq, q⟩ | ⟨hq, q⟩
  · obtain ⟨its, rv, pl, hz⟩ := I.list hq
    have hlen := rv.length
    refine call_tuple_list pl.isList (fun h2 kp => ?_) (by simp only [List.size_toArray] <;> omega)
    have I1 : Inv X pins σ H { s with heap := h2 } := I.kept (t' := s.toks) kp
    exact q.go I1 hz rv
  · obtain ⟨its, rv, pl, hz⟩ := I.tuple hq
    exact call_tuple_same pl ⟨.ref p, H, I, rfl, q⟩
end
end FL
/-! FL1: a functional layer over the hand layer: data (D), stores (Sto), how they stand in the abstract heap. -/
namespace FL
open PySem PySem.Spec PyProof.Rows L2

/-- data: tuples by value, what can change by its place in the store; pr: a tuple that a loop has just made, to be taken apart -/
inductive D where
  | non | bl (b : Bool) | int (i : Int) | str (x : Str) | tup (ds : List D) | ref (n : Nat) | pr (ds : List D)
/-- what stands at a place of the store; ro: a list that is read alone; lck: a dict that a loop walks -/
inductive O where
  | lst (ds : List D) | ro (ds : List D) | dic (kvs : List (Key × D)) | lck (kvs : List (Key × D)) | ins (k : Str) (fs : List (Str × D)) | gone
abbrev Sto := List O
abbrev Env := List (Option D)
structure FC where
  K : PySem.W.Frag
  ct : Str → Addr

mutual
def Rep (c : FC) (μ : List Addr) (H : Hp) : D → V → Prop
  | .non, v => v = .non
  | .bl b, v => v = .bl b
  | .int i, v => v = .int i
  | .str x, v => v = .str x
  | .tup ds, v => ∃ a xs, v = .ref a ∧ TupP c.K H a xs ∧ Reps c μ H ds xs
  | .pr ds, v => ∃ a xs, v = .ref a ∧ SqT c.K H a xs ∧ Reps c μ H ds xs
  | .ref n, v => ∃ a, μ[n]? = some a ∧ v = .ref a
def Reps (c : FC) (μ : List Addr) (H : Hp) : List D → List V → Prop
  | [], xs => xs = []
  | d :: ds, xs => ∃ v vs, xs = v :: vs ∧ Rep c μ H d v ∧ Reps c μ H ds vs
end

def RepKV {κ : Type} (c : FC) (μ : List Addr) (H : Hp) (kvs : List (κ × D)) (ys : List (κ × V)) : Prop := kvs.map (·.1) = ys.map (·.1) ∧ Reps c μ H (kvs.map (·.2)) (ys.map (·.2))

def RepO (c : FC) (μ : List Addr) (H : Hp) (a : Addr) : O → Prop
  | .lst ds => ∃ xs, H a = some (.lst xs) ∧ Reps c μ H ds xs
  | .ro ds => ∃ xs, ((∃ o, H a = some (.frz o (.lst xs))) ∨ (∃ (o : Obj) (its : Array Value) (n : Nat), c.K.lookup a = some o ∧ o.cls = .type "list" ∧ o.dict = none ∧ o.data = .seq its n ∧ its.size ≤ sizeLine ∧ Vals xs its.toList)) ∧ Reps c μ H ds xs
  | .dic kvs => ∃ ys, H a = some (.dK ys) ∧ RepKV c μ H kvs ys
  | .lck kvs => ∃ o ys, H a = some (.frz o (.dK ys)) ∧ RepKV c μ H kvs ys
  | .ins k fs => ∃ dx ys, H a = some (.ins (c.ct k) dx ys) ∧ RepKV c μ H fs ys
  | .gone => True

/-- objects whose place is theirs alone -/
def own : O → Bool
  | .ro _ => false
  | .gone => false
  | _ => true

structure Ext (c : FC) (μ : List Addr) (H : Hp) (μ' : List Addr) (H' : Hp) : Prop where
  pre : ∀ (n : Nat) (a : Addr), μ[n]? = some a → μ'[n]? = some a
  tup : ∀ (a : Addr) (xs : List V), SqT c.K H a xs → SqT c.K H' a xs
  frz : ∀ (a : Addr) (o : Obj) (u : HO), H a = some (.frz o u) → H' a = some (.frz o u)
theorem Ext.refl {c : FC} {μ : List Addr} {H : Hp} : Ext c μ H μ H := ⟨fun _ _ h => h, fun _ _ h => h, fun _ _ _ h => h⟩
theorem Ext.trans {c : FC} {μ μ1 μ2 : List Addr} {H H1 H2 : Hp} (a : Ext c μ H μ1 H1) (b : Ext c μ1 H1 μ2 H2) : Ext c μ H μ2 H2 :=
  ⟨fun n x h => b.pre n x (a.pre n x h), fun p xs h => b.tup p xs (a.tup p xs h), fun p o u h => b.frz p o u (a.frz p o u h)⟩

theorem TupP.mono {c : FC} {μ μ' : List Addr} {H H' : Hp} {a : Addr} {xs : List V} (e : Ext c μ H μ' H') (h : TupP c.K H a xs) : TupP c.K H' a xs := h.imp (fun ⟨o, h, d⟩ => ⟨o, e.frz _ _ _ h, d⟩) id
mutual
theorem Rep.mono {c : FC} {μ μ' : List Addr} {H H' : Hp} (e : Ext c μ H μ' H') : ∀ (d : D) (v : V), Rep c μ H d v → Rep c μ' H' d v
  | .non, _, h => h
  | .bl _, _, h => h
  | .int _, _, h => h
  | .str _, _, h => h
  | .tup ds, v, h => by
    obtain ⟨a, xs, ev, hs, hr⟩ := h
    exact ⟨a, xs, ev, hs.mono e, Reps.mono e ds xs hr⟩
  | .pr ds, v, h => by
    obtain ⟨a, xs, ev, hs, hr⟩ := h
    exact ⟨a, xs, ev, e.tup a xs hs, Reps.mono e ds xs hr⟩
  | .ref n, v, h => by
    obtain ⟨a, ha, ev⟩ := h
    exact ⟨a, e.pre n a ha, ev⟩
theorem Reps.mono {c : FC} {μ μ' : List Addr} {H H' : Hp} (e : Ext c μ H μ' H') : ∀ (ds : List D) (xs : List V), Reps c μ H ds xs → Reps c μ' H' ds xs
  | [], _, h => h
  | d :: ds, _, h => by
    obtain ⟨v, vs, ev, h1, h2⟩ := h
    exact ⟨v, vs, ev, Rep.mono e d v h1, Reps.mono e ds vs h2⟩
end

theorem Reps.len {c : FC} {μ : List Addr} {H : Hp} : ∀ {ds : List D} {xs : List V}, Reps c μ H ds xs → xs.length = ds.length
  | [], _, h => by
    have e : _ = [] := h
    rw [e]
    rfl
  | d :: ds, _, h => by
    obtain ⟨v, vs, ev, _, h2⟩ := h
    rw [ev, List.length_cons, List.length_cons, Reps.len h2]
theorem Reps.get {c : FC} {μ : List Addr} {H : Hp} : ∀ {ds : List D} {xs : List V} {i : Nat} {d : D}, Reps c μ H ds xs → ds[i]? = some d → ∃ v, xs[i]? = some v ∧ Rep c μ H d v
  | [], _, _, _, _, e => by simp at e
  | x :: ds, _, 0, d, h, e => by
    obtain ⟨v, vs, ev, h1, _⟩ := h
    have e' : x = d := by simpa using e
    subst e'
    exact ⟨v, by rw [ev]; rfl, h1⟩
  | x :: ds, _, i + 1, d, h, e => by
    obtain ⟨v, vs, ev, _, h2⟩ := h
    obtain ⟨w, e1, e2⟩ := Reps.get (i := i) h2 (by simpa using e)
    exact ⟨w, by rw [ev]; simpa using e1, e2⟩
theorem Reps.app {c : FC} {μ : List Addr} {H : Hp} : ∀ {ds es : List D} {xs ys : List V}, Reps c μ H ds xs → Reps c μ H es ys → Reps c μ H (ds ++ es) (xs ++ ys)
  | [], _, _, _, h, k => by
    have e : _ = [] := h
    rw [e]
    exact k
  | d :: ds, _, _, _, h, k => by
    obtain ⟨v, vs, ev, h1, h2⟩ := h
    exact ⟨v, vs ++ _, by rw [ev]; rfl, h1, Reps.app h2 k⟩
theorem Reps.one {c : FC} {μ : List Addr} {H : Hp} {d : D} {v : V} (h : Rep c μ H d v) : Reps c μ H [d] [v] := ⟨v, [], rfl, h, rfl⟩
theorem Reps.drop {c : FC} {μ : List Addr} {H : Hp} : ∀ (n : Nat) {ds : List D} {xs : List V}, Reps c μ H ds xs → Reps c μ H (ds.drop n) (xs.drop n)
  | 0, _, _, h => h
  | n + 1, [], _, h => by
    have e : _ = [] := h
    rw [e]
    exact rfl
  | n + 1, d :: ds, _, h => by
    obtain ⟨v, vs, ev, _, h2⟩ := h
    rw [ev]
    exact Reps.drop n h2
theorem Reps.take {c : FC} {μ : List Addr} {H : Hp} : ∀ (n : Nat) {ds : List D} {xs : List V}, Reps c μ H ds xs → Reps c μ H (ds.take n) (xs.take n)
  | 0, _, _, _ => by
    rw [List.take_zero, List.take_zero]
    exact rfl
  | n + 1, [], _, h => by
    have e : _ = [] := h
    rw [e]
    exact rfl
  | n + 1, d :: ds, _, h => by
    obtain ⟨v, vs, ev, h1, h2⟩ := h
    rw [ev]
    exact ⟨v, vs.take n, rfl, h1, Reps.take n h2⟩
theorem Reps.set {c : FC} {μ : List Addr} {H : Hp} {d : D} {v : V} (hd : Rep c μ H d v) : ∀ (n : Nat) {ds : List D} {xs : List V}, Reps c μ H ds xs → Reps c μ H (ds.set n d) (xs.set n v)
  | _, [], _, h => by
    have e : _ = [] := h
    rw [e]
    exact rfl
  | 0, x :: ds, _, h => by
    obtain ⟨w, vs, ev, _, h2⟩ := h
    rw [ev]
    exact ⟨v, vs, rfl, hd, h2⟩
  | n + 1, x :: ds, _, h => by
    obtain ⟨w, vs, ev, h1, h2⟩ := h
    rw [ev]
    exact ⟨w, vs.set n v, rfl, h1, Reps.set hd n h2⟩
theorem Reps.rev {c : FC} {μ : List Addr} {H : Hp} : ∀ {ds : List D} {xs : List V}, Reps c μ H ds xs → Reps c μ H ds.reverse xs.reverse
  | [], _, h => by
    have e : _ = [] := h
    rw [e]
    exact rfl
  | d :: ds, _, h => by
    obtain ⟨v, vs, ev, h1, h2⟩ := h
    rw [ev, List.reverse_cons, List.reverse_cons]
    exact Reps.app (Reps.rev h2) (Reps.one h1)
theorem Reps.dropLast {c : FC} {μ : List Addr} {H : Hp} : ∀ {ds : List D} {xs : List V}, Reps c μ H ds xs → Reps c μ H ds.dropLast xs.dropLast := fun {ds xs} h => by
  rw [List.dropLast_eq_take, List.dropLast_eq_take, Reps.len h]
  exact Reps.take _ h
theorem Reps.erase {c : FC} {μ : List Addr} {H : Hp} : ∀ (n : Nat) {ds : List D} {xs : List V}, Reps c μ H ds xs → Reps c μ H (ds.eraseIdx n) (xs.eraseIdx n)
  | _, [], _, h => by
    have e : _ = [] := h
    rw [e]
    exact rfl
  | 0, x :: ds, _, h => by
    obtain ⟨w, vs, ev, _, h2⟩ := h
    rw [ev]
    exact h2
  | n + 1, x :: ds, _, h => by
    obtain ⟨w, vs, ev, h1, h2⟩ := h
    rw [ev]
    exact ⟨w, vs.eraseIdx n, rfl, h1, Reps.erase n h2⟩

structure StoOk (c : FC) (μ : List Addr) (S : Sto) (H : Hp) : Prop where
  len : μ.length = S.length
  stands : ∀ (n : Nat) (o : O), S[n]? = some o → ∃ a, μ[n]? = some a ∧ RepO c μ H a o
  inj : ∀ (n m : Nat) (a : Addr) (o o' : O), S[n]? = some o → S[m]? = some o' → own o = true → own o' = true → μ[n]? = some a → μ[m]? = some a → n = m
def EnvOk (c : FC) (μ : List Addr) (H : Hp) (env : Env) (σ : L2.St) : Prop := env.length = σ.length ∧ ∀ (i : Nat) (d : D), env[i]? = some (some d) → ∃ v, σ[i]? = some (some v) ∧ Rep c μ H d v

theorem RepKV.mono {κ : Type} {c : FC} {μ μ' : List Addr} {H H' : Hp} {kvs : List (κ × D)} {ys : List (κ × V)} (e : Ext c μ H μ' H') (h : RepKV c μ H kvs ys) : RepKV c μ' H' kvs ys := ⟨h.1, Reps.mono e _ _ h.2⟩
/-- an object stays where its place stays and tuples do -/
theorem RepO.mono {c : FC} {μ μ' : List Addr} {H H' : Hp} {a : Addr} (e : Ext c μ H μ' H') : ∀ {o : O}, (∀ u, H a = some u → H' a = some u) → RepO c μ H a o → RepO c μ' H' a o
  | .lst _, k, ⟨xs, h, r⟩ => ⟨xs, k _ h, Reps.mono e _ _ r⟩
  | .ro _, k, ⟨xs, h, r⟩ => ⟨xs, h.imp (fun ⟨o, q⟩ => ⟨o, k _ q⟩) id, Reps.mono e _ _ r⟩
  | .dic _, k, ⟨ys, h, r⟩ => ⟨ys, k _ h, r.mono e⟩
  | .lck _, k, ⟨o, ys, h, r⟩ => ⟨o, ys, k _ h, r.mono e⟩
  | .ins _ _, k, ⟨dx, ys, h, r⟩ => ⟨dx, ys, k _ h, r.mono e⟩
  | .gone, _, _ => trivial
theorem EnvOk.mono {c : FC} {μ μ' : List Addr} {H H' : Hp} {env : Env} {σ : L2.St} (e : Ext c μ H μ' H') (h : EnvOk c μ H env σ) : EnvOk c μ' H' env σ :=
  ⟨h.1, fun i d q => let ⟨v, h1, h2⟩ := h.2 i d q; ⟨v, h1, Rep.mono e d v h2⟩⟩
theorem EnvOk.set {c : FC} {μ : List Addr} {H : Hp} {env : Env} {σ : L2.St} {d : D} {v : V} (i : Nat) (h : EnvOk c μ H env σ) (r : Rep c μ H d v) : EnvOk c μ H (env.set i (some d)) (σ.set i (some v)) := by
  refine ⟨by rw [List.length_set, List.length_set, h.1], fun j e q => ?_⟩
  by_cases hj : i = j
  · subst hj
    by_cases hl : i < env.length
    · rw [List.getElem?_set_self hl] at q
      have q' : d = e := Option.some.inj (Option.some.inj q)
      subst q'
      exact ⟨v, List.getElem?_set_self (by rw [← h.1]; exact hl), r⟩
    · rw [List.getElem?_eq_none (by rw [List.length_set]; omega)] at q
      cases q
  · rw [List.getElem?_set_ne hj] at q ⊢
    exact h.2 j e q

theorem sqT_upd {K : PySem.W.Frag} {H : Hp} {p : Addr} {u : HO} (h : H p = none ∨ ∃ w, H p = some w ∧ Mut (some w)) {a : Addr} {xs : List V} (q : SqT K H a xs) : SqT K (upd H p u) a xs := by
  rcases q with q | q
  · have ne : ∀ w, H a = some w → ¬ Mut (some w) → a ≠ p := fun w e nm z => by
      rw [← z] at h
      rcases h with h | ⟨w', h, m⟩
      · rw [h] at e; cases e
      · rw [h] at e; cases e; exact nm m
    rcases q with q | ⟨o, q⟩
    · exact .inl (.inl (by rw [upd_ne (ne _ q fun z => z)]; exact q))
    · exact .inl (.inr ⟨o, by rw [upd_ne (ne _ q fun z => z)]; exact q⟩)
  · exact .inr q
theorem frz_upd {H : Hp} {p : Addr} {u : HO} (h : H p = none ∨ ∃ w, H p = some w ∧ Mut (some w)) {a : Addr} {o : Obj} {v : HO} (q : H a = some (.frz o v)) : (upd H p u) a = some (.frz o v) := by
  rw [upd_ne]
  · exact q
  · intro z
    rw [← z] at h
    rcases h with h | ⟨w', h, m⟩
    · rw [h] at q; cases q
    · rw [h] at q; cases q; exact m
theorem Ext.upd {c : FC} {μ : List Addr} {H : Hp} {p : Addr} {u : HO} (h : H p = none ∨ ∃ w, H p = some w ∧ Mut (some w)) : Ext c μ H μ (upd H p u) := ⟨fun _ _ e => e, fun _ _ q => sqT_upd h q, fun _ _ _ q => frz_upd h q⟩
theorem Ext.new {c : FC} {μ : List Addr} {H : Hp} {p : Addr} {u : HO} (h : H p = none) : Ext c μ H (μ ++ [p]) (L2.upd H p u) :=
  ⟨fun n a e => by
    have hn : n < μ.length := (List.getElem?_eq_some_iff.mp e).1
    rw [List.getElem?_append_left hn]
    exact e, fun _ _ q => sqT_upd (.inl h) q, fun _ _ _ q => frz_upd (.inl h) q⟩

/-- a place with an object of its own is tracked, and not free -/
theorem RepO.tracked {c : FC} {μ : List Addr} {H : Hp} {a : Addr} : ∀ {o : O}, own o = true → RepO c μ H a o → ∃ u, H a = some u
  | .lst _, _, ⟨_, h, _⟩ => ⟨_, h⟩
  | .dic _, _, ⟨_, h, _⟩ => ⟨_, h⟩
  | .lck _, _, ⟨_, _, h, _⟩ => ⟨_, h⟩
  | .ins _ _, _, ⟨_, _, h, _⟩ => ⟨_, h⟩

theorem RepO.notRo {c : FC} {μ : List Addr} {H : Hp} {a : Addr} {ob : Obj} {xs : List V} : ∀ {o : O}, own o = true → RepO c μ H a o → ¬ H a = some (.frz ob (.lst xs))
  | .lst _, _, ⟨_, h, _⟩, q => by rw [h] at q; cases q
  | .dic _, _, ⟨_, h, _⟩, q => by rw [h] at q; cases q
  | .lck _, _, ⟨_, _, h, _⟩, q => by rw [h] at q; cases q
  | .ins _ _, _, ⟨_, _, h, _⟩, q => by rw [h] at q; cases q

/-- a tuple (nothing of the store) is made -/
theorem StoOk.same {c : FC} {μ : List Addr} {S : Sto} {H : Hp} {p : Addr} {u : HO} (h : StoOk c μ S H) (hp : H p = none) : StoOk c μ S (upd H p u) := by
  refine ⟨h.len, fun n o e => ?_, h.inj⟩
  obtain ⟨a, e1, r⟩ := h.stands n o e
  exact ⟨a, e1, r.mono (Ext.upd (.inl hp)) fun w q => by rw [upd_ne (ne_of_none q hp)]; exact q⟩
/-- a new object -/
theorem StoOk.alloc {c : FC} {μ : List Addr} {S : Sto} {H : Hp} {p : Addr} {u : HO} {o : O} (h : StoOk c μ S H) (hp : H p = none) (new : RepO c (μ ++ [p]) (upd H p u) p o) : StoOk c (μ ++ [p]) (S ++ [o]) (upd H p u) := by
  have old : ∀ n a, n < S.length → ((μ ++ [p])[n]? = some a ↔ μ[n]? = some a) := fun n a hn => by
    rw [List.getElem?_append_left (by rw [h.len]; exact hn)]
  have key : ∀ n a o', S[n]? = some o' → own o' = true → μ[n]? = some a → a ≠ p := fun n a o' e ow e1 z => by
    obtain ⟨b, e2, r⟩ := h.stands n o' e
    rw [e1] at e2
    cases e2
    obtain ⟨w, q⟩ := r.tracked ow
    rw [z, hp] at q
    cases q
  refine ⟨by simp [h.len], fun n o' e => ?_, fun n m a o1 o2 e1 e2 w1 w2 a1 a2 => ?_⟩
  · by_cases hn : n < S.length
    · rw [List.getElem?_append_left hn] at e
      obtain ⟨a, e1, r⟩ := h.stands n o' e
      exact ⟨a, (old n a hn).mpr e1, r.mono (Ext.new hp) fun w q => by rw [upd_ne (ne_of_none q hp)]; exact q⟩
    · have hlt : n < S.length + 1 := by
        have := (List.getElem?_eq_some_iff.mp e).1
        simpa using this
      have en : n = S.length := by omega
      subst en
      rw [List.getElem?_append_right (Nat.le_refl _), Nat.sub_self] at e
      have e' : o = o' := by simpa using e
      subst e'
      refine ⟨p, ?_, new⟩
      rw [← h.len, List.getElem?_append_right (Nat.le_refl _), Nat.sub_self]
      rfl
  · by_cases hn : n < S.length
    · by_cases hm : m < S.length
      · rw [List.getElem?_append_left hn] at e1
        rw [List.getElem?_append_left hm] at e2
        exact h.inj n m a o1 o2 e1 e2 w1 w2 ((old n a hn).mp a1) ((old m a hm).mp a2)
      · have em : m = S.length := by
          have := (List.getElem?_eq_some_iff.mp e2).1
          simp at this
          omega
        subst em
        rw [List.getElem?_append_left hn] at e1
        rw [← h.len, List.getElem?_append_right (Nat.le_refl _), Nat.sub_self] at a2
        have a2' : p = a := by simpa using a2
        exact absurd a2'.symm (key n a o1 e1 w1 ((old n a hn).mp a1))
    · have en : n = S.length := by
        have := (List.getElem?_eq_some_iff.mp e1).1
        simp at this
        omega
      by_cases hm : m < S.length
      · subst en
        rw [List.getElem?_append_left hm] at e2
        rw [← h.len, List.getElem?_append_right (Nat.le_refl _), Nat.sub_self] at a1
        have a1' : p = a := by simpa using a1
        exact absurd a1'.symm (key m a o2 e2 w2 ((old m a hm).mp a2))
      · have em : m = S.length := by
          have := (List.getElem?_eq_some_iff.mp e2).1
          simp at this
          omega
        omega
/-- an object changed -/
theorem StoOk.write {c : FC} {μ : List Addr} {S : Sto} {H : Hp} {n : Nat} {a : Addr} {u : HO} {o0 o : O} (h : StoOk c μ S H) (hn : S[n]? = some o0) (how : own o0 = true) (ha : μ[n]? = some a) (he : Ext c μ H μ (upd H a u)) (new : RepO c μ (upd H a u) a o) : StoOk c μ (S.set n o) (upd H a u) := by
  have hlt : n < S.length := (List.getElem?_eq_some_iff.mp hn).1
  refine ⟨by rw [List.length_set]; exact h.len, fun m o' e => ?_, fun m k b o1 o2 e1 e2 w1 w2 a1 a2 => ?_⟩
  · by_cases hk : n = m
    · subst hk
      rw [List.getElem?_set_self hlt] at e
      cases e
      exact ⟨a, ha, new⟩
    · rw [List.getElem?_set_ne hk] at e
      obtain ⟨b, e1, r⟩ := h.stands m o' e
      refine ⟨b, e1, ?_⟩
      by_cases hb : b = a
      · -- only what is read alone can stand at the same place
        subst hb
        cases hw : own o' with
        | true => exact absurd (h.inj n m b o0 o' hn e how hw ha e1) hk
        | false =>
          cases o' with
          | ro ds =>
            obtain ⟨xs, q, rr⟩ := r
            rcases q with ⟨ob, q⟩ | q
            · obtain ⟨b', e2, r2⟩ := h.stands n o0 hn
              rw [ha] at e2
              cases e2
              exact absurd q (RepO.notRo how r2)
            · exact ⟨xs, .inr q, Reps.mono he _ _ rr⟩
          | gone => trivial
          | lst _ => cases hw
          | dic _ => cases hw
          | lck _ => cases hw
          | ins _ _ => cases hw
      · exact r.mono he fun w q => by rw [upd_ne hb]; exact q
  · have back : ∀ (m : Nat) (o' : O) (b : Addr), (S.set n o)[m]? = some o' → own o' = true → μ[m]? = some b → ∃ o'', S[m]? = some o'' ∧ own o'' = true := fun m o' b e w _ => by
      by_cases hk : n = m
      · subst hk
        exact ⟨o0, hn, how⟩
      · rw [List.getElem?_set_ne hk] at e
        exact ⟨o', e, w⟩
    obtain ⟨p1, q1, v1⟩ := back m o1 b e1 w1 a1
    obtain ⟨p2, q2, v2⟩ := back k o2 b e2 w2 a2
    exact h.inj m k b p1 p2 q1 q2 v1 v2 a1 a2
end FL
/-! FL2: readings by functions: expressions, tests, argument lists, operators, calls. -/
namespace FL
open PySem PySem.Spec PyProof.Rows L2

def th {α β : Type} (r : Option (α × Sto)) (k : α → Sto → Option β) : Option β := match r with
  | some (x, S) => k x S
  | none => none
@[simp] theorem th_some {α β : Type} (x : α) (S : Sto) (k : α → Sto → Option β) : th (some (x, S)) k = k x S := rfl
@[simp] theorem th_none {α β : Type} (k : α → Sto → Option β) : th (none : Option (α × Sto)) k = none := rfl
theorem th_inv {α β : Type} {r : Option (α × Sto)} {k : α → Sto → Option β} {z : β} (h : th r k = some z) : ∃ x S, r = some (x, S) ∧ k x S = some z := by
  cases r with
  | none => cases h
  | some p => exact ⟨p.1, p.2, rfl, h⟩

abbrev FE := Env → Sto → Option (D × Sto)
abbrev FT := Env → Sto → Option (Bool × Sto)
abbrev FA := Env → Sto → Option (List D × Sto)
inductive Out where
  | nx (e : Env) | rt (d : D) | bk (e : Env) | ct (e : Env)
abbrev FS := Env → Sto → Option (Out × Sto)
abbrev FF := List D → Sto → Option (D × Sto)
abbrev F2 := D → D → Sto → Option (D × Sto)
abbrev F1 := D → Sto → Option (D × Sto)
def cap : Nat := 10000000
theorem cap_le {n : Nat} (h : n ≤ cap) : n ≤ sizeLine := by
  rw [sizeLine_eq]
  unfold cap at h
  omega

/-! ### readings -/
def After (c : FC) (μ : List Addr) (H : Hp) (S' : Sto) (d : D) (Q : VK) : Prop := ∀ (μ' : List Addr) (H' : Hp) (v : V), Ext c μ H μ' H' → StoOk c μ' S' H' → Rep c μ' H' d v → Q v H'
def tE (c : FC) (f : FE) : TE := fun σ H Q => ∃ μ env S d S', EnvOk c μ H env σ ∧ StoOk c μ S H ∧ f env S = some (d, S') ∧ After c μ H S' d Q
def tT (c : FC) (f : FT) : TT := fun σ H Q => ∃ μ env S b S', EnvOk c μ H env σ ∧ StoOk c μ S H ∧ f env S = some (b, S') ∧ ∀ μ' H', Ext c μ H μ' H' → StoOk c μ' S' H' → Q b H'
def tA (c : FC) (f : FA) : TA := fun σ H Q => ∃ μ env S ds S', EnvOk c μ H env σ ∧ StoOk c μ S H ∧ f env S = some (ds, S') ∧ ∀ μ' H' vs, Ext c μ H μ' H' → StoOk c μ' S' H' → Reps c μ' H' ds vs → Q vs H'
def r2 (c : FC) (r : F2) : R2 := fun x y H Q => ∃ μ S dx dy d S', StoOk c μ S H ∧ Rep c μ H dx x ∧ Rep c μ H dy y ∧ r dx dy S = some (d, S') ∧ After c μ H S' d Q
def r1 (c : FC) (r : F1) : V → Hp → VK → Prop := fun x H Q => ∃ μ S dx d S', StoOk c μ S H ∧ Rep c μ H dx x ∧ r dx S = some (d, S') ∧ After c μ H S' d Q
def rA (c : FC) (r : FF) : List V → Hp → VK → Prop := fun xs H Q => ∃ μ S ds d S', StoOk c μ S H ∧ Reps c μ H ds xs ∧ r ds S = some (d, S') ∧ After c μ H S' d Q
def rM (c : FC) (r : D → FF) : V → List V → Hp → VK → Prop := fun x xs H Q => ∃ μ S dx ds d S', StoOk c μ S H ∧ Rep c μ H dx x ∧ Reps c μ H ds xs ∧ r dx ds S = some (d, S') ∧ After c μ H S' d Q

theorem PE.w {X : Cx} {e : Expr} {t t' : TE} (h : PE X e t) (w : ∀ σ H Q, t' σ H Q → t σ H Q) : PE X e t' := ⟨fun pins s σ H Q I q => h.run pins s σ H Q I (w σ H Q q)⟩
theorem PT.w {X : Cx} {e : Expr} {t t' : TT} (h : PT X e t) (w : ∀ σ H Q, t' σ H Q → t σ H Q) : PT X e t' := ⟨fun pins s σ H Q I q => h.run pins s σ H Q I (w σ H Q q)⟩
theorem PW.w {X : Cx} {e : Expr} {t t' : TT} (h : PW X e t) (w : ∀ σ H Q, t' σ H Q → t σ H Q) : PW X e t' := ⟨fun wh pins s σ H Q I q => h.run wh pins s σ H Q I (w σ H Q q)⟩
theorem PA.w {X : Cx} {es : List Expr} {t t' : TA} (h : PA X es t) (w : ∀ σ H Q, t' σ H Q → t σ H Q) : PA X es t' := ⟨fun pos pins s σ H Q I q => h.run pos pins s σ H Q I (w σ H Q q)⟩
theorem OpR.w {X : Cx} {f : Value → Value → Sem Value} {r r' : R2} (h : OpR X f r) (w : ∀ x y H Q, r' x y H Q → r x y H Q) : OpR X f r' := fun pins s σ H x y v u Q I r1 r2 q => h pins s σ H x y v u Q I r1 r2 (w x y H Q q)
theorem UnR.w {X : Cx} {f : Value → Sem Value} {r r' : V → Hp → VK → Prop} (h : UnR X f r) (w : ∀ x H Q, r' x H Q → r x H Q) : UnR X f r' := fun pins s σ H x v Q I r1 q => h pins s σ H x v Q I r1 (w x H Q q)
theorem CallR.w {X : Cx} {f : Value} {r r' : List V → Hp → VK → Prop} (h : CallR X f r) (w : ∀ xs H Q, r' xs H Q → r xs H Q) : CallR X f r' := fun pins s σ H xs us Q I r1 q => h pins s σ H xs us Q I r1 (w xs H Q q)
theorem IxR.w {X : Cx} {r r' : R2} (h : IxR X r) (w : ∀ x y H Q, r' x y H Q → r x y H Q) : IxR X r' := fun va sl pins s σ H x y v u Q I r1 r2 q hs => h va sl pins s σ H x y v u Q I r1 r2 (w x y H Q q) hs
theorem MtR.w {X : Cx} {id : String} {r r' : V → List V → Hp → VK → Prop} (h : MtR X id r) (w : ∀ x xs H Q, r' x xs H Q → r x xs H Q) : MtR X id r' := fun pins s σ H x xs v us Q I r1 r2 q => h pins s σ H x xs v us Q I r1 r2 (w x xs H Q q)

theorem After.ext {c : FC} {μ μ1 : List Addr} {H H1 : Hp} {S' : Sto} {d : D} {Q : VK} (h : After c μ H S' d Q) (e : Ext c μ H μ1 H1) : After c μ1 H1 S' d Q := fun μ' H' v e' k r => h μ' H' v (e.trans e') k r
theorem After.now {c : FC} {μ : List Addr} {H : Hp} {S' : Sto} {d : D} {Q : VK} {v : V} (h : After c μ H S' d Q) (k : StoOk c μ S' H) (r : Rep c μ H d v) : Q v H := h μ H v Ext.refl k r

/-! ### names, constants -/
def eVar (i : Nat) : FE := fun env S => match env[i]? with
  | some (some d) => some (d, S)
  | _ => none
def eC (d : D) : FE := fun _ S => some (d, S)
section
variable {c : FC} {X : Cx}
theorem q_var (i : Nat) {x : Str} {pos : Pos} (hN : X.N[i]? = some x := by rfl) (hv : Vis X.env.scope x := by first | exact Or.inl rfl | exact Or.inr (Or.inl rfl) | exact Or.inr (Or.inr rfl)) (hd : (x == ("__debug__" : Str)) = false := by decide)
    (hcd : (x == ("__classdict__" : Str)) = false := by decide) : PE X (.Name x pos) (tE c (eVar i)) := by
  refine PE.w (pe_var hN hv hd hcd) fun σ H Q h => ?_
  obtain ⟨μ, env, S, d, S', he, hs, hf, ha⟩ := h
  unfold eVar at hf
  split at hf
  · rename_i d' e
    cases hf
    obtain ⟨v, e1, r⟩ := he.2 i d e
    exact ⟨v, e1, ha.now hs r⟩
  · cases hf
theorem q_con {e : Expr} {v : V} {d : D} (h : PE X e (tC v)) (r : ∀ μ H, Rep c μ H d v) : PE X e (tE c (eC d)) := by
  refine PE.w h fun σ H Q h => ?_
  obtain ⟨μ, env, S, d', S', he, hs, hf, ha⟩ := h
  have e' : (d, S) = (d', S') := Option.some.inj hf
  cases e'
  exact ha.now hs (r μ H)
theorem q_int {i : Int} {j pos} : PE X (.Constant (.int i) j pos) (tE c (eC (.int i))) := q_con pe_int fun _ _ => rfl
theorem q_bl {b : Bool} {j pos} : PE X (.Constant (.bool b) j pos) (tE c (eC (.bl b))) := q_con pe_bl fun _ _ => rfl
theorem q_non {j pos} : PE X (.Constant .none j pos) (tE c (eC .non)) := q_con pe_non fun _ _ => rfl
theorem q_str {x : Str} {j pos} : PE X (.Constant (.str x) j pos) (tE c (eC (.str x))) := q_con pe_str fun _ _ => rfl
/-- a constant of the module -/
def Cst (c : FC) (u : Value) (d : D) : Prop := ∃ v, RelV v u ∧ ∀ μ H, Rep c μ H d v
theorem q_glob {x : Str} {u : Value} {d : D} {pos : Pos} (hg : Gl X x) (hm : X.mg x = some u) (h : Cst c u d) (hd : (x == ("__debug__" : Str)) = false := by decide) : PE X (.Name x pos) (tE c (eC d)) :=
  let ⟨_, r, k⟩ := h
  q_con (pe_glob hg hm r hd) k

/-! ### two operands, one -/
def eBin (r : F2) (fa fb : FE) : FE := fun env S => th (fa env S) fun x S1 => th (fb env S1) fun y S2 => r x y S2
def eUn (r : F1) (fa : FE) : FE := fun env S => th (fa env S) fun x S1 => r x S1
variable {a b cc e : Expr} {fa fb fc : FE} {pos : Pos} {r : F2}
theorem bin_red {σ : L2.St} {H : Hp} {Q : VK} (h : tE c (eBin r fa fb) σ H Q) : tOp (r2 c r) (tE c fa) (tE c fb) σ H Q := by
  obtain ⟨μ, env, S, d, S', he, hs, hf, ha⟩ := h
  obtain ⟨x, S1, h1, hf⟩ := th_inv hf
  obtain ⟨y, S2, h2, hf⟩ := th_inv hf
  refine ⟨μ, env, S, x, S1, he, hs, h1, fun μ1 H1 v e1 k1 r1 => ?_⟩
  refine ⟨μ1, env, S1, y, S2, he.mono e1, k1, h2, fun μ2 H2 w e2 k2 q2 => ?_⟩
  exact ⟨μ2, S2, x, y, d, S', k2, Rep.mono e2 _ _ r1, q2, hf, (ha.ext e1).ext e2⟩
theorem q_bin {op : Operator} (ho : OpR X (binaryOp op) (r2 c r)) (ha : PE X a (tE c fa)) (hb : PE X b (tE c fb)) : PE X (.BinOp a op b pos) (tE c (eBin r fa fb)) := PE.w (pe_op ho ha hb) fun _ _ _ => bin_red
theorem q_cmp {op : CmpOp} (ho : OpR X (compareOp op) (r2 c r)) (ha : PE X a (tE c fa)) (hb : PE X b (tE c fb)) (hm : behindInMarks op b = false := by rfl) : PE X (.Compare a [op] [b] pos) (tE c (eBin r fa fb)) := PE.w (pe_cmpR ho ha hb hm) fun _ _ _ => bin_red
theorem q_un {op : UnaryOp} {r : F1} (ho : UnR X (unaryOp op) (r1 c r)) (ha : PE X a (tE c fa)) : PE X (.UnaryOp op a pos) (tE c (eUn r fa)) := by
  refine PE.w (pe_un ho ha) fun σ H Q h => ?_
  obtain ⟨μ, env, S, d, S', he, hs, hf, ha⟩ := h
  obtain ⟨x, S1, h1, hf⟩ := th_inv hf
  exact ⟨μ, env, S, x, S1, he, hs, h1, fun μ1 H1 v e1 k1 q1 => ⟨μ1, S1, x, d, S', k1, q1, hf, ha.ext e1⟩⟩
theorem q_ix (hr : IxR X (r2 c r)) (ha : PE X a (tE c fa)) (hb : PE X b (tE c fb)) (hs : PlainIx b := by exact fun _ _ => rfl) : PE X (.Subscript a b pos) (tE c (eBin r fa fb)) := PE.w (pe_ix hr ha hb hs) fun _ _ _ => bin_red

/-! ### argument lists, displays -/
def aNil : FA := fun _ S => some ([], S)
def aCons (fa : FE) (fr : FA) : FA := fun env S => th (fa env S) fun x S1 => th (fr env S1) fun xs S2 => some (x :: xs, S2)
def eTup (fr : FA) : FE := fun env S => th (fr env S) fun ds S1 => if ds.length ≤ cap then some (.tup ds, S1) else none
def eLst (fr : FA) : FE := fun env S => th (fr env S) fun ds S1 => if ds.length ≤ cap then some (.ref S1.length, S1 ++ [.lst ds]) else none
variable {es : List Expr} {fr : FA}
theorem q_nil : PA X [] (tA c aNil) := by
  refine PA.w pa_nil fun σ H Q h => ?_
  obtain ⟨μ, env, S, ds, S', he, hs, hf, ha⟩ := h
  have e' : (([] : List D), S) = (ds, S') := Option.some.inj hf
  cases e'
  exact ha μ H [] Ext.refl hs rfl
theorem q_cons (ha : PE X e (tE c fa)) (hr : PA X es (tA c fr)) (hs : starEach (e :: es) X.env = (false, eval e X.env) :: starEach es X.env := by rfl) : PA X (e :: es) (tA c (aCons fa fr)) := by
  refine PA.w (pa_cons ha hr hs) fun σ H Q h => ?_
  obtain ⟨μ, env, S, ds, S', he, hs, hf, ha⟩ := h
  obtain ⟨x, S1, h1, hf⟩ := th_inv hf
  obtain ⟨xs, S2, h2, hf⟩ := th_inv hf
  cases hf
  refine ⟨μ, env, S, x, S1, he, hs, h1, fun μ1 H1 v e1 k1 q1 => ?_⟩
  refine ⟨μ1, env, S1, xs, _, he.mono e1, k1, h2, fun μ2 H2 vs e2 k2 q2 => ?_⟩
  exact ha μ2 H2 (v :: vs) (e1.trans e2) k2 ⟨v, vs, rfl, Rep.mono e2 _ _ q1, q2⟩
theorem tup_new {μ : List Addr} {S : Sto} {H : Hp} {ds : List D} {vs : List V} {p : Addr} {o : Obj} (hs : StoOk c μ S H) (r : Reps c μ H ds vs) (hp : H p = none) (hd : o.dict = none) :
    Ext c μ H μ (upd H p (.frz o (.tup vs))) ∧ StoOk c μ S (upd H p (.frz o (.tup vs))) ∧ Rep c μ (upd H p (.frz o (.tup vs))) (.tup ds) (.ref p) :=
  ⟨Ext.upd (.inl hp), hs.same hp, p, vs, rfl, .inl ⟨o, upd_same, hd⟩, Reps.mono (Ext.upd (.inl hp)) _ _ r⟩
/-- a tuple that a loop makes -/
theorem pr_new {μ : List Addr} {S : Sto} {H : Hp} {ds : List D} {vs : List V} {p : Addr} (hs : StoOk c μ S H) (r : Reps c μ H ds vs) (hp : H p = none) :
    Ext c μ H μ (upd H p (.tup vs)) ∧ StoOk c μ S (upd H p (.tup vs)) ∧ Rep c μ (upd H p (.tup vs)) (.pr ds) (.ref p) :=
  ⟨Ext.upd (.inl hp), hs.same hp, p, vs, rfl, SqT.of upd_same, Reps.mono (Ext.upd (.inl hp)) _ _ r⟩
theorem lst_new {μ : List Addr} {S : Sto} {H : Hp} {ds : List D} {vs : List V} {p : Addr} (hs : StoOk c μ S H) (r : Reps c μ H ds vs) (hp : H p = none) :
    Ext c μ H (μ ++ [p]) (upd H p (.lst vs)) ∧ StoOk c (μ ++ [p]) (S ++ [.lst ds]) (upd H p (.lst vs)) ∧ Rep c (μ ++ [p]) (upd H p (.lst vs)) (.ref S.length) (.ref p) := by
  have e : Ext c μ H (μ ++ [p]) (upd H p (.lst vs)) := Ext.new hp
  refine ⟨e, hs.alloc hp ⟨vs, upd_same, Reps.mono e _ _ r⟩, p, ?_, rfl⟩
  rw [← hs.len, List.getElem?_append_right (Nat.le_refl _), Nat.sub_self]
  rfl
theorem q_tup {k : Nat} (hr : PA X es (tA c fr)) : PE X (.Tuple es k pos) (tE c (eTup fr)) := by
  refine PE.w (pe_tupF hr) fun σ H Q h => ?_
  obtain ⟨μ, env, S, d, S', he, hs, hf, ha⟩ := h
  obtain ⟨ds, S1, h1, hf⟩ := th_inv hf
  refine ⟨μ, env, S, ds, S1, he, hs, h1, fun μ1 H1 vs e1 k1 q1 => ?_⟩
  split at hf
  · rename_i hz
    cases hf
    refine ⟨by rw [q1.len]; exact cap_le hz, fun p ob hp hd => ?_⟩
    obtain ⟨x1, x2, x3⟩ := tup_new k1 q1 hp hd
    exact ha _ _ _ (e1.trans x1) x2 x3
  · cases hf
theorem q_lst (hr : PA X es (tA c fr)) : PE X (.List es pos) (tE c (eLst fr)) := by
  refine PE.w (pe_lst hr) fun σ H Q h => ?_
  obtain ⟨μ, env, S, d, S', he, hs, hf, ha⟩ := h
  obtain ⟨ds, S1, h1, hf⟩ := th_inv hf
  refine ⟨μ, env, S, ds, S1, he, hs, h1, fun μ1 H1 vs e1 k1 q1 => ?_⟩
  split at hf
  · rename_i hz
    cases hf
    refine ⟨by rw [q1.len]; exact cap_le hz, fun p hp => ?_⟩
    obtain ⟨x1, x2, x3⟩ := lst_new k1 q1 hp
    exact ha _ _ _ (e1.trans x1) x2 x3
  · cases hf

/-! ### calls: built-ins, types, methods of built-in types, defs -/
def eCall (F : FF) (fr : FA) : FE := fun env S => th (fr env S) fun ds S1 => F ds S1
def eMt (F : D → FF) (fo : FE) (fr : FA) : FE := fun env S => th (fo env S) fun x S1 => th (fr env S1) fun ds S2 => F x ds S2
theorem callB_red {F : FF} {σ : L2.St} {H : Hp} {Q : VK} (h : tE c (eCall F fr) σ H Q) : tCB (rA c F) (tA c fr) σ H Q := by
  obtain ⟨μ, env, S, d, S', he, hs, hf, ha⟩ := h
  obtain ⟨ds, S1, h1, hf⟩ := th_inv hf
  exact ⟨μ, env, S, ds, S1, he, hs, h1, fun μ1 H1 vs e1 k1 q1 => ⟨μ1, S1, ds, d, S', k1, q1, hf, ha.ext e1⟩⟩
theorem q_cb {F : FF} (h : PE X e (tCB (rA c F) (tA c fr))) : PE X e (tE c (eCall F fr)) := PE.w h fun _ _ _ => callB_red

/-- the promise of a def that is the function F -/
def spF (c : FC) (n : Nat) (F : FF) : Sp := fun vs H Q _ => vs.length = n ∧ rA c F vs H Q
theorem q_fn {n : Nat} {F : FF} {E : XK} (h : PE X e (tCall (spF c n F) [] E (tA c fr))) (hl : ∀ (env : Env) (S : Sto) (ds : List D) (S' : Sto), fr env S = some (ds, S') → ds.length = n) : PE X e (tE c (eCall F fr)) := by
  refine PE.w h fun σ H Q h => ?_
  obtain ⟨μ, env, S, d, S', he, hs, hf, ha⟩ := h
  obtain ⟨ds, S1, h1, hf⟩ := th_inv hf
  refine ⟨μ, env, S, ds, S1, he, hs, h1, fun μ1 H1 vs e1 k1 q1 => ?_⟩
  show spF c n F (vs ++ []) H1 Q E
  rw [List.append_nil]
  exact ⟨by rw [q1.len]; exact hl _ _ _ _ h1, μ1, S1, ds, d, S', k1, q1, hf, ha.ext e1⟩
end
theorem len0 : ∀ (env : Env) (S : Sto) (ds : List D) (S' : Sto), aNil env S = some (ds, S') → ds.length = 0 := fun _ _ _ _ h => by
  cases h
  rfl
theorem lenS {fa : FE} {fr : FA} {n : Nat} (h : ∀ (env : Env) (S : Sto) (ds : List D) (S' : Sto), fr env S = some (ds, S') → ds.length = n) : ∀ (env : Env) (S : Sto) (ds : List D) (S' : Sto), aCons fa fr env S = some (ds, S') → ds.length = n + 1 := fun env S ds S' q => by
  obtain ⟨x, S1, h1, q⟩ := th_inv q
  obtain ⟨xs, S2, h2, q⟩ := th_inv q
  cases q
  rw [List.length_cons, h env S1 xs _ h2]
end FL
/-! FL3: tests, and, or, not, conditional expressions, chains; the operators by data. -/
namespace FL
open PySem PySem.Spec PyProof.Rows L2

def getL (S : Sto) (n : Nat) : Option (List D) := match S[n]? with
  | some (.lst ds) => some ds
  | some (.ro ds) => some ds
  | _ => none
def getD (S : Sto) (n : Nat) : Option (List (Key × D)) := match S[n]? with
  | some (.dic kvs) => some kvs
  | some (.lck kvs) => some kvs
  | _ => none
def tru (d : D) (S : Sto) : Option Bool := match d with
  | .non => some false
  | .bl b => some b
  | .int i => some (i != 0)
  | .str x => if x.length ≤ cap then some ((x.length : Int) != 0) else none
  | .tup ds => some (!ds.isEmpty)
  | .pr _ => none
  | .ref n => match S[n]? with
    | some (.lst ds) => some (!ds.isEmpty)
    | some (.ro ds) => some (!ds.isEmpty)
    | some (.dic kvs) => some (!kvs.isEmpty)
    | _ => none
theorem ro_sq {c : FC} {μ : List Addr} {H : Hp} {a : Addr} {ds : List D} (h : RepO c μ H a (.ro ds)) : ∃ xs, SqL c.K H a xs ∧ Reps c μ H ds xs := by
  obtain ⟨xs, h, r⟩ := h
  exact ⟨xs, h.elim (fun ⟨o, q⟩ => .inl (.inr ⟨o, q⟩)) .inr, r⟩
theorem getL_sq {c : FC} {μ : List Addr} {S : Sto} {H : Hp} {n : Nat} {ds : List D} (hs : StoOk c μ S H) (h : getL S n = some ds) : ∃ a xs, μ[n]? = some a ∧ SqL c.K H a xs ∧ Reps c μ H ds xs := by
  unfold getL at h
  split at h
  · rename_i e
    cases h
    obtain ⟨a, e1, xs, q, r⟩ := hs.stands n _ e
    exact ⟨a, xs, e1, SqL.of q, r⟩
  · rename_i e
    cases h
    obtain ⟨a, e1, r⟩ := hs.stands n _ e
    obtain ⟨xs, q, r⟩ := ro_sq r
    exact ⟨a, xs, e1, q, r⟩
  · cases h
theorem isEmpty_reps {c : FC} {μ : List Addr} {H : Hp} {ds : List D} {xs : List V} (r : Reps c μ H ds xs) : ds.isEmpty = xs.isEmpty := by
  have h := r.len
  cases ds <;> cases xs <;> first | rfl | (simp at h)
theorem tru_ok {c : FC} {μ : List Addr} {S : Sto} {H : Hp} {d : D} {v : V} {b : Bool} (hs : StoOk c μ S H) (r : Rep c μ H d v) (h : tru d S = some b) : TruV c.K v H b := by
  cases d with
  | non =>
    cases h
    obtain rfl : v = .non := r
    exact rfl
  | bl k =>
    cases h
    obtain rfl : v = .bl b := r
    exact rfl
  | int i =>
    cases h
    obtain rfl : v = .int i := r
    exact rfl
  | str x =>
    obtain rfl : v = .str x := r
    have h' : (if x.length ≤ cap then some ((x.length : Int) != 0) else none) = some b := h
    by_cases hz : x.length ≤ cap
    · rw [if_pos hz] at h'
      cases h'
      exact ⟨cap_le hz, rfl⟩
    · rw [if_neg hz] at h'
      cases h'
  | pr ds => cases h
  | tup ds =>
    cases h
    obtain ⟨a, xs, rfl, q, r⟩ := r
    exact .inr (.inl ⟨xs, q.sq, by rw [isEmpty_reps r]⟩)
  | ref n =>
    obtain ⟨a, ha, rfl⟩ := r
    unfold tru at h
    simp only at h
    split at h
    · rename_i ds e
      cases h
      obtain ⟨b', e1, xs, q, rr⟩ := hs.stands n _ e
      rw [ha] at e1
      cases e1
      exact .inl ⟨xs, SqL.of q, by rw [isEmpty_reps rr]⟩
    · rename_i ds e
      cases h
      obtain ⟨b', e1, rr⟩ := hs.stands n _ e
      rw [ha] at e1
      cases e1
      obtain ⟨xs, q, rr⟩ := ro_sq rr
      exact .inl ⟨xs, q, by rw [isEmpty_reps rr]⟩
    · rename_i kvs e
      cases h
      obtain ⟨b', e1, ys, q, rr⟩ := hs.stands n _ e
      rw [ha] at e1
      cases e1
      refine .inr (.inr ⟨ys, q, ?_⟩)
      have hl := congrArg List.length rr.1
      rw [List.length_map, List.length_map] at hl
      cases kvs <;> cases ys <;> first | rfl | (simp at hl)
    · cases h

def tB (fe : FE) : FT := fun env S => th (fe env S) fun d S1 => match d with
  | .bl b => some (b, S1)
  | _ => none
def tTru (fe : FE) : FT := fun env S => th (fe env S) fun d S1 => (tru d S1).map fun b => (b, S1)
def tNot (ft : FT) : FT := fun env S => th (ft env S) fun b S1 => some (!b, S1)
def tAnd (fa fb : FT) : FT := fun env S => th (fa env S) fun b S1 => if b = true then fb env S1 else some (false, S1)
def tOr (fa fb : FT) : FT := fun env S => th (fa env S) fun b S1 => if b = true then some (true, S1) else fb env S1
def eIf (ft : FT) (fa fb : FE) : FE := fun env S => th (ft env S) fun b S1 => if b = true then fa env S1 else fb env S1
def eAnd (fa fb : FE) : FE := fun env S => th (fa env S) fun x S1 => match tru x S1 with
  | some true => fb env S1
  | some false => some (x, S1)
  | none => none
def eOr (fa fb : FE) : FE := fun env S => th (fa env S) fun x S1 => match tru x S1 with
  | some true => some (x, S1)
  | some false => fb env S1
  | none => none
def eNot (fa : FE) : FE := fun env S => th (fa env S) fun x S1 => match tru x S1 with
  | some b => some (.bl (!b), S1)
  | none => none

section
variable {c : FC} {X : Cx} {a b e cc : Expr} {fa fb fe : FE} {ft fu : FT} {pos : Pos} {rest : List Expr}
theorem tB_red {σ : L2.St} {H : Hp} {Q : Bool → Hp → Prop} {t : TE} (h : tT c (tB fe) σ H Q) (w : ∀ Q, tE c fe σ H Q → t σ H Q) : t σ H fun x H1 => ∃ k, x = .bl k ∧ Q k H1 := by
  obtain ⟨μ, env, S, b, S', he, hs, hf, ha⟩ := h
  obtain ⟨d, S1, h1, hf⟩ := th_inv hf
  refine w _ ⟨μ, env, S, d, S1, he, hs, h1, fun μ1 H1 v e1 k1 r => ?_⟩
  cases d with
  | bl k =>
    cases hf
    obtain rfl : v = .bl b := r
    exact ⟨b, rfl, ha _ _ e1 k1⟩
  | _ => cases hf
theorem q_tcmp {op : CmpOp} {r : F2} (ho : OpR X (compareOp op) (r2 c r)) (ha : PE X a (tE c fa)) (hb : PE X b (tE c fb)) (hm : behindInMarks op b = false := by rfl) : PT X (.Compare a [op] [b] pos) (tT c (tB (eBin r fa fb))) :=
  PT.w (pt_cmpR ho ha hb hm) fun _ _ _ h => tB_red h fun _ => bin_red
theorem q_tru (hK : c.K = X.K) (h : PE X e (tE c fe)) (he : ∀ whole, isTrue e X.env whole = (do let v ← whole; standAt e.pos; holding [v] (truthy v)) := by intro _; rfl) : PT X e (tT c (tTru fe)) := by
  refine PT.w (pt_truth h he) fun σ H Q h => ?_
  obtain ⟨μ, env, S, b, S', he, hs, hf, ha⟩ := h
  obtain ⟨d, S1, h1, hf⟩ := th_inv hf
  refine ⟨μ, env, S, d, S1, he, hs, h1, fun μ1 H1 v e1 k1 r => ?_⟩
  obtain ⟨k, ek, e2⟩ := Option.map_eq_some_iff.mp hf
  cases e2
  exact ⟨b, by rw [← hK]; exact tru_ok k1 r ek, ha _ _ e1 k1⟩
theorem q_tnot (h : PT X a (tT c ft)) : PT X (.UnaryOp .Not a pos) (tT c (tNot ft)) := by
  refine PT.w (pt_not h) fun σ H Q h => ?_
  obtain ⟨μ, env, S, b, S', he, hs, hf, ha⟩ := h
  obtain ⟨d, S1, h1, hf⟩ := th_inv hf
  cases hf
  exact ⟨μ, env, S, d, _, he, hs, h1, fun μ1 H1 e1 k1 => ha _ _ e1 k1⟩
theorem q_wand1 (h : PT X a (tT c ft)) : PW X (.BoolOp .And [a] pos) (tT c ft) := pw_and1 h
theorem q_wor1 (h : PT X a (tT c ft)) : PW X (.BoolOp .Or [a] pos) (tT c ft) := pw_or1 h
theorem q_wand (h : PT X a (tT c ft)) (k : PW X (.BoolOp .And (b :: rest) pos) (tT c fu)) : PW X (.BoolOp .And (a :: b :: rest) pos) (tT c (tAnd ft fu)) := by
  refine PW.w (pw_and h k) fun σ H Q h => ?_
  obtain ⟨μ, env, S, b, S', he, hs, hf, ha⟩ := h
  obtain ⟨d, S1, h1, hf⟩ := th_inv hf
  refine ⟨μ, env, S, d, _, he, hs, h1, fun μ1 H1 e1 k1 => ?_⟩
  cases d with
  | true => exact ⟨μ1, env, S1, b, S', he.mono e1, k1, hf, fun μ2 H2 e2 k2 => ha _ _ (e1.trans e2) k2⟩
  | false =>
    cases hf
    exact ha _ _ e1 k1
theorem q_wor (h : PT X a (tT c ft)) (k : PW X (.BoolOp .Or (b :: rest) pos) (tT c fu)) : PW X (.BoolOp .Or (a :: b :: rest) pos) (tT c (tOr ft fu)) := by
  refine PW.w (pw_or h k) fun σ H Q h => ?_
  obtain ⟨μ, env, S, b, S', he, hs, hf, ha⟩ := h
  obtain ⟨d, S1, h1, hf⟩ := th_inv hf
  refine ⟨μ, env, S, d, _, he, hs, h1, fun μ1 H1 e1 k1 => ?_⟩
  cases d with
  | false => exact ⟨μ1, env, S1, b, S', he.mono e1, k1, hf, fun μ2 H2 e2 k2 => ha _ _ (e1.trans e2) k2⟩
  | true =>
    cases hf
    exact ha _ _ e1 k1
theorem q_if (h : PT X cc (tT c ft)) (ha : PE X a (tE c fa)) (hb : PE X b (tE c fb)) : PE X (.IfExp cc a b pos) (tE c (eIf ft fa fb)) := by
  refine PE.w (pe_ifExp h ha hb) fun σ H Q h => ?_
  obtain ⟨μ, env, S, d, S', he, hs, hf, ha⟩ := h
  obtain ⟨k, S1, h1, hf⟩ := th_inv hf
  refine ⟨μ, env, S, k, _, he, hs, h1, fun μ1 H1 e1 k1 => ?_⟩
  cases k with
  | true => exact ⟨μ1, env, S1, d, S', he.mono e1, k1, hf, ha.ext e1⟩
  | false => exact ⟨μ1, env, S1, d, S', he.mono e1, k1, hf, ha.ext e1⟩
theorem q_one {op : BoolOp} (h : PE X a (tE c fa)) : PE X (.BoolOp op [a] pos) (tE c fa) := pe_one h
theorem q_and (hK : c.K = X.K) (h : PE X a (tE c fa)) (k : PE X (.BoolOp .And (b :: rest) pos) (tE c fb)) : PE X (.BoolOp .And (a :: b :: rest) pos) (tE c (eAnd fa fb)) := by
  refine PE.w (pe_andT h k) fun σ H Q h => ?_
  obtain ⟨μ, env, S, d, S', he, hs, hf, ha⟩ := h
  obtain ⟨x, S1, h1, hf⟩ := th_inv hf
  refine ⟨μ, env, S, x, _, he, hs, h1, fun μ1 H1 v e1 k1 r1 => ?_⟩
  split at hf
  · rename_i q
    exact ⟨true, by rw [← hK]; exact tru_ok k1 r1 q, ⟨μ1, env, S1, d, S', he.mono e1, k1, hf, ha.ext e1⟩⟩
  · rename_i q
    cases hf
    exact ⟨false, by rw [← hK]; exact tru_ok k1 r1 q, ha _ _ _ e1 k1 r1⟩
  · cases hf
theorem q_or (hK : c.K = X.K) (h : PE X a (tE c fa)) (k : PE X (.BoolOp .Or (b :: rest) pos) (tE c fb)) : PE X (.BoolOp .Or (a :: b :: rest) pos) (tE c (eOr fa fb)) := by
  refine PE.w (pe_orT h k) fun σ H Q h => ?_
  obtain ⟨μ, env, S, d, S', he, hs, hf, ha⟩ := h
  obtain ⟨x, S1, h1, hf⟩ := th_inv hf
  refine ⟨μ, env, S, x, _, he, hs, h1, fun μ1 H1 v e1 k1 r1 => ?_⟩
  split at hf
  · rename_i q
    cases hf
    exact ⟨true, by rw [← hK]; exact tru_ok k1 r1 q, ha _ _ _ e1 k1 r1⟩
  · rename_i q
    exact ⟨false, by rw [← hK]; exact tru_ok k1 r1 q, ⟨μ1, env, S1, d, S', he.mono e1, k1, hf, ha.ext e1⟩⟩
  · cases hf
theorem q_not (hK : c.K = X.K) (h : PE X a (tE c fa)) : PE X (.UnaryOp .Not a pos) (tE c (eNot fa)) := by
  refine PE.w (pe_notT h) fun σ H Q h => ?_
  obtain ⟨μ, env, S, d, S', he, hs, hf, ha⟩ := h
  obtain ⟨x, S1, h1, hf⟩ := th_inv hf
  refine ⟨μ, env, S, x, _, he, hs, h1, fun μ1 H1 v e1 k1 r1 => ?_⟩
  split at hf
  · rename_i k q
    cases hf
    exact ⟨k, by rw [← hK]; exact tru_ok k1 r1 q, ha _ _ _ e1 k1 rfl⟩
  · cases hf
/-- is None, is not None -/
def eIsN (fa : FE) : FE := fun env S => th (fa env S) fun x S1 => match x with
  | .non => some (.bl true, S1)
  | _ => some (.bl false, S1)
def eNotN (fa : FE) : FE := fun env S => th (fa env S) fun x S1 => match x with
  | .non => some (.bl false, S1)
  | _ => some (.bl true, S1)
theorem Rep.isN {μ : List Addr} {H : Hp} : ∀ {d : D} {v : V}, Rep c μ H d v → (decide (v = .non) = match d with | .non => true | _ => false)
  | .non, _, h => by
    obtain rfl := h
    rfl
  | .bl _, _, h => by
    obtain rfl := h
    rfl
  | .int _, _, h => by
    obtain rfl := h
    rfl
  | .str _, _, h => by
    obtain rfl := h
    rfl
  | .tup _, _, h => by
    obtain ⟨_, _, rfl, _⟩ := h
    rfl
  | .pr _, _, h => by
    obtain ⟨_, _, rfl, _⟩ := h
    rfl
  | .ref _, _, h => by
    obtain ⟨_, _, rfl⟩ := h
    rfl
theorem isN_red {σ : L2.St} {H : Hp} {Q : VK} (h : tE c (eIsN fa) σ H Q) : tIsN (tE c fa) σ H Q := by
  obtain ⟨μ, env, S, d, S', he, hs, hf, ha⟩ := h
  obtain ⟨x, S1, h1, hf⟩ := th_inv hf
  refine ⟨μ, env, S, x, _, he, hs, h1, fun μ1 H1 v e1 k1 r1 => ?_⟩
  show Q (.bl (decide (v = .non))) H1
  rw [r1.isN]
  cases x <;> (cases hf; exact ha _ _ _ e1 k1 rfl)
theorem notN_red {σ : L2.St} {H : Hp} {Q : VK} (h : tE c (eNotN fa) σ H Q) : tNotN (tE c fa) σ H Q := by
  obtain ⟨μ, env, S, d, S', he, hs, hf, ha⟩ := h
  obtain ⟨x, S1, h1, hf⟩ := th_inv hf
  refine ⟨μ, env, S, x, _, he, hs, h1, fun μ1 H1 v e1 k1 r1 => ?_⟩
  show Q (.bl (!decide (v = .non))) H1
  rw [r1.isN]
  cases x <;> (cases hf; exact ha _ _ _ e1 k1 rfl)
theorem q_isN {j pos'} (h : PE X a (tE c fa)) : PE X (.Compare a [.Is] [.Constant .none j pos'] pos) (tE c (eIsN fa)) := PE.w (pe_cmp (pc_isN h)) fun _ _ _ => isN_red
theorem q_notN {j pos'} (h : PE X a (tE c fa)) : PE X (.Compare a [.IsNot] [.Constant .none j pos'] pos) (tE c (eNotN fa)) := PE.w (pe_cmp (pc_notN h)) fun _ _ _ => notN_red
theorem q_tisN {j pos'} (h : PE X a (tE c fa)) : PT X (.Compare a [.Is] [.Constant .none j pos'] pos) (tT c (tB (eIsN fa))) := PT.w (pt_cmp (pc_isN h)) fun _ _ _ h => tB_red h fun _ => isN_red
theorem q_tnotN {j pos'} (h : PE X a (tE c fa)) : PT X (.Compare a [.IsNot] [.Constant .none j pos'] pos) (tT c (tB (eNotN fa))) := PT.w (pt_cmp (pc_notN h)) fun _ _ _ h => tB_red h fun _ => notN_red
end

/-! ### chains of comparisons -/
abbrev FC2 := D → Env → Sto → Option (D × Sto)
def chL (r : F2) (fb : FE) : FC2 := fun x env S => th (fb env S) fun y S1 => r x y S1
def chK (r : F2) (fb : FE) (t : FC2) : FC2 := fun x env S => th (fb env S) fun y S1 => th (r x y S1) fun k S2 => match k with
  | .bl true => t y env S2
  | .bl false => some (.bl false, S2)
  | _ => none
def eCh (fa : FE) (t : FC2) : FE := fun env S => th (fa env S) fun x S1 => t x env S1
structure PCh (c : FC) (X : Cx) (ops : List CmpOp) (es : List Expr) (t : FC2) : Prop where
  val : ∀ (pos : Pos) (pins : List (Addr × Obj)) (s : Shared) (σ : L2.St) (H : Hp) (v : V) (u : Value) (Q : VK) (μ : List Addr) (env : Env) (S : Sto) (x d : D) (S' : Sto), Inv X pins σ H s → RelV v u → EnvOk c μ H env σ → StoOk c μ S H → Rep c μ H x v → t x env S = some (d, S') → After c μ H S' d Q →
    wpAny (model X.prog X.w) X.A (compareChain pos u ops (evalEach es X.env)) (EP X pins σ Q) X.xe s
  test : ∀ (pos : Pos) (pins : List (Addr × Obj)) (s : Shared) (σ : L2.St) (H : Hp) (v : V) (u : Value) (Q : Bool → Hp → Prop) (μ : List Addr) (env : Env) (S : Sto) (x : D) (k : Bool) (S' : Sto), Inv X pins σ H s → RelV v u → EnvOk c μ H env σ → StoOk c μ S H → Rep c μ H x v → t x env S = some (.bl k, S') →
    (∀ μ' H', Ext c μ H μ' H' → StoOk c μ' S' H' → Q k H') → wpAny (model X.prog X.w) X.A (testChain pos u ops (evalEach es X.env)) (TP X pins σ Q) X.xe s
section
variable {c : FC} {X : Cx} {a b : Expr} {fa fb : FE} {pos : Pos} {op op' : CmpOp} {ops : List CmpOp} {es : List Expr} {r : F2} {t : FC2}
theorem q_chL (ho : OpR X (compareOp op) (r2 c r)) (hb : PE X b (tE c fb)) : PCh c X [op] [b] (chL r fb) := by
  refine ⟨fun pos pins s σ H v u Q μ env S x d S' I rv he hs rx hf ha => ?_, fun pos pins s σ H v u Q μ env S x k S' I rv he hs rx hf ha => ?_⟩
  · obtain ⟨y, S1, h1, hf⟩ := th_inv hf
    exact chain_last (thn (hb.run pins s σ H (fun w H1 => ∃ μ1, Ext c μ H μ1 H1 ∧ StoOk c μ1 S1 H1 ∧ Rep c μ1 H1 y w) I ⟨μ, env, S, y, S1, he, hs, h1, fun μ1 H1 w e1 k1 r1 => ⟨μ1, e1, k1, r1⟩⟩) fun w' s1 ⟨w, H1, I1, rw1, μ1, e1, k1, r1⟩ =>
      ho pins s1 σ H1 v w u w' Q I1 rv rw1 ⟨μ1, S1, x, y, d, S', k1, Rep.mono e1 _ _ rx, r1, hf, ha.ext e1⟩)
  · obtain ⟨y, S1, h1, hf⟩ := th_inv hf
    exact test_last (thn (hb.run pins s σ H (fun w H1 => ∃ μ1, Ext c μ H μ1 H1 ∧ StoOk c μ1 S1 H1 ∧ Rep c μ1 H1 y w) I ⟨μ, env, S, y, S1, he, hs, h1, fun μ1 H1 w e1 k1 r1 => ⟨μ1, e1, k1, r1⟩⟩) fun w' s1 ⟨w, H1, I1, rw1, μ1, e1, k1, r1⟩ =>
      thn (ho pins s1 σ H1 v w u w' (fun z H2 => z = .bl k ∧ Q k H2) I1 rv rw1 ⟨μ1, S1, x, y, _, S', k1, Rep.mono e1 _ _ rx, r1, hf, fun μ2 H2 z e2 k2 r2 => ⟨r2, ha _ _ (e1.trans e2) k2⟩⟩) fun z' s2 ⟨z, H2, I2, rz, ez, q2⟩ => by
        subst ez
        cases rz
        exact wpAny_truthy_bool ⟨H2, I2, q2⟩)
theorem q_chK (ho : OpR X (compareOp op) (r2 c r)) (hb : PE X b (tE c fb)) {b' : Expr} (hr : PCh c X (op' :: ops) (b' :: es) t) : PCh c X (op :: op' :: ops) (b :: b' :: es) (chK r fb t) := by
  refine ⟨fun pos pins s σ H v u Q μ env S x d S' I rv he hs rx hf ha => ?_, fun pos pins s σ H v u Q μ env S x k S' I rv he hs rx hf ha => ?_⟩
  · obtain ⟨y, S1, h1, hf⟩ := th_inv hf
    obtain ⟨z, S2, h2, hf⟩ := th_inv hf
    refine chain_link (thn (hb.run pins s σ H (fun w H1 => ∃ μ1, Ext c μ H μ1 H1 ∧ StoOk c μ1 S1 H1 ∧ Rep c μ1 H1 y w) I ⟨μ, env, S, y, S1, he, hs, h1, fun μ1 H1 w e1 k1 r1 => ⟨μ1, e1, k1, r1⟩⟩) fun w' s1 ⟨w, H1, I1, rw1, μ1, e1, k1, r1⟩ => ?_)
    refine thn (ho pins s1 σ H1 v w u w' (fun z' H2 => ∃ μ2, Ext c μ1 H1 μ2 H2 ∧ StoOk c μ2 S2 H2 ∧ Rep c μ2 H2 z z') I1 rv rw1 ⟨μ1, S1, x, y, z, S2, k1, Rep.mono e1 _ _ rx, r1, h2, fun μ2 H2 z' e2 k2 r2 => ⟨μ2, e2, k2, r2⟩⟩) fun z' s2 ⟨zv, H2, I2, rz, μ2, e2, k2, r2⟩ => ?_
    cases z with
    | bl k =>
      obtain rfl : zv = .bl k := r2
      cases rz
      refine wpAny_truthy_bool ?_
      cases k with
      | true => exact ite_tt (hr.val pos pins s2 σ H2 w w' Q μ2 env S2 y d S' I2 rw1 ((he.mono e1).mono e2) k2 (Rep.mono e2 _ _ r1) hf ((ha.ext e1).ext e2))
      | false =>
        cases hf
        exact ite_ff ⟨.bl false, H2, I2, rfl, ha _ _ _ (e1.trans e2) k2 rfl⟩
    | _ => cases hf
  · obtain ⟨y, S1, h1, hf⟩ := th_inv hf
    obtain ⟨z, S2, h2, hf⟩ := th_inv hf
    refine test_link (thn (hb.run pins s σ H (fun w H1 => ∃ μ1, Ext c μ H μ1 H1 ∧ StoOk c μ1 S1 H1 ∧ Rep c μ1 H1 y w) I ⟨μ, env, S, y, S1, he, hs, h1, fun μ1 H1 w e1 k1 r1 => ⟨μ1, e1, k1, r1⟩⟩) fun w' s1 ⟨w, H1, I1, rw1, μ1, e1, k1, r1⟩ => ?_)
    refine thn (ho pins s1 σ H1 v w u w' (fun z' H2 => ∃ μ2, Ext c μ1 H1 μ2 H2 ∧ StoOk c μ2 S2 H2 ∧ Rep c μ2 H2 z z') I1 rv rw1 ⟨μ1, S1, x, y, z, S2, k1, Rep.mono e1 _ _ rx, r1, h2, fun μ2 H2 z' e2 k2 r2 => ⟨μ2, e2, k2, r2⟩⟩) fun z' s2 ⟨zv, H2, I2, rz, μ2, e2, k2, r2⟩ => ?_
    cases z with
    | bl k' =>
      obtain rfl : zv = .bl k' := r2
      cases rz
      refine wpAny_truthy_bool ?_
      cases k' with
      | true => exact ite_tt (hr.test pos pins s2 σ H2 w w' Q μ2 env S2 y k S' I2 rw1 ((he.mono e1).mono e2) k2 (Rep.mono e2 _ _ r1) hf fun μ3 H3 e3 k3 => ha _ _ ((e1.trans e2).trans e3) k3)
      | false =>
        cases hf
        exact ite_ff ⟨H2, I2, ha _ _ (e1.trans e2) k2⟩
    | _ => cases hf
theorem q_ch {op'' : CmpOp} {b' : Expr} (ha : PE X a (tE c fa)) (hr : PCh c X (op :: op'' :: ops) (b :: b' :: es) t) (hm : lastMarks (op :: op'' :: ops) (b :: b' :: es) = false := by with_unfolding_all rfl) : PE X (.Compare a (op :: op'' :: ops) (b :: b' :: es) pos) (tE c (eCh fa t)) := by
  refine ⟨fun pins s σ H Q I h => ?_⟩
  obtain ⟨μ, env, S, d, S', he, hs, hf, hq⟩ := h
  obtain ⟨x, S1, h1, hf⟩ := th_inv hf
  refine Compare_chain (thn (ha.run pins s σ H (fun w H1 => ∃ μ1, Ext c μ H μ1 H1 ∧ StoOk c μ1 S1 H1 ∧ Rep c μ1 H1 x w) I ⟨μ, env, S, x, S1, he, hs, h1, fun μ1 H1 w e1 k1 r1 => ⟨μ1, e1, k1, r1⟩⟩) fun w' s1 ⟨w, H1, I1, rw1, μ1, e1, k1, r1⟩ => ?_) hm
  exact hr.val pos pins s1 σ H1 w w' Q μ1 env S1 x d S' I1 rw1 (he.mono e1) k1 r1 hf (hq.ext e1)
theorem q_tch {op'' : CmpOp} {b' : Expr} (ha : PE X a (tE c fa)) (hr : PCh c X (op :: op'' :: ops) (b :: b' :: es) t) (hm : lastMarks (op :: op'' :: ops) (b :: b' :: es) = false := by with_unfolding_all rfl) : PT X (.Compare a (op :: op'' :: ops) (b :: b' :: es) pos) (tT c (tB (eCh fa t))) := by
  refine ⟨fun pins s σ H Q I h => ?_⟩
  obtain ⟨μ, env, S, k, S', he, hs, hf, hq⟩ := h
  obtain ⟨d, S2, h2, hf⟩ := th_inv hf
  obtain ⟨x, S1, h1, h2⟩ := th_inv h2
  cases d with
  | bl k' =>
    cases hf
    refine isTrue_chain (thn (ha.run pins s σ H (fun w H1 => ∃ μ1, Ext c μ H μ1 H1 ∧ StoOk c μ1 S1 H1 ∧ Rep c μ1 H1 x w) I ⟨μ, env, S, x, S1, he, hs, h1, fun μ1 H1 w e1 k1 r1 => ⟨μ1, e1, k1, r1⟩⟩) fun w' s1 ⟨w, H1, I1, rw1, μ1, e1, k1, r1⟩ => ?_) hm
    exact hr.test pos pins s1 σ H1 w w' Q μ1 env S1 x _ S' I1 rw1 (he.mono e1) k1 r1 h2 fun μ2 H2 e2 k2 => hq _ _ (e1.trans e2) k2
  | _ => cases hf
end
end FL
/-! FL4: operators, subscripts, slices, built-ins and methods by data. -/
namespace FL
open PySem PySem.Spec PyProof.Rows L2

/-! ### dicts as lists of pairs -/
section
variable {κ : Type} [DecidableEq κ] {β : Type}
def valG (kvs : List (κ × β)) (k : κ) : Option β := (kvs.find? fun kv => decide (kv.1 = k)).map (·.2)
def putG (kvs : List (κ × β)) (k : κ) (v : β) : List (κ × β) := if (kvs.any fun kv => decide (kv.1 = k)) = true then kvs.map (fun kv => if kv.1 = k then (kv.1, v) else kv) else kvs ++ [(k, v)]
def dropG (kvs : List (κ × β)) (k : κ) : List (κ × β) := kvs.filter fun kv => decide (kv.1 ≠ k)
variable {c : FC} {μ : List Addr} {H : Hp}
theorem RepKV.nil : RepKV c μ H ([] : List (κ × D)) [] := ⟨rfl, rfl⟩
theorem RepKV.cons {k : κ} {d : D} {v : V} {kvs : List (κ × D)} {ys : List (κ × V)} (r : Rep c μ H d v) (h : RepKV c μ H kvs ys) : RepKV c μ H ((k, d) :: kvs) ((k, v) :: ys) := ⟨by rw [List.map_cons, List.map_cons, h.1], v, _, rfl, r, h.2⟩
theorem RepKV.inv {k : κ} {d : D} {kvs : List (κ × D)} {ys : List (κ × V)} (h : RepKV c μ H ((k, d) :: kvs) ys) : ∃ v ys', ys = (k, v) :: ys' ∧ Rep c μ H d v ∧ RepKV c μ H kvs ys' := by
  obtain ⟨h1, v, vs, h2, r, rr⟩ := h
  cases ys with
  | nil => simp at h1
  | cons y ys' =>
    rw [List.map_cons, List.map_cons] at h1
    rw [List.map_cons] at h2
    injection h1 with e1 e2
    injection h2 with e3 e4
    obtain ⟨y1, y2⟩ := y
    simp only at e1 e3
    subst e1
    subst e3
    exact ⟨y2, ys', rfl, r, e2, by rw [e4]; exact rr⟩
theorem RepKV.inv0 {ys : List (κ × V)} (h : RepKV c μ H ([] : List (κ × D)) ys) : ys = [] := by
  obtain ⟨h1, _⟩ := h
  cases ys with
  | nil => rfl
  | cons _ _ => simp at h1
theorem RepKV.len {kvs : List (κ × D)} {ys : List (κ × V)} (h : RepKV c μ H kvs ys) : ys.length = kvs.length := by
  have q := congrArg List.length h.1
  rw [List.length_map, List.length_map] at q
  exact q.symm
theorem RepKV.val : ∀ {kvs : List (κ × D)} {ys : List (κ × V)} (k : κ), RepKV c μ H kvs ys → (∀ d, valG kvs k = some d → ∃ v, valV ys k = some v ∧ Rep c μ H d v) ∧ (valG kvs k = none → valV ys k = none)
  | [], ys, k, h => by
    rw [h.inv0]
    exact ⟨(fun _ e => nomatch e), fun _ => rfl⟩
  | (k', d') :: kvs, ys, k, h => by
    obtain ⟨v, ys', rfl, r, h2⟩ := h.inv
    obtain ⟨i1, i2⟩ := RepKV.val k h2
    by_cases e : k' = k
    · have e1 : valG ((k', d') :: kvs) k = some d' := by simp [valG, List.find?_cons, e]
      rw [e1, valV_pos (p := (k', v)) e]
      exact ⟨(fun d q => by cases q; exact ⟨v, rfl, r⟩), (fun q => nomatch q)⟩
    · have e1 : valG ((k', d') :: kvs) k = valG kvs k := by simp [valG, List.find?_cons, e]
      rw [e1, valV_neg (p := (k', v)) e]
      exact ⟨i1, i2⟩
theorem RepKV.any : ∀ {kvs : List (κ × D)} {ys : List (κ × V)} (k : κ), RepKV c μ H kvs ys → (ys.any fun kv => decide (kv.1 = k)) = kvs.any fun kv => decide (kv.1 = k)
  | [], ys, k, h => by rw [h.inv0]; rfl
  | (k', d') :: kvs, ys, k, h => by
    obtain ⟨v, ys', rfl, r, h2⟩ := h.inv
    rw [List.any_cons, List.any_cons, RepKV.any k h2]
theorem RepKV.app : ∀ {kvs : List (κ × D)} {ys : List (κ × V)} {more : List (κ × D)} {zs : List (κ × V)}, RepKV c μ H kvs ys → RepKV c μ H more zs → RepKV c μ H (kvs ++ more) (ys ++ zs)
  | [], ys, _, _, h, k => by rw [h.inv0]; exact k
  | (k', d') :: kvs, ys, _, _, h, k => by
    obtain ⟨v, ys', rfl, r, h2⟩ := h.inv
    exact RepKV.cons r (RepKV.app h2 k)
theorem RepKV.map {k : κ} {d : D} {v : V} (r : Rep c μ H d v) : ∀ {kvs : List (κ × D)} {ys : List (κ × V)}, RepKV c μ H kvs ys → RepKV c μ H (kvs.map fun kv => if kv.1 = k then (kv.1, d) else kv) (ys.map fun kv => if kv.1 = k then (kv.1, v) else kv)
  | [], ys, h => by rw [h.inv0]; exact RepKV.nil
  | (k', d') :: kvs, ys, h => by
    obtain ⟨v', ys', rfl, r', h2⟩ := h.inv
    rw [List.map_cons, List.map_cons]
    by_cases e : k' = k
    · rw [if_pos e, if_pos e]
      exact RepKV.cons r (RepKV.map r h2)
    · rw [if_neg e, if_neg e]
      exact RepKV.cons r' (RepKV.map r h2)
theorem RepKV.put {k : κ} {d : D} {v : V} (r : Rep c μ H d v) {kvs : List (κ × D)} {ys : List (κ × V)} (h : RepKV c μ H kvs ys) : RepKV c μ H (putG kvs k d) (putK ys k v) := by
  unfold putG putK
  rw [h.any k]
  split
  · exact RepKV.map r h
  · exact h.app (RepKV.cons r RepKV.nil)
theorem RepKV.drop {k : κ} : ∀ {kvs : List (κ × D)} {ys : List (κ × V)}, RepKV c μ H kvs ys → RepKV c μ H (dropG kvs k) (dropK ys k)
  | [], ys, h => by rw [h.inv0]; exact RepKV.nil
  | (k', d') :: kvs, ys, h => by
    obtain ⟨v', ys', rfl, r', h2⟩ := h.inv
    have ih := RepKV.drop (k := k) h2
    unfold dropG dropK at ih ⊢
    rw [List.filter_cons, List.filter_cons]
    by_cases e : k' = k
    · rw [if_neg (by simp [e]), if_neg (by simp [e])]
      exact ih
    · rw [if_pos (by simp [e]), if_pos (by simp [e])]
      exact RepKV.cons r' ih
end
def keyD : D → Option Key
  | .int i => some (.inl i)
  | .str x => some (.inr x)
  | _ => none
def dKey : Key → D
  | .inl i => .int i
  | .inr x => .str x
theorem keyD_rep {c : FC} {μ : List Addr} {H : Hp} {d : D} {v : V} {k : Key} (r : Rep c μ H d v) (h : keyD d = some k) : v = kV k := by
  cases d with
  | int i =>
    cases h
    exact r
  | str x =>
    cases h
    exact r
  | _ => cases h
theorem dKey_rep {c : FC} {μ : List Addr} {H : Hp} (k : Key) : Rep c μ H (dKey k) (kV k) := by cases k <;> exact rfl
theorem getD_rd {c : FC} {μ : List Addr} {S : Sto} {H : Hp} {n : Nat} {kvs : List (Key × D)} (hs : StoOk c μ S H) (h : getD S n = some kvs) : ∃ a ys, μ[n]? = some a ∧ Rd H a (.dK ys) ∧ RepKV c μ H kvs ys := by
  unfold getD at h
  split at h
  · rename_i e
    cases h
    obtain ⟨a, e1, ys, q, r⟩ := hs.stands n _ e
    exact ⟨a, ys, e1, .inl q, r⟩
  · rename_i e
    cases h
    obtain ⟨a, e1, o, ys, q, r⟩ := hs.stands n _ e
    exact ⟨a, ys, e1, .inr ⟨o, q⟩, r⟩
  · cases h

/-! ### data that can be compared -/
mutual
def toPyG (g : Nat → Option PyData) : D → Option PyData
  | .non => some .none
  | .bl b => some (.bool b)
  | .int i => some (.int i)
  | .str x => some (.str x)
  | .tup ds => (toPysG g ds).map .tuple
  | .pr _ => none
  | .ref n => g n
def toPysG (g : Nat → Option PyData) : List D → Option (List PyData)
  | [] => some []
  | d :: ds => (toPyG g d).bind fun p => (toPysG g ds).map fun ps => p :: ps
end
def refPy (S : Sto) : Nat → Nat → Option PyData
  | 0, _ => none
  | k + 1, n => (getL S n).bind fun ds => (toPysG (refPy S k) ds).map .list
def toPy (S : Sto) (d : D) : Option PyData := toPyG (refPy S 4) d
section
variable {c : FC} {μ : List Addr} {S : Sto} {H : Hp}
mutual
theorem toPyG_dp {g : Nat → Option PyData} (hg : ∀ n a p, g n = some p → μ[n]? = some a → Dp c.K H (.ref a) p) : ∀ (d : D) (p : PyData) (v : V), toPyG g d = some p → Rep c μ H d v → Dp c.K H v p
  | .non, p, v, h, r => by
    cases h
    obtain rfl : v = .non := r
    exact .non
  | .bl b, p, v, h, r => by
    cases h
    obtain rfl : v = .bl b := r
    exact .bl b
  | .int i, p, v, h, r => by
    cases h
    obtain rfl : v = .int i := r
    exact .int i
  | .str x, p, v, h, r => by
    cases h
    obtain rfl : v = .str x := r
    exact .str x
  | .tup ds, p, v, h, r => by
    obtain ⟨a, xs, rfl, q, rr⟩ := r
    obtain ⟨ps, e1, e2⟩ := Option.map_eq_some_iff.mp h
    subst e2
    exact .tup q.sq (toPysG_dp hg ds ps xs e1 rr)
  | .pr _, p, v, h, r => nomatch h
  | .ref n, p, v, h, r => by
    obtain ⟨a, ha, rfl⟩ := r
    exact hg n a p h ha
theorem toPysG_dp {g : Nat → Option PyData} (hg : ∀ n a p, g n = some p → μ[n]? = some a → Dp c.K H (.ref a) p) : ∀ (ds : List D) (ps : List PyData) (xs : List V), toPysG g ds = some ps → Reps c μ H ds xs → DpAll c.K H xs ps
  | [], ps, xs, h, r => by
    cases h
    obtain rfl : xs = [] := r
    exact .nil
  | d :: ds, ps, xs, h, r => by
    obtain ⟨v, vs, rfl, r1, r2⟩ := r
    obtain ⟨p, e1, e2⟩ := Option.bind_eq_some_iff.mp h
    obtain ⟨qs, e3, e4⟩ := Option.map_eq_some_iff.mp e2
    subst e4
    exact .cons (toPyG_dp hg d p v e1 r1) (toPysG_dp hg ds qs vs e3 r2)
end
theorem refPy_dp (hs : StoOk c μ S H) : ∀ (k n : Nat) (a : Addr) (p : PyData), refPy S k n = some p → μ[n]? = some a → Dp c.K H (.ref a) p
  | 0, _, _, _, h, _ => nomatch h
  | k + 1, n, a, p, h, ha => by
    obtain ⟨ds, e1, e2⟩ := Option.bind_eq_some_iff.mp h
    obtain ⟨ps, e3, e4⟩ := Option.map_eq_some_iff.mp e2
    subst e4
    obtain ⟨a', xs, e5, q, r⟩ := getL_sq hs e1
    rw [ha] at e5
    cases e5
    exact .lst q (toPysG_dp (fun n a p => refPy_dp hs k n a p) ds ps xs e3 r)
theorem toPy_dp (hs : StoOk c μ S H) {d : D} {p : PyData} {v : V} (h : toPy S d = some p) (r : Rep c μ H d v) : Dp c.K H v p := toPyG_dp (fun n a p => refPy_dp hs 4 n a p) d p v h r
end
def oEq : F2 := fun x y S => match toPy S x, toPy S y with
  | some p, some q => if (SeqAt.shaped p && SeqAt.shaped q) = true then some (.bl (PyData.eqv p q), S) else none
  | _, _ => none
def oNe : F2 := fun x y S => match toPy S x, toPy S y with
  | some p, some q => if (SeqAt.shaped p && SeqAt.shaped q) = true then some (.bl (!PyData.eqv p q), S) else none
  | _, _ => none

/-! ### flat values -/
def flatD : D → Bool
  | .non => true
  | .bl _ => true
  | .int _ => true
  | .str _ => true
  | _ => false
def eqD : D → D → Bool
  | .non, .non => true
  | .bl a, .bl b => a == b
  | .bl a, .int b => (if a then 1 else 0) == b
  | .int a, .bl b => a == (if b then 1 else 0)
  | .int a, .int b => a == b
  | .str a, .str b => a == b
  | _, _ => false
def inD (x : D) (ds : List D) : Bool := ds.any fun y => eqD y x
section
variable {c : FC} {μ : List Addr} {H : Hp}
theorem flat_rep {d : D} {v : V} (h : flatD d = true) (r : Rep c μ H d v) : flatV v = true := by
  cases d with
  | non => obtain rfl : v = .non := r; rfl
  | bl b => obtain rfl : v = .bl b := r; rfl
  | int b => obtain rfl : v = .int b := r; rfl
  | str b => obtain rfl : v = .str b := r; rfl
  | _ => cases h
theorem eq_rep {d e : D} {v w : V} (h : flatD d = true) (k : flatD e = true) (r : Rep c μ H d v) (q : Rep c μ H e w) : eqV v w = eqD d e := by
  cases d with
  | non =>
    obtain rfl : v = .non := r
    cases e with
    | non => obtain rfl : w = .non := q; rfl
    | bl b => obtain rfl : w = .bl b := q; rfl
    | int b => obtain rfl : w = .int b := q; rfl
    | str b => obtain rfl : w = .str b := q; rfl
    | _ => cases k
  | bl a =>
    obtain rfl : v = .bl a := r
    cases e with
    | non => obtain rfl : w = .non := q; rfl
    | bl b => obtain rfl : w = .bl b := q; rfl
    | int b => obtain rfl : w = .int b := q; rfl
    | str b => obtain rfl : w = .str b := q; rfl
    | _ => cases k
  | int a =>
    obtain rfl : v = .int a := r
    cases e with
    | non => obtain rfl : w = .non := q; rfl
    | bl b => obtain rfl : w = .bl b := q; rfl
    | int b => obtain rfl : w = .int b := q; rfl
    | str b => obtain rfl : w = .str b := q; rfl
    | _ => cases k
  | str a =>
    obtain rfl : v = .str a := r
    cases e with
    | non => obtain rfl : w = .non := q; rfl
    | bl b => obtain rfl : w = .bl b := q; rfl
    | int b => obtain rfl : w = .int b := q; rfl
    | str b => obtain rfl : w = .str b := q; rfl
    | _ => cases k
  | _ => cases h
theorem flats_rep : ∀ {ds : List D} {xs : List V}, ds.all flatD = true → Reps c μ H ds xs → xs.all flatV = true
  | [], _, _, r => by
    obtain rfl := (show _ = [] from r)
    rfl
  | d :: ds, _, h, r => by
    obtain ⟨v, vs, rfl, r1, r2⟩ := r
    rw [List.all_cons, Bool.and_eq_true] at h
    rw [List.all_cons, flat_rep h.1 r1, flats_rep h.2 r2]
    rfl
theorem in_rep {x : D} {v : V} (hx : flatD x = true) (rx : Rep c μ H x v) : ∀ {ds : List D} {xs : List V}, ds.all flatD = true → Reps c μ H ds xs → inV v xs = inD x ds
  | [], _, _, r => by
    obtain rfl := (show _ = [] from r)
    rfl
  | d :: ds, _, h, r => by
    obtain ⟨w, vs, rfl, r1, r2⟩ := r
    rw [List.all_cons, Bool.and_eq_true] at h
    have ih := in_rep hx rx h.2 r2
    unfold inV inD at ih ⊢
    rw [List.any_cons, List.any_cons, eq_rep h.1 hx r1 rx, ih]
end
def signD : D → Option Nat
  | .str z => match z.cps.toList with
    | [k] => some k
    | _ => none
  | _ => none
def oInB (x y : D) (S : Sto) : Option Bool := match y with
  | .tup ds => if (flatD x && ds.all flatD) = true then some (inD x ds) else none
  | .str z => match signD x with
    | some k => some (decide (k ∈ z.cps.toList))
    | none => none
  | .ref n => match getL S n with
    | some ds => if (flatD x && ds.all flatD) = true then some (inD x ds) else none
    | none => match getD S n, keyD x with
      | some kvs, some k => some (valG kvs k).isSome
      | _, _ => none
  | _ => none
def oIn : F2 := fun x y S => (oInB x y S).map fun b => (.bl b, S)
def oNotIn : F2 := fun x y S => (oInB x y S).map fun b => (.bl (!b), S)

/-! ### arithmetic -/
def oAdd : F2 := fun x y S => match x, y with
  | .int i, .int j => some (.int (i + j), S)
  | .str a, .str b => if a.length + b.length ≤ cap then some (.str (a ++ b), S) else none
  | .tup xs, .tup ys => if xs.length + ys.length ≤ cap then some (.tup (xs ++ ys), S) else none
  | .ref n, .ref m => match S[n]?, S[m]? with
    | some (.lst xs), some (.lst ys) => if xs.length + ys.length ≤ cap then some (.ref S.length, S ++ [.lst (xs ++ ys)]) else none
    | _, _ => none
  | _, _ => none
def oSub : F2 := fun x y S => match x, y with
  | .int i, .int j => some (.int (i - j), S)
  | _, _ => none
def okMul (i j : Int) : Bool := (decide (-18446744073709551616 < i) && decide (i < 18446744073709551616)) || (decide (-18446744073709551616 < j) && decide (j < 18446744073709551616))
def oMul : F2 := fun x y S => match x, y with
  | .int i, .int j => if okMul i j = true then some (.int (i * j), S) else none
  | .ref n, .int k => match S[n]? with
    | some (.lst xs) => if (decide (0 ≤ k) && decide (k < 1000000) && decide (xs.length * k.toNat ≤ cap)) = true then some (.ref S.length, S ++ [.lst (List.replicate k.toNat xs).flatten]) else none
    | _ => none
  | _, _ => none
def okDiv (j : Int) : Bool := decide (0 < j) && decide (j < 18446744073709551616)
def oDiv : F2 := fun x y S => match x, y with
  | .int i, .int j => if okDiv j = true then some (.int (i / j), S) else none
  | _, _ => none
def oMod : F2 := fun x y S => match x, y with
  | .int i, .int j => if 0 < j then some (.int (i % j), S) else none
  | _, _ => none
def oPow : F2 := fun x y S => match x, y with
  | .int i, .int j => if (decide (0 ≤ j) && decide (j ≤ 1000) && decide (i.natAbs < 18446744073709551616)) = true then some (.int (i ^ j.toNat), S) else none
  | _, _ => none
def oNeg : F1 := fun x S => match x with
  | .int i => some (.int (-i), S)
  | _ => none
def oLt : F2 := fun x y S => match x, y with
  | .int i, .int j => some (.bl (decide (i < j)), S)
  | _, _ => none
def oLe : F2 := fun x y S => match x, y with
  | .int i, .int j => some (.bl (decide (i ≤ j)), S)
  | _, _ => none
def oGt : F2 := fun x y S => match x, y with
  | .int i, .int j => some (.bl (decide (j < i)), S)
  | _, _ => none
def oGe : F2 := fun x y S => match x, y with
  | .int i, .int j => some (.bl (decide (j ≤ i)), S)
  | _, _ => none

section
variable {c : FC} {X : Cx}
theorem dEq (hK : c.K = X.K) (hu : X.A.units + 64 < cLine) : OpR X (compareOp .Eq) (r2 c oEq) := by
  refine OpR.w (op_eqD hu) fun x y H Q h => ?_
  obtain ⟨μ, S, dx, dy, d, S', hs, rx, ry, hf, ha⟩ := h
  unfold oEq at hf
  split at hf
  · rename_i p q e1 e2
    split at hf
    · rename_i hz
      cases hf
      rw [Bool.and_eq_true] at hz
      exact ⟨p, q, by rw [← hK]; exact toPy_dp hs e1 rx, by rw [← hK]; exact toPy_dp hs e2 ry, hz.1, hz.2, ha.now hs rfl⟩
    · cases hf
  · cases hf
theorem dNe (hK : c.K = X.K) (hu : X.A.units + 64 < cLine) : OpR X (compareOp .NotEq) (r2 c oNe) := by
  refine OpR.w (op_neD hu) fun x y H Q h => ?_
  obtain ⟨μ, S, dx, dy, d, S', hs, rx, ry, hf, ha⟩ := h
  unfold oNe at hf
  split at hf
  · rename_i p q e1 e2
    split at hf
    · rename_i hz
      cases hf
      rw [Bool.and_eq_true] at hz
      exact ⟨p, q, by rw [← hK]; exact toPy_dp hs e1 rx, by rw [← hK]; exact toPy_dp hs e2 ry, hz.1, hz.2, ha.now hs rfl⟩
    · cases hf
  · cases hf
theorem op_inDict (hu : X.A.units + 1 < cLine) : OpR X (compareOp .In) (fun y x H Q => ∃ a o, x = .ref a ∧ DGet H a y o ∧ Q (.bl o.isSome) H) := by
  intro pins s σ H y x iv u Q I ry rx h
  obtain ⟨a, ov, ex, g, q⟩ := h
  subst ex
  obtain rfl : u = Value.ref a := rx
  exact d_in hu I g ry fun s3 I3 => ⟨.bl ov.isSome, H, I3, rfl, q⟩
theorem op_notInDict (hu : X.A.units + 1 < cLine) : OpR X (compareOp .NotIn) (fun y x H Q => ∃ a o, x = .ref a ∧ DGet H a y o ∧ Q (.bl (!o.isSome)) H) := by
  intro pins s σ H y x iv u Q I ry rx h
  obtain ⟨a, ov, ex, g, q⟩ := h
  subst ex
  obtain rfl : u = Value.ref a := rx
  exact d_notIn hu I g ry fun s3 I3 => ⟨.bl (!ov.isSome), H, I3, rfl, q⟩
theorem sign_rep {μ : List Addr} {H : Hp} {x : D} {v : V} {k : Nat} (h : signD x = some k) (r : Rep c μ H x v) : v = .str ⟨#[k]⟩ := by
  cases x with
  | str z =>
    obtain rfl : v = .str z := r
    unfold signD at h
    simp only at h
    split at h
    · rename_i k' e
      cases h
      have : z = ⟨#[k]⟩ := by
        obtain ⟨⟨l⟩⟩ := z
        simp at e
        rw [e]
      rw [this]
    · cases h
  | _ => cases h
theorem inB_red (neg : Bool) (hK : c.K = X.K) {x y : V} {H : Hp} {Q : VK} {μ : List Addr} {S : Sto} {dx dy : D} {b : Bool} (hs : StoOk c μ S H) (rx : Rep c μ H dx x) (ry : Rep c μ H dy y) (hf : oInB dx dy S = some b) (q : Q (.bl (if neg then !b else b)) H) :
    rIn X.K neg x y H Q ∨ (∃ (k : Nat) (z : Str), x = .str ⟨#[k]⟩ ∧ y = .str z ∧ Q (.bl (if neg then !decide (k ∈ z.cps.toList) else decide (k ∈ z.cps.toList))) H) ∨ ∃ a o, y = .ref a ∧ DGet H a x o ∧ Q (.bl (if neg then !o.isSome else o.isSome)) H := by
  cases dy with
  | tup ds =>
    obtain ⟨a, xs, rfl, hq, r⟩ := ry
    unfold oInB at hf
    simp only at hf
    split at hf
    · rename_i hz
      cases hf
      rw [Bool.and_eq_true] at hz
      exact .inl ⟨a, xs, rfl, .inr (by rw [← hK]; exact hq.sq), flat_rep hz.1 rx, flats_rep hz.2 r, by rw [in_rep hz.1 rx hz.2 r]; exact q⟩
    · cases hf
  | str z =>
    obtain rfl : y = .str z := ry
    unfold oInB at hf
    simp only at hf
    split at hf
    · rename_i k e
      cases hf
      exact .inr (.inl ⟨k, z, sign_rep e rx, rfl, q⟩)
    · cases hf
  | ref n =>
    obtain ⟨a, ha, rfl⟩ := ry
    unfold oInB at hf
    simp only at hf
    split at hf
    · rename_i ds e
      split at hf
      · rename_i hz
        cases hf
        rw [Bool.and_eq_true] at hz
        obtain ⟨a', xs, e1, hq, r⟩ := getL_sq hs e
        rw [ha] at e1
        cases e1
        exact .inl ⟨a, xs, rfl, .inl (by rw [← hK]; exact hq), flat_rep hz.1 rx, flats_rep hz.2 r, by rw [in_rep hz.1 rx hz.2 r]; exact q⟩
      · cases hf
    · split at hf
      · rename_i kvs k e1 e2
        cases hf
        obtain ⟨a', ys, e3, hq, r⟩ := getD_rd hs e1
        rw [ha] at e3
        cases e3
        refine .inr (.inr ⟨a, valV ys k, rfl, .inl ⟨ys, k, hq, keyD_rep rx e2, rfl⟩, ?_⟩)
        have ei : (valV ys k).isSome = (valG kvs k).isSome := by
          obtain ⟨i1, i2⟩ := r.val k
          cases hv : valG kvs k with
          | none => rw [i2 hv]; rfl
          | some d =>
            obtain ⟨v, e, _⟩ := i1 d hv
            rw [e]
            rfl
        rw [ei]
        exact q
      · cases hf
  | _ => cases hf
theorem dIn (hK : c.K = X.K) (hu : X.A.units + 64 < cLine) : OpR X (compareOp .In) (r2 c oIn) := by
  refine OpR.w (op_in_seq.or (op_in_sign.or (op_inDict (by omega)))) fun x y H Q h => ?_
  obtain ⟨μ, S, dx, dy, d, S', hs, rx, ry, hf, ha⟩ := h
  obtain ⟨b, e1, e2⟩ := Option.map_eq_some_iff.mp hf
  cases e2
  exact inB_red false hK hs rx ry e1 (ha.now hs rfl)
theorem dNotIn (hK : c.K = X.K) (hu : X.A.units + 64 < cLine) : OpR X (compareOp .NotIn) (r2 c oNotIn) := by
  refine OpR.w (op_notIn_seq.or (op_notIn_sign.or (op_notInDict (by omega)))) fun x y H Q h => ?_
  obtain ⟨μ, S, dx, dy, d, S', hs, rx, ry, hf, ha⟩ := h
  obtain ⟨b, e1, e2⟩ := Option.map_eq_some_iff.mp hf
  cases e2
  exact inB_red true hK hs rx ry e1 (ha.now hs rfl)
theorem dAdd (hK : c.K = X.K) : OpR X (binaryOp .Add) (r2 c oAdd) := by
  refine OpR.w (op_add.or (op_add_str.or (op_catF.or op_cat))) fun x y H Q h => ?_
  obtain ⟨μ, S, dx, dy, d, S', hs, rx, ry, hf, ha⟩ := h
  unfold oAdd at hf
  split at hf
  · cases hf
    obtain rfl := (show x = .int _ from rx)
    obtain rfl := (show y = .int _ from ry)
    exact .inl ⟨_, _, rfl, rfl, ha.now hs rfl⟩
  · split at hf
    · rename_i hz
      cases hf
      obtain rfl := (show x = .str _ from rx)
      obtain rfl := (show y = .str _ from ry)
      exact .inr (.inl ⟨_, _, rfl, rfl, cap_le hz, ha.now hs rfl⟩)
    · cases hf
  · split at hf
    · rename_i us ws hz
      cases hf
      obtain ⟨a, xs, rfl, q1, r1⟩ := rx
      obtain ⟨b, ys, rfl, q2, r2⟩ := ry
      refine .inr (.inr (.inl ⟨a, b, xs, ys, rfl, rfl, by rw [← hK]; exact q1.sq, by rw [← hK]; exact q2.sq, by rw [r1.len, r2.len]; exact cap_le hz, fun ex => ?_, fun _ ey => ?_, fun _ _ p ob hp hd => ?_⟩))
      · refine ha.now hs ⟨b, ys, rfl, q2, ?_⟩
        have : us = [] := by
          have := r1.len
          rw [ex] at this
          exact List.length_eq_zero_iff.mp this.symm
        rw [this]
        exact r2
      · refine ha.now hs ⟨a, xs, rfl, q1, ?_⟩
        have : ws = [] := by
          have := r2.len
          rw [ey] at this
          exact List.length_eq_zero_iff.mp this.symm
        rw [this, List.append_nil]
        exact r1
      · obtain ⟨x1, x2, x3⟩ := tup_new hs (r1.app r2) hp hd
        exact ha _ _ _ x1 x2 x3
    · cases hf
  · split at hf
    · rename_i n m us ws e1 e2
      split at hf
      · rename_i hz
        cases hf
        obtain ⟨a, ha1, rfl⟩ := rx
        obtain ⟨b, hb1, rfl⟩ := ry
        obtain ⟨a', g1, xs, q1, r1⟩ := hs.stands _ _ e1
        rw [ha1] at g1
        cases g1
        obtain ⟨b', g2, ys, q2, r2⟩ := hs.stands _ _ e2
        rw [hb1] at g2
        cases g2
        refine .inr (.inr (.inr ⟨a, b, xs, ys, rfl, rfl, q1, q2, by rw [r1.len, r2.len]; exact cap_le hz, fun p hp => ?_⟩))
        obtain ⟨x1, x2, x3⟩ := lst_new hs (r1.app r2) hp
        exact ha _ _ _ x1 x2 x3
      · cases hf
    · cases hf
  · cases hf
theorem dSub : OpR X (binaryOp .Sub) (r2 c oSub) := by
  refine OpR.w op_sub fun x y H Q h => ?_
  obtain ⟨μ, S, dx, dy, d, S', hs, rx, ry, hf, ha⟩ := h
  unfold oSub at hf
  split at hf
  · cases hf
    obtain rfl := (show x = .int _ from rx)
    obtain rfl := (show y = .int _ from ry)
    exact ⟨_, _, rfl, rfl, ha.now hs rfl⟩
  · cases hf
theorem okMul_c {i j : Int} (h : okMul i j = true) : CMul i j := by
  unfold okMul at h
  rw [Bool.or_eq_true, Bool.and_eq_true, Bool.and_eq_true] at h
  rcases h with h | h
  · exact .inl ⟨of_decide_eq_true h.1, of_decide_eq_true h.2⟩
  · exact .inr ⟨of_decide_eq_true h.1, of_decide_eq_true h.2⟩
theorem Reps.rep {μ : List Addr} {H : Hp} {ds : List D} {xs : List V} (r : Reps c μ H ds xs) : ∀ k : Nat, Reps c μ H (List.replicate k ds).flatten (List.replicate k xs).flatten
  | 0 => rfl
  | k + 1 => by
    rw [List.replicate_succ, List.replicate_succ, List.flatten_cons, List.flatten_cons]
    exact r.app (Reps.rep r k)
theorem dMul : OpR X (binaryOp .Mult) (r2 c oMul) := by
  refine OpR.w (op_mul.or op_rep) fun x y H Q h => ?_
  obtain ⟨μ, S, dx, dy, d, S', hs, rx, ry, hf, ha⟩ := h
  unfold oMul at hf
  split at hf
  · split at hf
    · rename_i hz
      cases hf
      obtain rfl := (show x = .int _ from rx)
      obtain rfl := (show y = .int _ from ry)
      exact .inl ⟨_, _, rfl, rfl, okMul_c hz, ha.now hs rfl⟩
    · cases hf
  · split at hf
    · rename_i n k us e1
      split at hf
      · rename_i hz
        cases hf
        obtain ⟨a, ha1, rfl⟩ := rx
        obtain rfl := (show y = .int _ from ry)
        obtain ⟨a', g1, xs, q1, r1⟩ := hs.stands _ _ e1
        rw [ha1] at g1
        cases g1
        rw [Bool.and_eq_true, Bool.and_eq_true] at hz
        obtain ⟨⟨z1, z2⟩, z3⟩ := hz
        have z1 := of_decide_eq_true z1
        have z2 := of_decide_eq_true z2
        have z3 := of_decide_eq_true z3
        refine .inr ⟨a, _, xs, rfl, rfl, q1, by omega, by omega, by rw [r1.len]; exact cap_le z3, fun p hp => ?_⟩
        obtain ⟨x1, x2, x3⟩ := lst_new hs (r1.rep _) hp
        exact ha _ _ _ x1 x2 x3
      · cases hf
    · cases hf
  · cases hf
theorem okDiv_c {i j : Int} (h : okDiv j = true) : CDivW i j := by
  unfold okDiv at h
  rw [Bool.and_eq_true] at h
  have h1 := of_decide_eq_true h.1
  have h2 := of_decide_eq_true h.2
  exact wide_div (b := 64) h1 (by omega) (by decide) (by decide)
theorem dDiv : OpR X (binaryOp .FloorDiv) (r2 c oDiv) := by
  refine OpR.w op_fdivW fun x y H Q h => ?_
  obtain ⟨μ, S, dx, dy, d, S', hs, rx, ry, hf, ha⟩ := h
  unfold oDiv at hf
  split at hf
  · split at hf
    · rename_i hz
      cases hf
      obtain rfl := (show x = .int _ from rx)
      obtain rfl := (show y = .int _ from ry)
      exact ⟨_, _, rfl, rfl, okDiv_c hz, ha.now hs rfl⟩
    · cases hf
  · cases hf
theorem dMod : OpR X (binaryOp .Mod) (r2 c oMod) := by
  refine OpR.w op_mod fun x y H Q h => ?_
  obtain ⟨μ, S, dx, dy, d, S', hs, rx, ry, hf, ha⟩ := h
  unfold oMod at hf
  split at hf
  · split at hf
    · rename_i hz
      cases hf
      obtain rfl := (show x = .int _ from rx)
      obtain rfl := (show y = .int _ from ry)
      exact ⟨_, _, rfl, rfl, hz, ha.now hs rfl⟩
    · cases hf
  · cases hf
theorem dPow : OpR X (binaryOp .Pow) (r2 c oPow) := by
  refine OpR.w op_pow fun x y H Q h => ?_
  obtain ⟨μ, S, dx, dy, d, S', hs, rx, ry, hf, ha⟩ := h
  unfold oPow at hf
  split at hf
  · split at hf
    · rename_i i j hz
      cases hf
      obtain rfl := (show x = .int _ from rx)
      obtain rfl := (show y = .int _ from ry)
      rw [Bool.and_eq_true, Bool.and_eq_true] at hz
      obtain ⟨⟨z1, z2⟩, z3⟩ := hz
      have z1 := of_decide_eq_true z1
      have z2 := of_decide_eq_true z2
      have z3 := of_decide_eq_true z3
      exact ⟨_, _, rfl, rfl, ⟨z1, by omega, by omega⟩, ha.now hs rfl⟩
    · cases hf
  · cases hf
theorem dNeg : UnR X (unaryOp .USub) (r1 c oNeg) := by
  refine UnR.w un_neg fun x H Q h => ?_
  obtain ⟨μ, S, dx, d, S', hs, rx, hf, ha⟩ := h
  unfold oNeg at hf
  split at hf
  · cases hf
    obtain rfl := (show x = .int _ from rx)
    exact ⟨_, rfl, ha.now hs rfl⟩
  · cases hf
theorem dLt : OpR X (compareOp .Lt) (r2 c oLt) := by
  refine OpR.w op_lt fun x y H Q h => ?_
  obtain ⟨μ, S, dx, dy, d, S', hs, rx, ry, hf, ha⟩ := h
  unfold oLt at hf
  split at hf
  · cases hf
    obtain rfl := (show x = .int _ from rx)
    obtain rfl := (show y = .int _ from ry)
    exact ⟨_, _, rfl, rfl, ha.now hs rfl⟩
  · cases hf
theorem dLe : OpR X (compareOp .LtE) (r2 c oLe) := by
  refine OpR.w op_le fun x y H Q h => ?_
  obtain ⟨μ, S, dx, dy, d, S', hs, rx, ry, hf, ha⟩ := h
  unfold oLe at hf
  split at hf
  · cases hf
    obtain rfl := (show x = .int _ from rx)
    obtain rfl := (show y = .int _ from ry)
    exact ⟨_, _, rfl, rfl, ha.now hs rfl⟩
  · cases hf
theorem dGt : OpR X (compareOp .Gt) (r2 c oGt) := by
  refine OpR.w op_gt fun x y H Q h => ?_
  obtain ⟨μ, S, dx, dy, d, S', hs, rx, ry, hf, ha⟩ := h
  unfold oGt at hf
  split at hf
  · cases hf
    obtain rfl := (show x = .int _ from rx)
    obtain rfl := (show y = .int _ from ry)
    exact ⟨_, _, rfl, rfl, ha.now hs rfl⟩
  · cases hf
theorem dGe : OpR X (compareOp .GtE) (r2 c oGe) := by
  refine OpR.w op_ge fun x y H Q h => ?_
  obtain ⟨μ, S, dx, dy, d, S', hs, rx, ry, hf, ha⟩ := h
  unfold oGe at hf
  split at hf
  · cases hf
    obtain rfl := (show x = .int _ from rx)
    obtain rfl := (show y = .int _ from ry)
    exact ⟨_, _, rfl, rfl, ha.now hs rfl⟩
  · cases hf
end
end FL
/-! FL5: subscripts, slices, built-ins, methods, dict displays, fields, instances. -/
namespace FL
open PySem PySem.Spec PyProof.Rows L2

/-! ### subscripts -/
def oIx : F2 := fun x y S => match x with
  | .tup ds => match y with
    | .int i => (atI ds i).map fun d => (d, S)
    | _ => none
  | .str z => match y with
    | .int i => if z.length ≤ cap then (atI z.cps.toList i).map fun k => (.str ⟨#[k]⟩, S) else none
    | _ => none
  | .ref n => match getL S n with
    | some ds => match y with
      | .int i => (atI ds i).map fun d => (d, S)
      | _ => none
    | none => match getD S n, keyD y with
      | some kvs, some k => (valG kvs k).map fun d => (d, S)
      | _, _ => none
  | _ => none
section
variable {c : FC} {X : Cx}
theorem ix_dict (hu : X.A.units + 1 < cLine) : IxR X (fun x y H Q => ∃ a v, x = .ref a ∧ DGet H a y (some v) ∧ Q v H) := by
  intro value slice pins s σ H x y v u Q I rx ry h hs
  obtain ⟨a, w', ex, g, q⟩ := h
  subst ex
  obtain rfl : v = Value.ref a := rx
  have hT := dict_typeIs I g
  unfold subscriptTail
  refine wpAny_bind ?_
  rw [getitemInPython_of_ne hT.not_modules]
  refine wpAny_bind (wpAny_specialOf hT PySem.F.slot_dict_getitem.lookup ?_)
  have fin : wpAny (model X.prog X.w) X.A (subscripted slice false (.ref a) u) (fun r s₃ => wpAny (model X.prog X.w) X.A (letTemporaryGo value (.ref a) r >>= fun _ => pure r) (EP X pins σ Q) X.xe s₃) X.xe s := by
    rw [hs]
    exact wpAny_operating (d_getItem hu I g ry fun w3 s3 I3 rw3 => wpAny_bind (wpAny_letTemporaryGo (wpAny_pure ⟨w', H, I3, rw3, q⟩)))
  first
    | exact wpAny_pure (wpAny_bind fin)
    | exact wpAny_bind (wpAny_pure (wpAny_bind fin))
    | exact wpAny_bind fin
theorem atI_rep {μ : List Addr} {H : Hp} {ds : List D} {xs : List V} {i : Int} {d : D} (r : Reps c μ H ds xs) (h : atI ds i = some d) : ∃ v, atI xs i = some v ∧ Rep c μ H d v := by
  unfold atI at h ⊢
  obtain ⟨j, e1, e2⟩ := Option.bind_eq_some_iff.mp h
  obtain ⟨v, e3, e4⟩ := r.get e2
  exact ⟨v, by rw [r.len, e1]; exact e3, e4⟩
theorem dIx (hK : c.K = X.K) (hu : X.A.units + 64 < cLine) : IxR X (r2 c oIx) := by
  refine IxR.w (ix_seq.or (ix_dict (by omega))) fun x y H Q h => ?_
  obtain ⟨μ, S, dx, dy, d, S', hs, rx, ry, hf, ha⟩ := h
  unfold oIx at hf
  cases dx with
  | tup ds =>
    obtain ⟨a, xs, rfl, q1, r1⟩ := rx
    cases dy with
    | int i =>
      obtain rfl := (show y = .int _ from ry)
      obtain ⟨d', e1, e2⟩ := Option.map_eq_some_iff.mp hf
      cases e2
      obtain ⟨v, e3, e4⟩ := atI_rep r1 e1
      exact .inl (.inr (.inl ⟨a, xs, i, v, rfl, rfl, by rw [← hK]; exact q1.sq, e3, ha.now hs e4⟩))
    | _ => cases hf
  | str z =>
    obtain rfl := (show x = .str _ from rx)
    cases dy with
    | int i =>
      obtain rfl := (show y = .int _ from ry)
      simp only at hf
      split at hf
      · rename_i hz
        obtain ⟨d', e1, e2⟩ := Option.map_eq_some_iff.mp hf
        cases e2
        exact .inl (.inr (.inr ⟨z, i, d', rfl, rfl, cap_le hz, e1, ha.now hs rfl⟩))
      · cases hf
    | _ => cases hf
  | ref n =>
    obtain ⟨a, ha1, rfl⟩ := rx
    simp only at hf
    split at hf
    · rename_i ds e
      obtain ⟨a', xs, g1, q1, r1⟩ := getL_sq hs e
      rw [ha1] at g1
      cases g1
      cases dy with
      | int i =>
        obtain rfl := (show y = .int _ from ry)
        obtain ⟨d', e1, e2⟩ := Option.map_eq_some_iff.mp hf
        cases e2
        obtain ⟨v, e3, e4⟩ := atI_rep r1 e1
        exact .inl (.inl ⟨a, xs, i, v, rfl, rfl, by rw [← hK]; exact q1, e3, ha.now hs e4⟩)
      | _ => cases hf
    · split at hf
      · rename_i kvs k e1 e2
        obtain ⟨d', e3, e4⟩ := Option.map_eq_some_iff.mp hf
        cases e4
        obtain ⟨a', ys, g1, q1, r1⟩ := getD_rd hs e1
        rw [ha1] at g1
        cases g1
        obtain ⟨v, e5, e6⟩ := (r1.val k).1 _ e3
        exact .inr ⟨a, v, rfl, .inl ⟨ys, k, q1, keyD_rep ry e2, e5.symm⟩, ha.now hs e6⟩
      · cases hf
  | _ => cases hf

/-! ### slices -/
def cutG {α : Type} (xs : List α) (lo hi : Option Int) : List α := (xs.drop (HT.sIx xs.length 0 lo)).take (HT.sIx xs.length xs.length hi - HT.sIx xs.length 0 lo)
def oSl (x : D) (lo hi : Option Int) (S : Sto) : Option (D × Sto) := match x with
  | .tup ds => some (.tup (cutG ds lo hi), S)
  | .str z => if z.length ≤ cap then some (.str (cutS z lo hi), S) else none
  | .ref n => match getL S n with
    | some ds => some (.ref S.length, S ++ [.lst (cutG ds lo hi)])
    | none => none
  | _ => none
abbrev FO := Env → Sto → Option (Option Int × Sto)
def pNo : FO := fun _ S => some (none, S)
def pPart (fe : FE) : FO := fun env S => th (fe env S) fun d S1 => match d with
  | .int i => some (some i, S1)
  | _ => none
def tO (c : FC) (f : FO) : TO := fun σ H Q => ∃ μ env S o S', EnvOk c μ H env σ ∧ StoOk c μ S H ∧ f env S = some (o, S') ∧ ∀ μ' H', Ext c μ H μ' H' → StoOk c μ' S' H' → Q o H'
def eSl (fe : FE) (fl fh : FO) : FE := fun env S => th (fe env S) fun x S1 => th (fl env S1) fun l S2 => th (fh env S2) fun h S3 => oSl x l h S3
theorem PO.w {e : Option Expr} {t t' : TO} (h : PO X e t) (w : ∀ σ H Q, t' σ H Q → t σ H Q) : PO X e t' := ⟨fun pins s σ H Q I q => h.run pins s σ H Q I (w σ H Q q)⟩
theorem q_pno : PO X none (tO c pNo) := by
  refine PO.w po_none fun σ H Q h => ?_
  obtain ⟨μ, env, S, o, S', he, hs, hf, ha⟩ := h
  cases hf
  exact ha μ H Ext.refl hs
theorem q_ppart {e : Expr} {fe : FE} (h : PE X e (tE c fe)) : PO X (some e) (tO c (pPart fe)) := by
  refine PO.w (po_some h) fun σ H Q h => ?_
  obtain ⟨μ, env, S, o, S', he, hs, hf, ha⟩ := h
  obtain ⟨d, S1, h1, hf⟩ := th_inv hf
  refine ⟨μ, env, S, d, S1, he, hs, h1, fun μ1 H1 v e1 k1 r1 => ?_⟩
  cases d with
  | int i =>
    cases hf
    exact ⟨i, r1, ha _ _ e1 k1⟩
  | _ => cases hf
theorem cut_rep {μ : List Addr} {H : Hp} {ds : List D} {xs : List V} (r : Reps c μ H ds xs) (lo hi : Option Int) : Reps c μ H (cutG ds lo hi) (cutV xs lo hi) := by
  unfold cutG cutV
  rw [r.len]
  exact (r.drop _).take _
theorem cut_whole {α : Type} {xs : List α} {lo hi : Option Int} (h : HT.sIx xs.length 0 lo = 0 ∧ HT.sIx xs.length xs.length hi = xs.length) : cutG xs lo hi = xs := by
  unfold cutG
  rw [h.1, h.2]
  simp
theorem q_sl (hK : c.K = X.K) {e : Expr} {lo hi : Option Expr} {p2 pos : Pos} {fe : FE} {fl fh : FO} (he : PE X e (tE c fe)) (hl : PO X lo (tO c fl)) (hh : PO X hi (tO c fh)) : PE X (.Subscript e (.Slice lo hi none p2) pos) (tE c (eSl fe fl fh)) := by
  refine PE.w (pe_slice (sl_list.or (sl_tupF.or sl_str)) he hl hh) fun σ H Q h => ?_
  obtain ⟨μ, env, S, d, S', he, hs, hf, ha⟩ := h
  obtain ⟨x, S1, h1, hf⟩ := th_inv hf
  obtain ⟨l, S2, h2, hf⟩ := th_inv hf
  obtain ⟨u, S3, h3, hf⟩ := th_inv hf
  refine ⟨μ, env, S, x, S1, he, hs, h1, fun μ1 H1 v e1 k1 r1 => ?_⟩
  refine ⟨μ1, env, S1, l, S2, he.mono e1, k1, h2, fun μ2 H2 e2 k2 => ?_⟩
  refine ⟨μ2, env, S2, u, S3, (he.mono e1).mono e2, k2, h3, fun μ3 H3 e3 k3 => ?_⟩
  have r3 : Rep c μ3 H3 x v := Rep.mono e3 _ _ (Rep.mono e2 _ _ r1)
  have ha3 := ((ha.ext e1).ext e2).ext e3
  unfold oSl at hf
  cases x with
  | tup ds =>
    cases hf
    obtain ⟨a, xs, rfl, q, rr⟩ := r3
    refine .inr (.inl ⟨a, xs, rfl, by rw [← hK]; exact q.sq, fun hw => ?_, fun _ p ob hp hd => ?_⟩)
    · refine ha3.now k3 ?_
      rw [cut_whole (by rw [← rr.len]; exact hw)]
      exact ⟨a, xs, rfl, q, rr⟩
    · obtain ⟨x1, x2, x3⟩ := tup_new k3 (cut_rep rr l u) hp hd
      exact ha3 _ _ _ x1 x2 x3
  | str z =>
    simp only at hf
    split at hf
    · rename_i hz
      cases hf
      obtain rfl := (show v = .str z from r3)
      exact .inr (.inr ⟨z, rfl, cap_le hz, ha3.now k3 rfl⟩)
    · cases hf
  | ref n =>
    obtain ⟨a, ha1, rfl⟩ := r3
    simp only at hf
    split at hf
    · rename_i ds e
      cases hf
      obtain ⟨a', xs, g1, q1, rr⟩ := getL_sq k3 e
      rw [ha1] at g1
      cases g1
      refine .inl ⟨a, xs, rfl, by rw [← hK]; exact q1, fun p hp => ?_⟩
      obtain ⟨x1, x2, x3⟩ := lst_new k3 (cut_rep rr l u) hp
      exact ha3 _ _ _ x1 x2 x3
    · cases hf
  | _ => cases hf

/-! ### built-ins -/
def fLen : FF := fun ds S => match ds with
  | [.str z] => if z.length ≤ cap then some (.int z.length, S) else none
  | [.tup xs] => some (.int xs.length, S)
  | [.ref n] => match getL S n with
    | some xs => some (.int xs.length, S)
    | none => match S[n]? with
      | some (.dic kvs) => some (.int kvs.length, S)
      | _ => none
  | _ => none
theorem Reps.one_inv {μ : List Addr} {H : Hp} {d : D} {xs : List V} (r : Reps c μ H [d] xs) : ∃ v, xs = [v] ∧ Rep c μ H d v := by
  obtain ⟨v, vs, rfl, h, k⟩ := r
  obtain rfl : vs = [] := k
  exact ⟨v, rfl, h⟩
theorem Reps.two_inv {μ : List Addr} {H : Hp} {d e : D} {xs : List V} (r : Reps c μ H [d, e] xs) : ∃ v w, xs = [v, w] ∧ Rep c μ H d v ∧ Rep c μ H e w := by
  obtain ⟨v, vs, rfl, h, k⟩ := r
  obtain ⟨w, rfl, k'⟩ := k.one_inv
  exact ⟨v, w, rfl, h, k'⟩
theorem cLen (hK : c.K = X.K) : CallR X (.builtin "len") (rA c fLen) := by
  refine CallR.w (call_len_str.or (call_len_seq.or call_lenD)) fun xs H Q h => ?_
  obtain ⟨μ, S, ds, d, S', hs, rs, hf, ha⟩ := h
  unfold fLen at hf
  split at hf
  · split at hf
    · rename_i z hz
      cases hf
      obtain ⟨v, rfl, r⟩ := rs.one_inv
      obtain rfl := (show v = .str z from r)
      exact .inl ⟨z, rfl, cap_le hz, ha.now hs rfl⟩
    · cases hf
  · cases hf
    obtain ⟨v, rfl, a, ys, rfl, q, rr⟩ := rs.one_inv
    refine .inr (.inl ⟨a, ys, rfl, .inr (by rw [← hK]; exact q.sq), ?_⟩)
    rw [rr.len]
    exact ha.now hs rfl
  · obtain ⟨v, rfl, a, ha1, rfl⟩ := rs.one_inv
    split at hf
    · rename_i us e
      cases hf
      obtain ⟨a', ys, g1, q1, rr⟩ := getL_sq hs e
      rw [ha1] at g1
      cases g1
      refine .inr (.inl ⟨a, ys, rfl, .inl (by rw [← hK]; exact q1), ?_⟩)
      rw [rr.len]
      exact ha.now hs rfl
    · split at hf
      · rename_i kvs e
        cases hf
        obtain ⟨a', g1, ys, q1, rr⟩ := hs.stands _ _ e
        rw [ha1] at g1
        cases g1
        refine .inr (.inr ⟨a, ys, rfl, q1, ?_⟩)
        rw [rr.len]
        exact ha.now hs rfl
      · cases hf
  · cases hf
def fAbs : FF := fun ds S => match ds with
  | [.int i] => some (.int (if i < 0 then -i else i), S)
  | _ => none
theorem cAbs : CallR X (.builtin "abs") (rA c fAbs) := by
  refine CallR.w call_abs fun xs H Q h => ?_
  obtain ⟨μ, S, ds, d, S', hs, rs, hf, ha⟩ := h
  unfold fAbs at hf
  split at hf
  · cases hf
    obtain ⟨v, rfl, r⟩ := rs.one_inv
    obtain rfl := (show v = .int _ from r)
    exact ⟨_, rfl, ha.now hs rfl⟩
  · cases hf
def fInt : FF := fun ds S => match ds with
  | [.int i] => some (.int i, S)
  | [.bl b] => some (.int (if b = true then 1 else 0), S)
  | [.str z] => if z.length ≤ 640 then (PySem.intText? z).map fun n => (.int n, S) else none
  | _ => none
theorem cInt : CallR X (.type "int") (rA c fInt) := by
  refine CallR.w (call_int1.or call_int_str) fun xs H Q h => ?_
  obtain ⟨μ, S, ds, d, S', hs, rs, hf, ha⟩ := h
  unfold fInt at hf
  split at hf
  · cases hf
    obtain ⟨v, rfl, r⟩ := rs.one_inv
    obtain rfl := (show v = .int _ from r)
    exact .inl (.inl ⟨_, rfl, ha.now hs rfl⟩)
  · cases hf
    obtain ⟨v, rfl, r⟩ := rs.one_inv
    obtain rfl := (show v = .bl _ from r)
    exact .inl (.inr ⟨_, rfl, ha.now hs rfl⟩)
  · split at hf
    · rename_i z hz
      obtain ⟨n, e1, e2⟩ := Option.map_eq_some_iff.mp hf
      cases e2
      obtain ⟨v, rfl, r⟩ := rs.one_inv
      obtain rfl := (show v = .str _ from r)
      exact .inr ⟨z, n, rfl, e1, hz, ha.now hs rfl⟩
    · cases hf
  · cases hf
def fBool : FF := fun ds S => match ds with
  | [.int i] => some (.bl (i != 0), S)
  | [.bl b] => some (.bl b, S)
  | [.ref n] => (getL S n).map fun xs => (.bl (!xs.isEmpty), S)
  | _ => none
theorem cBool (hK : c.K = X.K) : CallR X (.type "bool") (rA c fBool) := by
  refine CallR.w (call_bool1.or call_boolL) fun xs H Q h => ?_
  obtain ⟨μ, S, ds, d, S', hs, rs, hf, ha⟩ := h
  unfold fBool at hf
  split at hf
  · cases hf
    obtain ⟨v, rfl, r⟩ := rs.one_inv
    obtain rfl := (show v = .int _ from r)
    exact .inl (.inl ⟨_, rfl, ha.now hs rfl⟩)
  · cases hf
    obtain ⟨v, rfl, r⟩ := rs.one_inv
    obtain rfl := (show v = .bl _ from r)
    exact .inl (.inr ⟨_, rfl, ha.now hs rfl⟩)
  · obtain ⟨us, e1, e2⟩ := Option.map_eq_some_iff.mp hf
    cases e2
    obtain ⟨v, rfl, a, ha1, rfl⟩ := rs.one_inv
    obtain ⟨a', ys, g1, q1, rr⟩ := getL_sq hs e1
    rw [ha1] at g1
    cases g1
    refine .inr ⟨a, ys, rfl, by rw [← hK]; exact q1, ?_⟩
    rw [← isEmpty_reps rr]
    exact ha.now hs rfl
  · cases hf
def fStr : FF := fun ds S => match ds with
  | [.int i] => if i.natAbs < 1000000000000000000000 then some (.str (toString i), S) else none
  | [.str z] => some (.str z, S)
  | _ => none
theorem cStr : CallR X (.type "str") (rA c fStr) := by
  refine CallR.w (call_str_int.or SkE.call_str_str) fun xs H Q h => ?_
  obtain ⟨μ, S, ds, d, S', hs, rs, hf, ha⟩ := h
  unfold fStr at hf
  split at hf
  · split at hf
    · rename_i i hz
      cases hf
      obtain ⟨v, rfl, r⟩ := rs.one_inv
      obtain rfl := (show v = .int _ from r)
      refine .inl ⟨_, rfl, ?_, ha.now hs rfl⟩
      have h1 : i.natAbs < 2 ^ 70 := by omega
      have := PySem.Flt.log2_lt_of (by decide : 0 < 70) h1
      omega
    · cases hf
  · cases hf
    obtain ⟨v, rfl, r⟩ := rs.one_inv
    obtain rfl := (show v = .str _ from r)
    exact .inr ⟨_, rfl, ha.now hs rfl⟩
  · cases hf

/-! lists of ints, of bools -/
def intsD : List D → Option (List Int)
  | [] => some []
  | .int i :: ds => (intsD ds).map fun ns => i :: ns
  | _ :: _ => none
def boolsD : List D → Option (List Bool)
  | [] => some []
  | .bl i :: ds => (boolsD ds).map fun ns => i :: ns
  | _ :: _ => none
theorem intsD_rep {μ : List Addr} {H : Hp} : ∀ {ds : List D} {ns : List Int} {xs : List V}, intsD ds = some ns → Reps c μ H ds xs → xs = ns.map V.int
  | [], _, _, h, r => by
    cases h
    exact r
  | .int i :: ds, ns, xs, h, r => by
    obtain ⟨ms, e1, e2⟩ := Option.map_eq_some_iff.mp h
    subst e2
    obtain ⟨v, vs, rfl, r1, r2⟩ := r
    obtain rfl := (show v = .int i from r1)
    rw [intsD_rep e1 r2]
    rfl
theorem boolsD_rep {μ : List Addr} {H : Hp} : ∀ {ds : List D} {ns : List Bool} {xs : List V}, boolsD ds = some ns → Reps c μ H ds xs → xs = ns.map V.bl
  | [], _, _, h, r => by
    cases h
    exact r
  | .bl i :: ds, ns, xs, h, r => by
    obtain ⟨ms, e1, e2⟩ := Option.map_eq_some_iff.mp h
    subst e2
    obtain ⟨v, vs, rfl, r1, r2⟩ := r
    obtain rfl := (show v = .bl i from r1)
    rw [boolsD_rep e1 r2]
    rfl
theorem ints_rep {μ : List Addr} {H : Hp} : ∀ (ns : List Int), Reps c μ H (ns.map D.int) (ns.map V.int)
  | [] => rfl
  | i :: ns => ⟨_, _, rfl, rfl, ints_rep ns⟩
def ints1 (ds : List D) (S : Sto) : Option (List Int) := match ds with
  | [.ref n] => (getL S n).bind intsD
  | _ => none
theorem ints1_rep {μ : List Addr} {S : Sto} {H : Hp} {ds : List D} {ns : List Int} {xs : List V} (hs : StoOk c μ S H) (h : ints1 ds S = some ns) (r : Reps c μ H ds xs) : ∃ a, xs = [.ref a] ∧ SqL c.K H a (ns.map V.int) := by
  unfold ints1 at h
  split at h
  · obtain ⟨us, e1, e2⟩ := Option.bind_eq_some_iff.mp h
    obtain ⟨v, rfl, a, ha1, rfl⟩ := r.one_inv
    obtain ⟨a', ys, g1, q1, rr⟩ := getL_sq hs e1
    rw [ha1] at g1
    cases g1
    rw [intsD_rep e2 rr] at q1
    exact ⟨a, rfl, q1⟩
  · cases h
def maxL : List Int → Int
  | [] => 0
  | [x] => x
  | x :: y :: r => max x (maxL (y :: r))
def minL : List Int → Int
  | [] => 0
  | [x] => x
  | x :: y :: r => min x (minL (y :: r))
theorem maxL_mem : ∀ (l : List Int), l ≠ [] → maxL l ∈ l ∧ ∀ y ∈ l, y ≤ maxL l
  | [], h => absurd rfl h
  | [x], _ => by simp [maxL]
  | x :: y :: r, _ => by
    obtain ⟨h1, h2⟩ := maxL_mem (y :: r) (by simp)
    have e : maxL (x :: y :: r) = max x (maxL (y :: r)) := rfl
    rw [e]
    refine ⟨?_, fun z hz => ?_⟩
    · by_cases q : x ≤ maxL (y :: r)
      · rw [Int.max_eq_right q]
        exact List.mem_cons_of_mem _ h1
      · rw [Int.max_eq_left (by omega)]
        exact List.mem_cons_self
    · rcases List.mem_cons.mp hz with rfl | hz
      · exact Int.le_max_left _ _
      · exact Int.le_trans (h2 z hz) (Int.le_max_right _ _)
theorem minL_mem : ∀ (l : List Int), l ≠ [] → minL l ∈ l ∧ ∀ y ∈ l, minL l ≤ y
  | [], h => absurd rfl h
  | [x], _ => by simp [minL]
  | x :: y :: r, _ => by
    obtain ⟨h1, h2⟩ := minL_mem (y :: r) (by simp)
    have e : minL (x :: y :: r) = min x (minL (y :: r)) := rfl
    rw [e]
    refine ⟨?_, fun z hz => ?_⟩
    · by_cases q : x ≤ minL (y :: r)
      · rw [Int.min_eq_left q]
        exact List.mem_cons_self
      · rw [Int.min_eq_right (by omega)]
        exact List.mem_cons_of_mem _ h1
    · rcases List.mem_cons.mp hz with rfl | hz
      · exact Int.min_le_left _ _
      · exact Int.le_trans (Int.min_le_right _ _) (h2 z hz)
def fMax : FF := fun ds S => match ds with
  | [.int i, .int j] => some (.int (if j > i then j else i), S)
  | _ => match ints1 ds S with
    | some ns => if ns ≠ [] then some (.int (maxL ns), S) else none
    | none => none
def fMin : FF := fun ds S => match ds with
  | [.int i, .int j] => some (.int (if j < i then j else i), S)
  | _ => match ints1 ds S with
    | some ns => if ns ≠ [] then some (.int (minL ns), S) else none
    | none => none
theorem cMax (hK : c.K = X.K) (hc : X.calm = true) : CallR X (.builtin "max") (rA c fMax) := by
  refine CallR.w ((call_max2 hc).or (cr_max hc)) fun xs H Q h => ?_
  obtain ⟨μ, S, ds, d, S', hs, rs, hf, ha⟩ := h
  unfold fMax at hf
  split at hf
  · cases hf
    obtain ⟨v, w, rfl, r1, r2⟩ := rs.two_inv
    obtain rfl := (show v = .int _ from r1)
    obtain rfl := (show w = .int _ from r2)
    exact .inl ⟨_, _, rfl, ha.now hs rfl⟩
  · split at hf
    · rename_i ns e
      split at hf
      · rename_i hne
        cases hf
        obtain ⟨a, rfl, q⟩ := ints1_rep hs e rs
        obtain ⟨m1, m2⟩ := maxL_mem ns hne
        refine .inr ⟨a, ns, rfl, by rw [← hK]; exact q, List.length_pos_iff.mpr hne, fun m h1 h2 => ?_⟩
        have em : m = maxL ns := Int.le_antisymm (m2 m h1) (h2 _ m1)
        rw [em]
        exact ha.now hs rfl
      · cases hf
    · cases hf
theorem cMin (hK : c.K = X.K) (hc : X.calm = true) : CallR X (.builtin "min") (rA c fMin) := by
  refine CallR.w ((call_min2 hc).or (cr_min hc)) fun xs H Q h => ?_
  obtain ⟨μ, S, ds, d, S', hs, rs, hf, ha⟩ := h
  unfold fMin at hf
  split at hf
  · cases hf
    obtain ⟨v, w, rfl, r1, r2⟩ := rs.two_inv
    obtain rfl := (show v = .int _ from r1)
    obtain rfl := (show w = .int _ from r2)
    exact .inl ⟨_, _, rfl, ha.now hs rfl⟩
  · split at hf
    · rename_i ns e
      split at hf
      · rename_i hne
        cases hf
        obtain ⟨a, rfl, q⟩ := ints1_rep hs e rs
        obtain ⟨m1, m2⟩ := minL_mem ns hne
        refine .inr ⟨a, ns, rfl, by rw [← hK]; exact q, List.length_pos_iff.mpr hne, fun m h1 h2 => ?_⟩
        have em : m = minL ns := Int.le_antisymm (h2 _ m1) (m2 m h1)
        rw [em]
        exact ha.now hs rfl
      · cases hf
    · cases hf
def fSum : FF := fun ds S => (ints1 ds S).map fun ns => (.int ns.sum, S)
theorem cSum (hK : c.K = X.K) (hc : X.calm = true) : CallR X (.builtin "sum") (rA c fSum) := by
  refine CallR.w (cr_sum hc) fun xs H Q h => ?_
  obtain ⟨μ, S, ds, d, S', hs, rs, hf, ha⟩ := h
  obtain ⟨ns, e1, e2⟩ := Option.map_eq_some_iff.mp hf
  cases e2
  obtain ⟨a, rfl, q⟩ := ints1_rep hs e1 rs
  exact ⟨a, ns, rfl, by rw [← hK]; exact q, ha.now hs rfl⟩
def bools1 (ds : List D) (S : Sto) : Option (List Bool) := match ds with
  | [.ref n] => (getL S n).bind boolsD
  | _ => none
theorem bools1_rep {μ : List Addr} {S : Sto} {H : Hp} {ds : List D} {ns : List Bool} {xs : List V} (hs : StoOk c μ S H) (h : bools1 ds S = some ns) (r : Reps c μ H ds xs) : ∃ a, xs = [.ref a] ∧ SqL c.K H a (ns.map V.bl) := by
  unfold bools1 at h
  split at h
  · obtain ⟨us, e1, e2⟩ := Option.bind_eq_some_iff.mp h
    obtain ⟨v, rfl, a, ha1, rfl⟩ := r.one_inv
    obtain ⟨a', ys, g1, q1, rr⟩ := getL_sq hs e1
    rw [ha1] at g1
    cases g1
    rw [boolsD_rep e2 rr] at q1
    exact ⟨a, rfl, q1⟩
  · cases h
def fAny : FF := fun ds S => (bools1 ds S).map fun bs => (.bl (bs.any id), S)
def fAll : FF := fun ds S => (bools1 ds S).map fun bs => (.bl (bs.all id), S)
end
/-- sorted, of ints -/
def insI (x : Int) : List Int → List Int
  | [] => [x]
  | y :: r => if x ≤ y then x :: y :: r else y :: insI x r
def sortI : List Int → List Int
  | [] => []
  | x :: r => insI x (sortI r)
theorem insI_perm (x : Int) : ∀ l : List Int, (insI x l).Perm (x :: l)
  | [] => List.Perm.refl _
  | y :: r => by
    unfold insI
    split
    · exact List.Perm.refl _
    · exact ((insI_perm x r).cons y).trans (List.Perm.swap x y r)
theorem sortI_perm : ∀ l : List Int, (sortI l).Perm l
  | [] => List.Perm.refl _
  | x :: r => (insI_perm x (sortI r)).trans ((sortI_perm r).cons x)
theorem insI_sorted (x : Int) : ∀ l : List Int, l.Pairwise (· ≤ ·) → (insI x l).Pairwise (· ≤ ·)
  | [], _ => List.pairwise_singleton _ _
  | y :: r, h => by
    have h1 : ∀ {z : Int}, z ∈ r → y ≤ z := fun hz => List.rel_of_pairwise_cons h hz
    have h2 := h.of_cons
    unfold insI
    split
    · rename_i q
      refine List.pairwise_cons.mpr ⟨fun z hz => ?_, h⟩
      rcases List.mem_cons.mp hz with rfl | hz
      · exact q
      · exact Int.le_trans q (h1 hz)
    · rename_i q
      refine List.pairwise_cons.mpr ⟨fun z hz => ?_, insI_sorted x r h2⟩
      rcases List.mem_cons.mp ((insI_perm x r).mem_iff.mp hz) with rfl | hz
      · omega
      · exact h1 hz
theorem sortI_sorted : ∀ l : List Int, (sortI l).Pairwise (· ≤ ·)
  | [] => List.Pairwise.nil
  | x :: r => insI_sorted x _ (sortI_sorted r)
theorem sorted_uniq : ∀ {l m : List Int}, l.Perm m → l.Pairwise (· ≤ ·) → m.Pairwise (· ≤ ·) → l = m
  | [], m, p, _, _ => (List.Perm.nil_eq p)
  | x :: r, [], p, _, _ => absurd p.length_eq (by simp)
  | x :: r, y :: q, p, h, k => by
    have e : x = y := by
      have h1 : x ∈ y :: q := p.mem_iff.mp List.mem_cons_self
      have h2 : y ∈ x :: r := p.symm.mem_iff.mp List.mem_cons_self
      rcases List.mem_cons.mp h1 with e | h1
      · exact e
      · rcases List.mem_cons.mp h2 with e | h2
        · exact e.symm
        · exact Int.le_antisymm (List.rel_of_pairwise_cons h h2) (List.rel_of_pairwise_cons k h1)
    subst e
    rw [sorted_uniq (p.cons_inv) h.of_cons k.of_cons]
section
variable {c : FC} {X : Cx}
theorem cAny (hK : c.K = X.K) (hc : X.calm = true) (h : CallR X (.builtin "any") (L2.rAny X.K)) : CallR X (.builtin "any") (rA c fAny) := by
  refine CallR.w h fun xs H Q h => ?_
  obtain ⟨μ, S, ds, d, S', hs, rs, hf, ha⟩ := h
  obtain ⟨ns, e1, e2⟩ := Option.map_eq_some_iff.mp hf
  cases e2
  obtain ⟨a, rfl, q⟩ := bools1_rep hs e1 rs
  exact ⟨a, ns, rfl, by rw [← hK]; exact q, ha.now hs rfl⟩
theorem cAll (hK : c.K = X.K) (hc : X.calm = true) (h : CallR X (.builtin "all") (L2.rAll X.K)) : CallR X (.builtin "all") (rA c fAll) := by
  refine CallR.w h fun xs H Q h => ?_
  obtain ⟨μ, S, ds, d, S', hs, rs, hf, ha⟩ := h
  obtain ⟨ns, e1, e2⟩ := Option.map_eq_some_iff.mp hf
  cases e2
  obtain ⟨a, rfl, q⟩ := bools1_rep hs e1 rs
  exact ⟨a, ns, rfl, by rw [← hK]; exact q, ha.now hs rfl⟩
def fSortI : FF := fun ds S => (ints1 ds S).map fun ns => (.ref S.length, S ++ [.lst ((sortI ns).map D.int)])
theorem cSortI (hK : c.K = X.K) : CallR X (.builtin "sorted") (rA c fSortI) := by
  refine CallR.w cr_sortedI fun xs H Q h => ?_
  obtain ⟨μ, S, ds, d, S', hs, rs, hf, ha⟩ := h
  obtain ⟨ns, e1, e2⟩ := Option.map_eq_some_iff.mp hf
  cases e2
  obtain ⟨a, rfl, q⟩ := ints1_rep hs e1 rs
  refine ⟨a, ns, rfl, by rw [← hK]; exact q, fun ns' p h1 h2 hp => ?_⟩
  have e : ns' = sortI ns := sorted_uniq (h1.trans (sortI_perm ns).symm) h2 (sortI_sorted ns)
  rw [e]
  obtain ⟨x1, x2, x3⟩ := lst_new hs (ints_rep (sortI ns)) hp
  exact ha _ _ _ x1 x2 x3
def fList : FF := fun ds S => match ds with
  | [.tup xs] => some (.ref S.length, S ++ [.lst xs])
  | [.ref n] => match getL S n with
    | some xs => some (.ref S.length, S ++ [.lst xs])
    | none => match getD S n with
      | some kvs => some (.ref S.length, S ++ [.lst (kvs.map fun kv => dKey kv.1)])
      | none => none
  | _ => none
theorem keys_rep {μ : List Addr} {H : Hp} : ∀ {kvs : List (Key × D)} {ys : List (Key × V)}, kvs.map (·.1) = ys.map (·.1) → Reps c μ H (kvs.map fun kv => dKey kv.1) (ys.map fun kv => kV kv.1)
  | [], ys, h => by
    cases ys with
    | nil => exact rfl
    | cons _ _ => simp at h
  | p :: kvs, ys, h => by
    cases ys with
    | nil => simp at h
    | cons q ys =>
      rw [List.map_cons, List.map_cons] at h
      injection h with h1 h2
      exact ⟨_, _, rfl, by show Rep c μ H (dKey p.1) (kV q.1); rw [← h1]; exact dKey_rep _, keys_rep h2⟩
theorem cList (hK : c.K = X.K) (hc : X.calm = true) : CallR X (.type "list") (rA c fList) := by
  refine CallR.w (call_list_of.or (call_listD hc)) fun xs H Q h => ?_
  obtain ⟨μ, S, ds, d, S', hs, rs, hf, ha⟩ := h
  unfold fList at hf
  split at hf
  · cases hf
    obtain ⟨v, rfl, a, ys, rfl, q, rr⟩ := rs.one_inv
    refine .inl ⟨a, ys, rfl, .inr (by rw [← hK]; exact q.sq), fun p hp => ?_⟩
    obtain ⟨x1, x2, x3⟩ := lst_new hs rr hp
    exact ha _ _ _ x1 x2 x3
  · obtain ⟨v, rfl, a, ha1, rfl⟩ := rs.one_inv
    split at hf
    · rename_i us e
      cases hf
      obtain ⟨a', ys, g1, q1, rr⟩ := getL_sq hs e
      rw [ha1] at g1
      cases g1
      refine .inl ⟨a, ys, rfl, .inl (by rw [← hK]; exact q1), fun p hp => ?_⟩
      obtain ⟨x1, x2, x3⟩ := lst_new hs rr hp
      exact ha _ _ _ x1 x2 x3
    · split at hf
      · rename_i kvs e
        cases hf
        obtain ⟨a', ys, g1, q1, rr⟩ := getD_rd hs e
        rw [ha1] at g1
        cases g1
        refine .inr ⟨a, ys, rfl, q1, fun p hp => ?_⟩
        obtain ⟨x1, x2, x3⟩ := lst_new hs (keys_rep rr.1) hp
        exact ha _ _ _ x1 x2 x3
      · cases hf
  · cases hf
def fTuple : FF := fun ds S => match ds with
  | [.tup xs] => some (.tup xs, S)
  | [.ref n] => (getL S n).map fun xs => (.tup xs, S)
  | _ => none
theorem cTuple (hK : c.K = X.K) : CallR X (.type "tuple") (rA c fTuple) := by
  refine CallR.w call_tupF fun xs H Q h => ?_
  obtain ⟨μ, S, ds, d, S', hs, rs, hf, ha⟩ := h
  unfold fTuple at hf
  split at hf
  · cases hf
    obtain ⟨v, rfl, a, ys, rfl, q, rr⟩ := rs.one_inv
    exact ⟨a, ys, rfl, .inr ⟨by rw [← hK]; exact q.sq, ha.now hs ⟨a, ys, rfl, q, rr⟩⟩⟩
  · obtain ⟨v, rfl, a, ha1, rfl⟩ := rs.one_inv
    obtain ⟨us, e, e2⟩ := Option.map_eq_some_iff.mp hf
    cases e2
    obtain ⟨a', ys, g1, q1, rr⟩ := getL_sq hs e
    rw [ha1] at g1
    cases g1
    refine ⟨a, ys, rfl, .inl ⟨by rw [← hK]; exact q1, fun p ob hp hd => ?_⟩⟩
    obtain ⟨x1, x2, x3⟩ := tup_new hs rr hp hd
    exact ha _ _ _ x1 x2 x3
  · cases hf

/-! ### methods of lists -/
theorem lst_set {μ : List Addr} {S : Sto} {H : Hp} {n : Nat} {a : Addr} {us ds : List D} {xs ys : List V} (hs : StoOk c μ S H) (e : S[n]? = some (.lst us)) (ha : μ[n]? = some a) (q : H a = some (.lst xs)) (r : Reps c μ H ds ys) :
    Ext c μ H μ (upd H a (.lst ys)) ∧ StoOk c μ (S.set n (.lst ds)) (upd H a (.lst ys)) := by
  have x : Ext c μ H μ (upd H a (.lst ys)) := Ext.upd (.inr ⟨_, q, trivial⟩)
  exact ⟨x, hs.write e rfl ha x ⟨ys, upd_same, Reps.mono x _ _ r⟩⟩
def mAppend : D → FF := fun x ds S => match x, ds with
  | .ref n, [d] => match S[n]? with
    | some (.lst us) => if us.length < cap then some (.non, S.set n (.lst (us ++ [d]))) else none
    | _ => none
  | _, _ => none
theorem cap_lt {n : Nat} (h : n < cap) : n < sizeLine := by
  rw [sizeLine_eq]
  unfold cap at h
  omega
theorem mkAppend : MtR X "list.append" (rM c mAppend) := by
  refine MtR.w mt_append fun x xs H Q h => ?_
  obtain ⟨μ, S, dx, ds, d, S', hs, rx, rs, hf, ha⟩ := h
  unfold mAppend at hf
  split at hf
  · split at hf
    · rename_i n d' us e
      split at hf
      · rename_i hz
        cases hf
        obtain ⟨a, ha1, rfl⟩ := rx
        obtain ⟨v, rfl, rv⟩ := rs.one_inv
        obtain ⟨a', g1, ys, q1, rr⟩ := hs.stands _ _ e
        rw [ha1] at g1
        cases g1
        obtain ⟨x1, x2⟩ := lst_set hs e ha1 q1 (rr.app (Reps.one rv))
        exact ⟨a, ys, v, rfl, rfl, q1, by rw [rr.len]; exact cap_lt hz, ha _ _ _ x1 x2 rfl⟩
      · cases hf
    · cases hf
  · cases hf
def mExtend : D → FF := fun x ds S => match x, ds with
  | .ref n, [.ref m] => match S[n]?, S[m]? with
    | some (.lst us), some (.lst ws) => if us.length + ws.length ≤ cap then some (.non, S.set n (.lst (us ++ ws))) else none
    | _, _ => none
  | _, _ => none
theorem mkExtend : MtR X "list.extend" (rM c mExtend) := by
  refine MtR.w mt_extend fun x xs H Q h => ?_
  obtain ⟨μ, S, dx, ds, d, S', hs, rx, rs, hf, ha⟩ := h
  unfold mExtend at hf
  split at hf
  · split at hf
    · rename_i n m us ws e e'
      split at hf
      · rename_i hz
        cases hf
        obtain ⟨a, ha1, rfl⟩ := rx
        obtain ⟨v, rfl, b, hb1, rfl⟩ := rs.one_inv
        obtain ⟨a', g1, ys, q1, rr⟩ := hs.stands _ _ e
        rw [ha1] at g1
        cases g1
        obtain ⟨b', g2, zs, q2, rr2⟩ := hs.stands _ _ e'
        rw [hb1] at g2
        cases g2
        obtain ⟨x1, x2⟩ := lst_set hs e ha1 q1 (rr.app rr2)
        exact ⟨a, b, ys, zs, rfl, rfl, q1, q2, by rw [rr.len, rr2.len]; exact cap_le hz, ha _ _ _ x1 x2 rfl⟩
      · cases hf
    · cases hf
  · cases hf
def mPop : D → FF := fun x ds S => match x, ds with
  | .ref n, [] => match S[n]? with
    | some (.lst us) => (us[us.length - 1]?).map fun d => (d, S.set n (.lst us.dropLast))
    | _ => none
  | .ref n, [.int i] => match S[n]? with
    | some (.lst us) => if (decide (-1000000 ≤ i) && decide (i < 1000000)) = true then (seqIndex? i us.length).bind fun k => (us[k]?).map fun d => (d, S.set n (.lst (us.eraseIdx k))) else none
    | _ => none
  | _, _ => none
theorem mkPop : MtR X "list.pop" (rM c mPop) := by
  refine MtR.w (MtR.or mt_pop mt_popAt) fun x xs H Q h => ?_
  obtain ⟨μ, S, dx, ds, d, S', hs, rx, rs, hf, ha⟩ := h
  unfold mPop at hf
  split at hf
  · split at hf
    · rename_i n us e
      obtain ⟨d', e1, e2⟩ := Option.map_eq_some_iff.mp hf
      cases e2
      obtain ⟨a, ha1, rfl⟩ := rx
      obtain rfl : xs = [] := rs
      obtain ⟨a', g1, ys, q1, rr⟩ := hs.stands _ _ e
      rw [ha1] at g1
      cases g1
      obtain ⟨v, e3, rv⟩ := rr.get e1
      obtain ⟨x1, x2⟩ := lst_set hs e ha1 q1 rr.dropLast
      exact .inl ⟨a, ys, v, rfl, rfl, q1, by rw [rr.len]; exact e3, ha _ _ _ x1 x2 (Rep.mono x1 _ _ rv)⟩
    · cases hf
  · split at hf
    · rename_i us e
      split at hf
      · rename_i hz
        rw [Bool.and_eq_true] at hz
        have z1 := of_decide_eq_true hz.1
        have z2 := of_decide_eq_true hz.2
        obtain ⟨k, e1, e2⟩ := Option.bind_eq_some_iff.mp hf
        obtain ⟨d', e3, e4⟩ := Option.map_eq_some_iff.mp e2
        cases e4
        obtain ⟨a, ha1, rfl⟩ := rx
        obtain ⟨w, rfl, r1⟩ := rs.one_inv
        obtain rfl := (show w = .int _ from r1)
        obtain ⟨a', g1, ys, q1, rr⟩ := hs.stands _ _ e
        rw [ha1] at g1
        cases g1
        obtain ⟨v, e5, rv⟩ := rr.get e3
        obtain ⟨x1, x2⟩ := lst_set hs e ha1 q1 (rr.erase k)
        exact .inr ⟨a, ys, _, k, v, rfl, rfl, q1, by omega, by omega, by rw [rr.len]; exact e1, e5, ha _ _ _ x1 x2 (Rep.mono x1 _ _ rv)⟩
      · cases hf
    · cases hf
  · cases hf
def mInsert : D → FF := fun x ds S => match x, ds with
  | .ref n, [.int i, d] => match S[n]? with
    | some (.lst us) => if (decide (us.length < cap) && decide (0 ≤ i) && decide (i < 1000000)) = true then some (.non, S.set n (.lst (us.take i.toNat ++ [d] ++ us.drop i.toNat))) else none
    | _ => none
  | _, _ => none
theorem mkInsert : MtR X "list.insert" (rM c mInsert) := by
  refine MtR.w mt_insert fun x xs H Q h => ?_
  obtain ⟨μ, S, dx, ds, d, S', hs, rx, rs, hf, ha⟩ := h
  unfold mInsert at hf
  split at hf
  · split at hf
    · rename_i us e
      split at hf
      · rename_i hz
        rw [Bool.and_eq_true, Bool.and_eq_true] at hz
        obtain ⟨⟨z1, z2⟩, z3⟩ := hz
        have z1 := of_decide_eq_true z1
        have z2 := of_decide_eq_true z2
        have z3 := of_decide_eq_true z3
        cases hf
        obtain ⟨a, ha1, rfl⟩ := rx
        obtain ⟨w, v, rfl, r1, rv⟩ := rs.two_inv
        obtain rfl := (show w = .int _ from r1)
        obtain ⟨a', g1, ys, q1, rr⟩ := hs.stands _ _ e
        rw [ha1] at g1
        cases g1
        obtain ⟨x1, x2⟩ := lst_set hs e ha1 q1 (((rr.take _).app (Reps.one rv)).app (rr.drop _))
        exact ⟨a, ys, _, v, rfl, rfl, q1, by rw [rr.len]; exact cap_lt z1, z2, by omega, ha _ _ _ x1 x2 rfl⟩
      · cases hf
    · cases hf
  · cases hf
end
end FL
/-! FL6: dicts, fields, instances and their methods. -/
namespace FL
open PySem PySem.Spec PyProof.Rows L2
section
variable {c : FC} {X : Cx}
/-! ### dict displays -/
def aPairs : List (FE × FE) → FA
  | [] => aNil
  | (fk, fv) :: r => aCons fk (aCons fv (aPairs r))
def pairD : List D → Option (List (Key × D))
  | [] => some []
  | k :: v :: r => (keyD k).bind fun k' => (pairD r).map fun ps => (k', v) :: ps
  | _ => none
def mergeG (kvs more : List (Key × D)) : List (Key × D) := more.foldl (fun acc kv => putG acc kv.1 kv.2) kvs
theorem RepKV.merge {μ : List Addr} {H : Hp} : ∀ {more : List (Key × D)} {zs : List (Key × V)} {kvs : List (Key × D)} {ys : List (Key × V)}, RepKV c μ H more zs → RepKV c μ H kvs ys → RepKV c μ H (mergeG kvs more) (mergeK ys zs)
  | [], zs, _, _, h, k => by
    rw [h.inv0]
    exact k
  | (k', d) :: more, zs, _, _, h, k => by
    obtain ⟨v, zs', rfl, r, h2⟩ := h.inv
    show RepKV c μ H (mergeG (putG _ k' d) more) (mergeK (putK _ k' v) zs')
    exact RepKV.merge h2 (RepKV.put r k)
/-- {k: v, ..} with one pair or more -/
def eDic (fr : FA) : FE := fun env S => th (fr env (S ++ [.dic []])) fun ds S1 => match S1[S.length]?, pairD ds with
  | some (.dic []), some ps => if ps.length ≤ 15 then some (.ref S.length, S1.set S.length (.dic (mergeG [] ps))) else none
  | _, _ => none
def eDic0 : FE := fun _ S => some (.ref S.length, S ++ [.dic []])
def pairV : List V → Option (List (V × V))
  | [] => some []
  | k :: v :: r => (pairV r).map fun ps => (k, v) :: ps
  | _ => none
theorem pairs_red : ∀ (fs : List (FE × FE)) {σ : L2.St} {H : Hp} {Q : List V → Hp → Prop}, tA c (aPairs fs) σ H Q → tPairs (fs.map fun p => (tE c p.1, tE c p.2)) σ H fun ps H1 => ∃ vs, pairV vs = some ps ∧ Q vs H1
  | [], σ, H, Q, h => by
    obtain ⟨μ, env, S, ds, S', he, hs, hf, ha⟩ := h
    cases hf
    exact ⟨[], rfl, ha μ H [] Ext.refl hs rfl⟩
  | (fk, fv) :: r, σ, H, Q, h => by
    obtain ⟨μ, env, S, ds, S', he, hs, hf, ha⟩ := h
    obtain ⟨k, S1, h1, hf⟩ := th_inv hf
    obtain ⟨xs, S2, h2, hf⟩ := th_inv hf
    cases hf
    obtain ⟨v, S3, h3, h2⟩ := th_inv h2
    obtain ⟨ys, S4, h4, h2⟩ := th_inv h2
    cases h2
    refine ⟨μ, env, S, k, S1, he, hs, h1, fun μ1 H1 kv e1 k1 r1 => ?_⟩
    refine ⟨μ1, env, S1, v, S3, he.mono e1, k1, h3, fun μ2 H2 vv e2 k2 r2 => ?_⟩
    have ih := pairs_red r (σ := σ) (H := H2) (Q := fun vs H3 => Q (kv :: vv :: vs) H3) ⟨μ2, env, S3, ys, _, (he.mono e1).mono e2, k2, h4, fun μ3 H3 vs e3 k3 r3 => ha μ3 H3 _ ((e1.trans e2).trans e3) k3 ⟨kv, vv :: vs, rfl, Rep.mono e3 _ _ (Rep.mono e2 _ _ r1), vv, vs, rfl, Rep.mono e3 _ _ r2, r3⟩⟩
    have mono : ∀ (trs : List (TE × TE)) (H : Hp) (Q Q' : List (V × V) → Hp → Prop), True := fun _ _ _ _ => trivial
    exact pairs_w r ih fun ps H3 ⟨vs, e, q⟩ => ⟨kv :: vv :: vs, by show (pairV vs).map _ = _; rw [e]; rfl, q⟩
where
  pairs_w : ∀ (fs : List (FE × FE)) {σ : L2.St} {H : Hp} {Q Q' : List (V × V) → Hp → Prop}, tPairs (fs.map fun p => (tE c p.1, tE c p.2)) σ H Q → (∀ ps H', Q ps H' → Q' ps H') → tPairs (fs.map fun p => (tE c p.1, tE c p.2)) σ H Q'
  | [], _, _, _, _, h, w => w _ _ h
  | (fk, fv) :: r, σ, H, Q, Q', h, w => by
    obtain ⟨μ, env, S, k, S1, he, hs, hf, ha⟩ := h
    refine ⟨μ, env, S, k, S1, he, hs, hf, fun μ1 H1 kv e1 k1 r1 => ?_⟩
    obtain ⟨μ', env', S', k', S1', he', hs', hf', ha'⟩ := ha μ1 H1 kv e1 k1 r1
    refine ⟨μ', env', S', k', S1', he', hs', hf', fun μ2 H2 vv e2 k2 r2 => ?_⟩
    exact pairs_w r (ha' μ2 H2 vv e2 k2 r2) fun ps H' q => w _ _ q
theorem pair_rep {μ : List Addr} {H : Hp} : ∀ (ds : List D) {ps : List (Key × D)} {vs : List V} {qs : List (V × V)}, pairD ds = some ps → Reps c μ H ds vs → pairV vs = some qs → ∃ ys : List (Key × V), qs = ys.map (fun kv => (kV kv.1, kv.2)) ∧ RepKV c μ H ps ys
  | [], ps, vs, qs, h, r, k => by
    cases h
    obtain rfl : vs = [] := r
    cases k
    exact ⟨[], rfl, RepKV.nil⟩
  | [_], _, _, _, h, _, _ => by cases h
  | kd :: vd :: rest, ps, vs, qs, h, r, k => by
    obtain ⟨kv, w1, rfl, rk, vv, w2, rfl, rv, rr⟩ := r
    obtain ⟨k', e1, e2⟩ := Option.bind_eq_some_iff.mp h
    obtain ⟨ps', e3, e4⟩ := Option.map_eq_some_iff.mp e2
    subst e4
    obtain ⟨qs', e5, e6⟩ := Option.map_eq_some_iff.mp k
    subst e6
    obtain ⟨ys, e7, e8⟩ := pair_rep rest e3 rr e5
    subst e7
    exact ⟨(k', vv) :: ys, by rw [List.map_cons, keyD_rep rk e1], RepKV.cons rv e8⟩
theorem q_dic0 {pos : Pos} : PE X (.Dict [] [] pos) (tE c eDic0) := by
  refine PE.w pe_dnewK fun σ H Q h => ?_
  obtain ⟨μ, env, S, d, S', he, hs, hf, ha⟩ := h
  cases hf
  intro p hp
  have e : Ext c μ H (μ ++ [p]) (upd H p (.dK [])) := Ext.new hp
  refine ha _ _ _ e (hs.alloc hp ⟨[], upd_same, RepKV.nil⟩) ⟨p, ?_, rfl⟩
  rw [← hs.len, List.getElem?_append_right (Nat.le_refl _), Nat.sub_self]
  rfl
theorem q_dic {pos : Pos} {keys : List (Option Expr)} {values : List Expr} {fs : List (FE × FE)} (h : PPs X pos keys values (fs.map fun p => (tE c p.1, tE c p.2))) (hall : keys.all (·.isSome) = true := by rfl) (hl : keys.length = values.length := by rfl) (h0 : keys ≠ [] := by exact List.cons_ne_nil _ _) (h15 : keys.length ≤ 15 := by decide) :
    PE X (.Dict keys values pos) (tE c (eDic (aPairs fs))) := by
  refine PE.w (pe_disp h hall hl h0 h15) fun σ H Q h => ?_
  obtain ⟨μ, env, S, d, S', he, hs, hf, ha⟩ := h
  intro p hp
  obtain ⟨ds, S1, h1, hf⟩ := th_inv hf
  have e : Ext c μ H (μ ++ [p]) (upd H p (.dK [])) := Ext.new hp
  have k0 : StoOk c (μ ++ [p]) (S ++ [.dic []]) (upd H p (.dK [])) := hs.alloc hp ⟨[], upd_same, RepKV.nil⟩
  have hn : (μ ++ [p])[S.length]? = some p := by
    rw [← hs.len, List.getElem?_append_right (Nat.le_refl _), Nat.sub_self]
    rfl
  refine pairs_red.pairs_w fs (pairs_red fs (Q := fun vs H1 => ∃ μ1, Ext c (μ ++ [p]) (upd H p (.dK [])) μ1 H1 ∧ StoOk c μ1 S1 H1 ∧ Reps c μ1 H1 ds vs) ⟨μ ++ [p], env, _, ds, S1, he.mono e, k0, h1, fun μ1 H1 vs e1 k1 r1 => ⟨μ1, e1, k1, r1⟩⟩) fun ps H1 ⟨vs, ev, μ1, e1, k1, r1⟩ => ?_
  split at hf
  · rename_i qs g1 g2
    split at hf
    · rename_i hz
      cases hf
      have hn1 := e1.pre _ _ hn
      obtain ⟨a', g3, ys0, q0, r0⟩ := k1.stands _ _ g1
      rw [hn1] at g3
      cases g3
      rw [r0.inv0] at q0
      obtain ⟨ys, e5, e6⟩ := pair_rep ds g2 r1 ev
      have x : Ext c μ1 H1 μ1 (upd H1 p (.dK (mergeK [] ys))) := Ext.upd (.inr ⟨_, q0, trivial⟩)
      refine ⟨q0, ys, e5, by rw [e6.len]; exact hz, ?_⟩
      exact ha _ _ _ ((e.trans e1).trans x) (k1.write g1 rfl hn1 x ⟨_, upd_same, (e6.merge RepKV.nil).mono x⟩) ⟨p, hn1, rfl⟩
    · cases hf
  · cases hf
/-! ### dict.get, dict.pop -/
def eGet2 (fo fk fx : FE) : FE := fun env S => th (fo env S) fun o S1 => th (fk env S1) fun k S2 => th (fx env S2) fun z S3 => match o with
  | .ref n => match getD S1 n, getD S3 n, keyD k with
    | some _, some kvs, some k' => match valG kvs k' with
      | some d => some (d, S3)
      | none => some (z, S3)
    | _, _, _ => none
  | _ => none
def eGet1 (fo fk : FE) : FE := fun env S => th (fo env S) fun o S1 => th (fk env S1) fun k S2 => match o with
  | .ref n => match getD S1 n, getD S2 n, keyD k with
    | some _, some kvs, some k' => match valG kvs k' with
      | some d => some (d, S2)
      | none => some (.non, S2)
    | _, _, _ => none
  | _ => none
def eDPop1 (fo fk : FE) : FE := fun env S => th (fo env S) fun o S1 => th (fk env S1) fun k S2 => match o with
  | .ref n => match getD S1 n, S2[n]?, keyD k with
    | some _, some (.dic kvs), some k' => match valG kvs k' with
      | some d => some (d, S2.set n (.dic (dropG kvs k')))
      | none => none
    | _, _, _ => none
  | _ => none
def eDPop2 (fo fk fx : FE) : FE := fun env S => th (fo env S) fun o S1 => th (fk env S1) fun k S2 => th (fx env S2) fun z S3 => match o with
  | .ref n => match getD S1 n, S3[n]?, keyD k with
    | some _, some (.dic kvs), some k' => match valG kvs k' with
      | some d => some (d, S3.set n (.dic (dropG kvs k')))
      | none => some (z, S3)
    | _, _, _ => none
  | _ => none
theorem isD_of {μ : List Addr} {S : Sto} {H : Hp} {n : Nat} {a : Addr} {kvs : List (Key × D)} (hs : StoOk c μ S H) (e : getD S n = some kvs) (ha : μ[n]? = some a) : IsD H a := by
  obtain ⟨a', ys, g1, q, _⟩ := getD_rd hs e
  rw [ha] at g1
  cases g1
  exact .inl ⟨ys, q⟩
variable {o e f : Expr} {apos cpos pos : Pos} {fo fk fx : FE}
theorem q_get2 (h : PE X (.Call (.Attribute o "get" apos) [e, f] [] cpos) (tDGet2 (tE c fo) (tE c fk) (tE c fx))) : PE X (.Call (.Attribute o "get" apos) [e, f] [] cpos) (tE c (eGet2 fo fk fx)) := by
  refine PE.w h fun σ H Q h => ?_
  obtain ⟨μ, env, S, d, S', he, hs, hf, ha⟩ := h
  obtain ⟨ov, S1, h1, hf⟩ := th_inv hf
  obtain ⟨kd, S2, h2, hf⟩ := th_inv hf
  obtain ⟨z, S3, h3, hf⟩ := th_inv hf
  refine ⟨μ, env, S, ov, S1, he, hs, h1, fun μ1 H1 v e1 k1 r1 => ?_⟩
  cases ov with
  | ref n =>
    obtain ⟨a, ha1, rfl⟩ := r1
    simp only at hf
    split at hf
    · rename_i kvs0 kvs k' g0 g1 g2
      refine ⟨a, rfl, isD_of k1 g0 ha1, μ1, env, S1, kd, S2, he.mono e1, k1, h2, fun μ2 H2 w e2 k2 r2 => ?_⟩
      refine ⟨μ2, env, S2, z, S3, (he.mono e1).mono e2, k2, h3, fun μ3 H3 y e3 k3 r3 => ?_⟩
      obtain ⟨a', ys, g3, q, rr⟩ := getD_rd k3 g1
      rw [e3.pre _ _ (e2.pre _ _ ha1)] at g3
      cases g3
      refine ⟨valV ys k', .inl ⟨ys, k', q, keyD_rep r2 g2, rfl⟩, ?_⟩
      obtain ⟨i1, i2⟩ := rr.val k'
      have ha3 := ((ha.ext e1).ext e2).ext e3
      split at hf
      · rename_i d' g4
        cases hf
        obtain ⟨vv, e5, e6⟩ := i1 _ g4
        rw [e5]
        exact ha3.now k3 e6
      · rename_i g4
        cases hf
        rw [i2 g4]
        exact ha3.now k3 r3
    · cases hf
  | _ => cases hf
theorem q_get1 (h : PE X (.Call (.Attribute o "get" apos) [e] [] cpos) (tDGet1 (tE c fo) (tE c fk))) : PE X (.Call (.Attribute o "get" apos) [e] [] cpos) (tE c (eGet1 fo fk)) := by
  refine PE.w h fun σ H Q h => ?_
  obtain ⟨μ, env, S, d, S', he, hs, hf, ha⟩ := h
  obtain ⟨ov, S1, h1, hf⟩ := th_inv hf
  obtain ⟨kd, S2, h2, hf⟩ := th_inv hf
  refine ⟨μ, env, S, ov, S1, he, hs, h1, fun μ1 H1 v e1 k1 r1 => ?_⟩
  cases ov with
  | ref n =>
    obtain ⟨a, ha1, rfl⟩ := r1
    simp only at hf
    split at hf
    · rename_i kvs0 kvs k' g0 g1 g2
      refine ⟨a, rfl, isD_of k1 g0 ha1, μ1, env, S1, kd, S2, he.mono e1, k1, h2, fun μ2 H2 w e2 k2 r2 => ?_⟩
      obtain ⟨a', ys, g3, q, rr⟩ := getD_rd k2 g1
      rw [e2.pre _ _ ha1] at g3
      cases g3
      refine ⟨valV ys k', .inl ⟨ys, k', q, keyD_rep r2 g2, rfl⟩, ?_⟩
      obtain ⟨i1, i2⟩ := rr.val k'
      have ha3 := (ha.ext e1).ext e2
      split at hf
      · rename_i d' g4
        cases hf
        obtain ⟨vv, e5, e6⟩ := i1 _ g4
        rw [e5]
        exact ha3.now k2 e6
      · rename_i g4
        cases hf
        rw [i2 g4]
        exact ha3.now k2 rfl
    · cases hf
  | _ => cases hf
theorem dic_set {μ : List Addr} {S : Sto} {H : Hp} {n : Nat} {a : Addr} {us ds : List (Key × D)} {xs ys : List (Key × V)} (hs : StoOk c μ S H) (e : S[n]? = some (.dic us)) (ha : μ[n]? = some a) (q : H a = some (.dK xs)) (r : RepKV c μ H ds ys) :
    Ext c μ H μ (upd H a (.dK ys)) ∧ StoOk c μ (S.set n (.dic ds)) (upd H a (.dK ys)) := by
  have x : Ext c μ H μ (upd H a (.dK ys)) := Ext.upd (.inr ⟨_, q, trivial⟩)
  exact ⟨x, hs.write e rfl ha x ⟨ys, upd_same, r.mono x⟩⟩
theorem q_dpop1 (h : PE X (.Call (.Attribute o "pop" apos) [e] [] cpos) (tDPop1 (tE c fo) (tE c fk))) : PE X (.Call (.Attribute o "pop" apos) [e] [] cpos) (tE c (eDPop1 fo fk)) := by
  refine PE.w h fun σ H Q h => ?_
  obtain ⟨μ, env, S, d, S', he, hs, hf, ha⟩ := h
  obtain ⟨ov, S1, h1, hf⟩ := th_inv hf
  obtain ⟨kd, S2, h2, hf⟩ := th_inv hf
  refine ⟨μ, env, S, ov, S1, he, hs, h1, fun μ1 H1 v e1 k1 r1 => ?_⟩
  cases ov with
  | ref n =>
    obtain ⟨a, ha1, rfl⟩ := r1
    simp only at hf
    split at hf
    · rename_i kvs0 kvs k' g0 g1 g2
      refine ⟨a, rfl, isD_of k1 g0 ha1, μ1, env, S1, kd, S2, he.mono e1, k1, h2, fun μ2 H2 w e2 k2 r2 => ?_⟩
      obtain ⟨a', g3, ys, q, rr⟩ := k2.stands _ _ g1
      rw [e2.pre _ _ ha1] at g3
      cases g3
      obtain ⟨i1, i2⟩ := rr.val k'
      split at hf
      · rename_i d' g4
        cases hf
        obtain ⟨vv, e5, e6⟩ := i1 _ g4
        obtain ⟨x1, x2⟩ := dic_set k2 g1 (e2.pre _ _ ha1) q (RepKV.drop (k := k') rr)
        exact ⟨ys, k', vv, q, keyD_rep r2 g2, e5, ha _ _ _ ((e1.trans e2).trans x1) x2 (Rep.mono x1 _ _ e6)⟩
      · cases hf
    · cases hf
  | _ => cases hf
theorem q_dpop2 (h : PE X (.Call (.Attribute o "pop" apos) [e, f] [] cpos) (tDPop2 (tE c fo) (tE c fk) (tE c fx))) : PE X (.Call (.Attribute o "pop" apos) [e, f] [] cpos) (tE c (eDPop2 fo fk fx)) := by
  refine PE.w h fun σ H Q h => ?_
  obtain ⟨μ, env, S, d, S', he, hs, hf, ha⟩ := h
  obtain ⟨ov, S1, h1, hf⟩ := th_inv hf
  obtain ⟨kd, S2, h2, hf⟩ := th_inv hf
  obtain ⟨z, S3, h3, hf⟩ := th_inv hf
  refine ⟨μ, env, S, ov, S1, he, hs, h1, fun μ1 H1 v e1 k1 r1 => ?_⟩
  cases ov with
  | ref n =>
    obtain ⟨a, ha1, rfl⟩ := r1
    simp only at hf
    split at hf
    · rename_i kvs0 kvs k' g0 g1 g2
      refine ⟨a, rfl, isD_of k1 g0 ha1, μ1, env, S1, kd, S2, he.mono e1, k1, h2, fun μ2 H2 w e2 k2 r2 => ?_⟩
      refine ⟨μ2, env, S2, z, S3, (he.mono e1).mono e2, k2, h3, fun μ3 H3 y e3 k3 r3 => ?_⟩
      obtain ⟨a', g3, ys, q, rr⟩ := k3.stands _ _ g1
      have ha4 := e3.pre _ _ (e2.pre _ _ ha1)
      rw [ha4] at g3
      cases g3
      obtain ⟨i1, i2⟩ := rr.val k'
      have r2' := Rep.mono e3 _ _ r2
      refine ⟨ys, k', q, keyD_rep r2 g2, fun v' ev => ?_, fun ev => ?_⟩
      · split at hf
        · rename_i d' g4
          cases hf
          obtain ⟨vv, e5, e6⟩ := i1 _ g4
          rw [ev] at e5
          cases e5
          obtain ⟨x1, x2⟩ := dic_set k3 g1 ha4 q (RepKV.drop (k := k') rr)
          exact ha _ _ _ (((e1.trans e2).trans e3).trans x1) x2 (Rep.mono x1 _ _ e6)
        · rename_i g4
          rw [i2 g4] at ev
          cases ev
      · split at hf
        · rename_i d' g4
          obtain ⟨vv, e5, e6⟩ := i1 _ g4
          rw [ev] at e5
          cases e5
        · rename_i g4
          cases hf
          exact ha _ _ _ ((e1.trans e2).trans e3) k3 r3
    · cases hf
  | _ => cases hf

/-! ### fields -/
def putF (f : Str) (v : D) : List (Str × D) → List (Str × D)
  | [] => [(f, v)]
  | (g, w) :: r => if g = f then (g, v) :: r else (g, w) :: putF f v r
def eFld (ks : List Str) (fa : FE) (f : Str) : FE := fun env S => th (fa env S) fun x S1 => match x with
  | .ref n => match S1[n]? with
    | some (.ins k fs) => if k ∈ ks then (fs.lookup f).map fun d => (d, S1) else none
    | _ => none
  | _ => none
theorem fs_lookup {μ : List Addr} {H : Hp} {f : Str} {d : D} : ∀ {fs : List (Str × D)} {ys : List (Str × V)}, RepKV c μ H fs ys → fs.lookup f = some d → ∃ v, ys.lookup f = some v ∧ Rep c μ H d v
  | [], _, _, h => by cases h
  | (g, w) :: r, ys, h, k => by
    obtain ⟨v, ys', rfl, rv, h2⟩ := h.inv
    rw [List.lookup_cons] at k ⊢
    cases e : f == g with
    | true =>
      rw [e] at k
      cases k
      exact ⟨v, rfl, rv⟩
    | false =>
      rw [e] at k
      exact fs_lookup h2 k
theorem fs_none {μ : List Addr} {H : Hp} {f : Str} : ∀ {fs : List (Str × D)} {ys : List (Str × V)}, RepKV c μ H fs ys → fs.lookup f = none → ys.lookup f = none
  | [], ys, h, _ => by rw [h.inv0]; rfl
  | (g, w) :: r, ys, h, k => by
    obtain ⟨v, ys', rfl, rv, h2⟩ := h.inv
    rw [List.lookup_cons] at k ⊢
    cases e : f == g with
    | true =>
      rw [e] at k
      cases k
    | false =>
      rw [e] at k
      exact fs_none h2 k
/-- what the text must have of the classes ks, of a field f of theirs, of a method m of theirs -/
def ClsK (c : FC) (ks : List Str) : Prop := ∀ k ∈ ks, Cls c.K (c.ct k)
def FldK (c : FC) (ks : List Str) (f : Str) : Prop := ∀ k ∈ ks, NoAttr c.K (c.ct k) f
theorem q_fld (hK : c.K = X.K) {f : Str} {ks : List Str} {fa : FE} (h1 : ClsK c ks) (h2 : FldK c ks f) (he : PE X e (tE c fa)) (hb : attributeBase e f X.env (eval e X.env) = eval e X.env := by rfl) : PE X (.Attribute e f pos) (tE c (eFld ks fa f)) := by
  refine PE.w (pe_fld he hb) fun σ H Q h => ?_
  obtain ⟨μ, env, S, d, S', he, hs, hf, ha⟩ := h
  obtain ⟨x, S1, h1', hf⟩ := th_inv hf
  refine ⟨μ, env, S, x, S1, he, hs, h1', fun μ1 H1 v e1 k1 r1 => ?_⟩
  cases x with
  | ref n =>
    obtain ⟨a, ha1, rfl⟩ := r1
    simp only at hf
    split at hf
    · rename_i k fs g1
      split at hf
      · rename_i hk
        obtain ⟨d', g2, g3⟩ := Option.map_eq_some_iff.mp hf
        cases g3
        obtain ⟨a', g4, dx, ys, q, rr⟩ := k1.stands _ _ g1
        rw [ha1] at g4
        cases g4
        obtain ⟨v, e5, e6⟩ := fs_lookup rr g2
        exact ⟨a, c.ct k, dx, ys, v, rfl, q, by rw [← hK]; exact h1 k hk, by rw [← hK]; exact h2 k hk, e5, (ha.ext e1).now k1 e6⟩
      · cases hf
    · cases hf
  | _ => cases hf
theorem putF_rep {μ : List Addr} {H : Hp} {f : Str} {d : D} {v : V} (r : Rep c μ H d v) : ∀ {fs : List (Str × D)} {ys : List (Str × V)}, RepKV c μ H fs ys → RepKV c μ H (putF f d fs) (L2.putF f v ys)
  | [], ys, h => by
    rw [h.inv0]
    exact RepKV.cons r RepKV.nil
  | (g, w) :: rest, ys, h => by
    obtain ⟨v', ys', rfl, rv, h2⟩ := h.inv
    unfold putF L2.putF
    by_cases e : g = f
    · rw [if_pos e, if_pos e]
      exact RepKV.cons r h2
    · rw [if_neg e, if_neg e]
      exact RepKV.cons rv (putF_rep r h2)
theorem ins_set {μ : List Addr} {S : Sto} {H : Hp} {n : Nat} {a dx : Addr} {k : Str} {us ds : List (Str × D)} {xs ys : List (Str × V)} (hs : StoOk c μ S H) (e : S[n]? = some (.ins k us)) (ha : μ[n]? = some a) (q : H a = some (.ins (c.ct k) dx xs)) (r : RepKV c μ H ds ys) :
    Ext c μ H μ (upd H a (.ins (c.ct k) dx ys)) ∧ StoOk c μ (S.set n (.ins k ds)) (upd H a (.ins (c.ct k) dx ys)) := by
  have x : Ext c μ H μ (upd H a (.ins (c.ct k) dx ys)) := Ext.upd (.inr ⟨_, q, trivial⟩)
  exact ⟨x, hs.write e rfl ha x ⟨dx, ys, upd_same, r.mono x⟩⟩

/-! ### instances: a new one, its methods -/
/-- C(..): place n is new; then __init__ -/
def eMake (k : Str) (F : FF) (fr : FA) : FE := fun env S => th (fr env S) fun ds S1 => th (F (.ref S1.length :: ds) (S1 ++ [.ins k []])) fun v S2 => match v with
  | .non => some (.ref S1.length, S2)
  | _ => none
theorem q_make {n : Nat} {k : Str} {F : FF} {fr : FA} {E : XK} (h : PE X e (tMake (c.ct k) (spF c n F) [] E (tA c fr))) (hl : ∀ (env : Env) (S : Sto) (ds : List D) (S' : Sto), fr env S = some (ds, S') → ds.length + 1 = n) : PE X e (tE c (eMake k F fr)) := by
  refine PE.w h fun σ H Q h => ?_
  obtain ⟨μ, env, S, d, S', he, hs, hf, ha⟩ := h
  obtain ⟨ds, S1, h1, hf⟩ := th_inv hf
  obtain ⟨v, S2, h2, hf⟩ := th_inv hf
  refine ⟨μ, env, S, ds, S1, he, hs, h1, fun μ1 H1 vs e1 k1 q1 => ?_⟩
  intro x dx nx ndx nex
  show spF c n F (.ref x :: (vs ++ [])) _ _ E
  rw [List.append_nil]
  refine ⟨by rw [List.length_cons, q1.len]; exact hl _ _ _ _ h1, ?_⟩
  have kd : StoOk c μ1 S1 (upd H1 dx (.own x)) := k1.same ndx
  have ed : Ext c μ1 H1 μ1 (upd H1 dx (.own x)) := Ext.upd (.inl ndx)
  have nx' : (upd H1 dx (.own x)) x = none := by rw [upd_ne nex.symm]; exact nx
  have ex : Ext c μ1 (upd H1 dx (.own x)) (μ1 ++ [x]) (upd (upd H1 dx (.own x)) x (.ins (c.ct k) dx [])) := Ext.new nx'
  have kx : StoOk c (μ1 ++ [x]) (S1 ++ [.ins k []]) (upd (upd H1 dx (.own x)) x (.ins (c.ct k) dx [])) := kd.alloc nx' ⟨dx, [], upd_same, RepKV.nil⟩
  have hn : (μ1 ++ [x])[S1.length]? = some x := by
    rw [← k1.len, List.getElem?_append_right (Nat.le_refl _), Nat.sub_self]
    rfl
  refine ⟨μ1 ++ [x], _, .ref S1.length :: ds, v, S2, kx, ⟨.ref x, vs, rfl, ⟨x, hn, rfl⟩, Reps.mono (ed.trans ex) _ _ q1⟩, h2, fun μ2 H2 w e2 k2 r2 => ?_⟩
  cases v with
  | non =>
    cases hf
    exact ⟨r2, ha _ _ _ (((e1.trans ed).trans ex).trans e2) k2 ⟨x, e2.pre _ _ hn, rfl⟩⟩
  | _ => cases hf
/-- o.m(..), o an instance of the class k -/
def eMeth (k : Str) (m : Str) (F : FF) (fo : FE) (fr : FA) : FE := fun env S => th (fo env S) fun x S1 => match x with
  | .ref n => match S1[n]? with
    | some (.ins k' fs) => if k' = k ∧ fs.lookup m = none then th (fr env S1) fun ds S2 => F (x :: ds) S2 else none
    | _ => none
  | _ => none
theorem q_meth {n : Nat} {k m : Str} {F : FF} {fr : FA} {E : XK} (h : PE X e (tMeth (c.ct k) m (spF c n F) [] E (tE c fo) (tA c fr))) (hl : ∀ (env : Env) (S : Sto) (ds : List D) (S' : Sto), fr env S = some (ds, S') → ds.length + 1 = n) : PE X e (tE c (eMeth k m F fo fr)) := by
  refine PE.w h fun σ H Q h => ?_
  obtain ⟨μ, env, S, d, S', he, hs, hf0, ha⟩ := h
  obtain ⟨x, S1, h1, hf⟩ := th_inv hf0
  clear hf0
  refine ⟨μ, env, S, x, S1, he, hs, h1, fun μ1 H1 v e1 k1 r1 => ?_⟩
  cases x with
  | ref i =>
    obtain ⟨a, ha1, rfl⟩ := r1
    simp only at hf
    split at hf
    · rename_i k' fs g1
      split at hf
      · rename_i hk
        obtain ⟨hk1, hk2⟩ := hk
        subst hk1
        obtain ⟨ds, S2, h2, hf⟩ := th_inv hf
        obtain ⟨a', g4, dx, ys, q, rr⟩ := k1.stands _ _ g1
        rw [ha1] at g4
        cases g4
        refine ⟨a, dx, ys, rfl, q, fs_none rr hk2, μ1, env, S1, ds, S2, he.mono e1, k1, h2, fun μ2 H2 vs e2 k2 r2 => ?_⟩
        show spF c n F (.ref a :: (vs ++ [])) H2 Q E
        rw [List.append_nil]
        exact ⟨by rw [List.length_cons, r2.len]; exact hl _ _ _ _ h2, μ2, S2, .ref i :: ds, d, S', k2, ⟨.ref a, vs, rfl, ⟨a, e2.pre _ _ ha1, rfl⟩, r2⟩, hf, (ha.ext e1).ext e2⟩
      · cases hf
    · cases hf
  | _ => cases hf
end
/-- calls of a built-in type's methods: the receiver's type is seen -/
def tyD (T : String) (x : D) (S : Sto) : Bool := match x with
  | .str _ => T == "str"
  | .ref n => match S[n]? with
    | some (.lst _) => T == "list"
    | some (.ro _) => T == "list"
    | some (.dic _) => T == "dict"
    | _ => false
  | _ => false
def eBm (T : String) (F : D → FF) (fo : FE) (fr : FA) : FE := fun env S => th (fo env S) fun x S1 => if tyD T x S1 = true then th (fr env S1) fun ds S2 => F x ds S2 else none
section
variable {c : FC} {X : Cx} {e : Expr} {fo : FE} {fr : FA} {T : String} {F : D → FF}
theorem tyD_rep (hK : c.K = X.K) {μ : List Addr} {S : Sto} {H : Hp} {d : D} {v : V} (hs : StoOk c μ S H) (r : Rep c μ H d v) (h : tyD T d S = true) : tyV X.K T v H := by
  unfold tyD at h
  split at h
  · obtain rfl := (show v = .str _ from r)
    exact beq_iff_eq.mp h
  · obtain ⟨a, ha, rfl⟩ := r
    split at h
    · rename_i e
      obtain ⟨a', g1, ys, q, rr⟩ := hs.stands _ _ e
      rw [ha] at g1
      cases g1
      exact .inl ⟨beq_iff_eq.mp h, ys, SqL.of q⟩
    · rename_i e
      obtain ⟨a', g1, rr⟩ := hs.stands _ _ e
      rw [ha] at g1
      cases g1
      obtain ⟨ys, q, _⟩ := ro_sq rr
      exact .inl ⟨beq_iff_eq.mp h, ys, by rw [← hK]; exact q⟩
    · rename_i e
      obtain ⟨a', g1, ys, q, rr⟩ := hs.stands _ _ e
      rw [ha] at g1
      cases g1
      exact .inr (.inr (.inl ⟨beq_iff_eq.mp h, .inl ⟨ys, q⟩⟩))
    · cases h
  · cases h
theorem q_bm (hK : c.K = X.K) (h : PE X e (tBM X.K T (rM c F) (tE c fo) (tA c fr))) : PE X e (tE c (eBm T F fo fr)) := by
  refine PE.w h fun σ H Q h => ?_
  obtain ⟨μ, env, S, d, S', he, hs, hf, ha⟩ := h
  obtain ⟨x, S1, h1, hf⟩ := th_inv hf
  refine ⟨μ, env, S, x, S1, he, hs, h1, fun μ1 H1 v e1 k1 r1 => ?_⟩
  split at hf
  · rename_i ht
    obtain ⟨ds, S2, h2, hf⟩ := th_inv hf
    refine ⟨tyD_rep hK k1 r1 ht, μ1, env, S1, ds, S2, he.mono e1, k1, h2, fun μ2 H2 vs e2 k2 r2 => ?_⟩
    exact ⟨μ2, S2, x, ds, d, S', k2, Rep.mono e2 _ _ r1, r2, hf, (ha.ext e1).ext e2⟩
  · cases hf
theorem q_bm0 (hK : c.K = X.K) (h : PE X e (tBM0 X.K T (rM c F) (tE c fo))) : PE X e (tE c (eBm T F fo aNil)) := by
  refine PE.w h fun σ H Q h => ?_
  obtain ⟨μ, env, S, d, S', he, hs, hf, ha⟩ := h
  obtain ⟨x, S1, h1, hf⟩ := th_inv hf
  refine ⟨μ, env, S, x, S1, he, hs, h1, fun μ1 H1 v e1 k1 r1 => ?_⟩
  split at hf
  · rename_i ht
    obtain ⟨ds, S2, h2, hf⟩ := th_inv hf
    cases h2
    exact ⟨tyD_rep hK k1 r1 ht, μ1, _, x, [], d, S', k1, r1, rfl, hf, ha.ext e1⟩
  · cases hf
end
end FL
/-! FL7: statements, targets, loops, comprehensions, defs. -/
namespace FL
open PySem PySem.Spec PyProof.Rows L2

/-! ### statements -/
def OutAt (c : FC) (μ' : List Addr) (H' : Hp) (S' : Sto) (Dn : Ends) : Out → Prop
  | .nx e => ∀ σ', EnvOk c μ' H' e σ' → Dn.nx σ' H'
  | .bk e => ∀ σ', EnvOk c μ' H' e σ' → Dn.bk σ' H'
  | .ct e => ∀ σ', EnvOk c μ' H' e σ' → Dn.ct σ' H'
  | .rt d => ∀ v, Rep c μ' H' d v → Dn.rt v H'
def OutOk (c : FC) (μ : List Addr) (H : Hp) (o : Out) (S' : Sto) (Dn : Ends) : Prop := ∀ μ' H', Ext c μ H μ' H' → StoOk c μ' S' H' → OutAt c μ' H' S' Dn o
def tS (c : FC) (f : FS) : TS := fun Dn σ H => ∃ μ env S o S', EnvOk c μ H env σ ∧ StoOk c μ S H ∧ f env S = some (o, S') ∧ OutOk c μ H o S' Dn
theorem OutOk.ext {c : FC} {μ μ1 : List Addr} {H H1 : Hp} {S' : Sto} {o : Out} {Dn : Ends} (h : OutOk c μ H o S' Dn) (e : Ext c μ H μ1 H1) : OutOk c μ1 H1 o S' Dn := fun μ' H' e' k => h μ' H' (e.trans e') k
theorem OutOk.nx {c : FC} {μ : List Addr} {H : Hp} {S' : Sto} {e : Env} {Dn : Ends} {σ : L2.St} (h : OutOk c μ H (.nx e) S' Dn) (k : StoOk c μ S' H) (r : EnvOk c μ H e σ) : Dn.nx σ H := h μ H Ext.refl k σ r

def sNil : FS := fun env S => some (.nx env, S)
def sSeq (f g : FS) : FS := fun env S => th (f env S) fun o S1 => match o with
  | .nx e => g e S1
  | o => some (o, S1)
def sDrop (fe : FE) : FS := fun env S => th (fe env S) fun _ S1 => some (.nx env, S1)
def sRet (fe : FE) : FS := fun env S => th (fe env S) fun d S1 => some (.rt d, S1)
def sRetN : FS := fun _ S => some (.rt .non, S)
def sBrk : FS := fun env S => some (.bk env, S)
def sCnt : FS := fun env S => some (.ct env, S)
def sIf (t : FT) (f g : FS) : FS := fun env S => th (t env S) fun b S1 => if b = true then f env S1 else g env S1
def sNever : FS := fun _ _ => none

section
variable {c : FC} {X : Cx} {st : Stmt} {rest : List Stmt} {f g : FS} {e : Expr} {fe : FE} {ft : FT} {pos : Pos}
theorem PS.w {t t' : TS} (h : PS X st t) (w : ∀ Dn σ H, t' Dn σ H → t Dn σ H) : PS X st t' := ⟨fun pins s σ H D I q => h.run pins s σ H D I (w D σ H q)⟩
theorem PSs.w {sts : List Stmt} {t t' : TS} (h : PSs X sts t) (w : ∀ Dn σ H, t' Dn σ H → t Dn σ H) : PSs X sts t' := ⟨fun pins s σ H D I q => h.run pins s σ H D I (w D σ H q)⟩
theorem q_snil : PSs X [] (tS c sNil) := by
  refine PSs.w pss_nil fun Dn σ H h => ?_
  obtain ⟨μ, env, S, o, S', he, hs, hf, ha⟩ := h
  cases hf
  exact ha.nx hs he
theorem q_scons (h1 : PS X st (tS c f)) (h2 : PSs X rest (tS c g)) : PSs X (st :: rest) (tS c (sSeq f g)) := by
  refine PSs.w (pss_cons h1 h2) fun Dn σ H h => ?_
  obtain ⟨μ, env, S, o, S', he, hs, hf, ha⟩ := h
  obtain ⟨o1, S1, h1, hf⟩ := th_inv hf
  refine ⟨μ, env, S, o1, S1, he, hs, h1, fun μ1 H1 e1 k1 => ?_⟩
  cases o1 with
  | nx env1 => exact fun σ1 r1 => ⟨μ1, env1, S1, o, S', r1, k1, hf, ha.ext e1⟩
  | rt d =>
    cases hf
    exact fun v r => ha μ1 H1 e1 k1 v r
  | bk e =>
    cases hf
    exact fun σ1 r => ha μ1 H1 e1 k1 σ1 r
  | ct e =>
    cases hf
    exact fun σ1 r => ha μ1 H1 e1 k1 σ1 r
theorem q_sone (h1 : PS X st (tS c f)) : PSs X [st] (tS c f) := pss_one h1
theorem q_drop (h : PE X e (tE c fe)) (hs : swapsWith e none pos.line X.env = pure false := by rfl) : PS X (.Expr e pos) (tS c (sDrop fe)) := by
  refine PS.w (ps_expr h hs) fun Dn σ H h => ?_
  obtain ⟨μ, env, S, o, S', he, hs, hf, ha⟩ := h
  obtain ⟨d, S1, h1, hf⟩ := th_inv hf
  cases hf
  exact ⟨μ, env, S, d, _, he, hs, h1, fun μ1 H1 v e1 k1 r1 => ha μ1 H1 e1 k1 σ (he.mono e1)⟩
theorem q_ret (h : PE X e (tE c fe)) : PS X (.Return (some e) pos) (tS c (sRet fe)) := by
  refine PS.w (ps_ret h) fun Dn σ H h => ?_
  obtain ⟨μ, env, S, o, S', he, hs, hf, ha⟩ := h
  obtain ⟨d, S1, h1, hf⟩ := th_inv hf
  cases hf
  exact ⟨μ, env, S, d, _, he, hs, h1, fun μ1 H1 v e1 k1 r1 => ha μ1 H1 e1 k1 v r1⟩
theorem q_retN : PS X (.Return none pos) (tS c sRetN) := by
  refine PS.w ps_retN fun Dn σ H h => ?_
  obtain ⟨μ, env, S, o, S', he, hs, hf, ha⟩ := h
  cases hf
  exact ha μ H Ext.refl hs .non rfl
theorem q_brk : PS X (.Break pos) (tS c sBrk) := by
  refine PS.w ps_break fun Dn σ H h => ?_
  obtain ⟨μ, env, S, o, S', he, hs, hf, ha⟩ := h
  cases hf
  exact ha μ H Ext.refl hs σ he
theorem q_cnt : PS X (.Continue pos) (tS c sCnt) := by
  refine PS.w ps_continue fun Dn σ H h => ?_
  obtain ⟨μ, env, S, o, S', he, hs, hf, ha⟩ := h
  cases hf
  exact ha μ H Ext.refl hs σ he
theorem q_pass : PS X (.Pass pos) (tS c sNil) := by
  refine PS.w ps_pass fun Dn σ H h => ?_
  obtain ⟨μ, env, S, o, S', he, hs, hf, ha⟩ := h
  cases hf
  exact ha.nx hs he
theorem q_sif {cd : Expr} {a b : List Stmt} (hc : PT X cd (tT c ft)) (ha : PSs X a (tS c f)) (hb : PSs X b (tS c g)) : PS X (.If cd a b pos) (tS c (sIf ft f g)) := by
  refine PS.w (ps_if hc ha hb) fun Dn σ H h => ?_
  obtain ⟨μ, env, S, o, S', he, hs, hf, ha⟩ := h
  obtain ⟨k, S1, h1, hf⟩ := th_inv hf
  refine ⟨μ, env, S, k, S1, he, hs, h1, fun μ1 H1 e1 k1 => ?_⟩
  cases k with
  | true => exact ⟨μ1, env, S1, o, S', he.mono e1, k1, hf, ha.ext e1⟩
  | false => exact ⟨μ1, env, S1, o, S', he.mono e1, k1, hf, ha.ext e1⟩
theorem q_snever : PS X st (tS c sNever) := by
  refine PS.w ps_never fun Dn σ H h => ?_
  obtain ⟨μ, env, S, o, S', he, hs, hf, ha⟩ := h
  cases hf
end

/-! ### targets -/
abbrev FG := D → Env → Sto → Option (Env × Sto)
abbrev FGs := List D → Env → Sto → Option (Env × Sto)
/-- vs: slots outside of which nothing is stored (a comprehension's own), if that is asked -/
def tG (c : FC) (vs : Option (List Nat)) (g : FG) : TG := fun v σ H Q => ∃ μ env S d env' S', EnvOk c μ H env σ ∧ StoOk c μ S H ∧ Rep c μ H d v ∧ g d env S = some (env', S') ∧
  ∀ μ' H' σ', Ext c μ H μ' H' → StoOk c μ' S' H' → EnvOk c μ' H' env' σ' → (∀ ws, vs = some ws → wipe σ' ws = wipe σ ws) → Q σ' H'
def tGs (c : FC) (vs : Option (List Nat)) (g : FGs) : TGs := fun xs σ H Q => ∃ μ env S ds env' S', EnvOk c μ H env σ ∧ StoOk c μ S H ∧ Reps c μ H ds xs ∧ g ds env S = some (env', S') ∧
  ∀ μ' H' σ', Ext c μ H μ' H' → StoOk c μ' S' H' → EnvOk c μ' H' env' σ' → (∀ ws, vs = some ws → wipe σ' ws = wipe σ ws) → Q σ' H'
def gNm (i : Nat) : FG := fun d env S => some (env.set i (some d), S)
def gNils : FGs := fun ds env S => match ds with
  | [] => some (env, S)
  | _ => none
def gCns (g : FG) (gs : FGs) : FGs := fun ds env S => match ds with
  | d :: r => th (g d env S) fun env1 S1 => gs r env1 S1
  | [] => none
def gTp (n : Nat) (gs : FGs) : FG := fun d env S => match d with
  | .tup ds => if ds.length = n then gs ds env S else none
  | .pr ds => if ds.length = n then gs ds env S else none
  | _ => none
def gIx (fo fi : FE) : FG := fun d env S => th (fo env S) fun o S1 => th (fi env S1) fun i S2 => match o with
  | .ref n => match S2[n]? with
    | some (.lst us) => match i with
      | .int k => match ixN us.length k with
        | some j => some (env, S2.set n (.lst (us.set j d)))
        | none => none
      | _ => none
    | some (.dic kvs) => match keyD i with
      | some k => if kvs.length < cap then some (env, S2.set n (.dic (putG kvs k d))) else none
      | none => none
    | _ => none
  | _ => none
def gFd (ks : List Str) (fo : FE) (f : Str) : FG := fun d env S => th (fo env S) fun o S1 => match o with
  | .ref n => match S1[n]? with
    | some (.ins k fs) => if k ∈ ks ∧ fs.length < 900 then some (env, S1.set n (.ins k (putF f d fs))) else none
    | _ => none
  | _ => none
theorem wipe_set {σ : L2.St} {i : Nat} {x : Option V} : ∀ {vs : List Nat}, i ∈ vs → wipe (σ.set i x) vs = wipe σ vs
  | [], h => nomatch h
  | v :: vs, h => by
    unfold wipe
    by_cases e : i ∈ vs
    · rw [wipe_set e]
    · have ev : i = v := by
        rcases List.mem_cons.mp h with e' | e'
        · exact e'
        · exact absurd e' e
      subst ev
      have : ∀ ws : List Nat, i ∉ ws → wipe (σ.set i x) ws = (wipe σ ws).set i x := by
        intro ws
        induction ws with
        | nil => intro _; rfl
        | cons w ws ih =>
          intro hw
          unfold wipe
          rw [ih (fun z => hw (List.mem_cons_of_mem _ z)), List.set_comm]
          intro z
          exact hw (by rw [z]; exact List.mem_cons_self)
      rw [this vs e, List.set_set]
section
variable {c : FC} {X : Cx} {vs : Option (List Nat)} {pos : Pos}
theorem PG.w {tg : Expr} {t t' : TG} (h : PG X tg t) (w : ∀ v σ H Q, t' v σ H Q → t v σ H Q) : PG X tg t' := ⟨fun pins s σ H v u Q I r q => h.run pins s σ H v u Q I r (w v σ H Q q)⟩
theorem PGs.w {tg : List Expr} {t t' : TGs} (h : PGs X tg t) (w : ∀ v σ H Q, t' v σ H Q → t v σ H Q) : PGs X tg t' := ⟨fun pins s σ H v u Q I r q => h.run pins s σ H v u Q I r (w v σ H Q q)⟩
theorem q_gnm {i : Nat} {x : Str} (hN : X.N.Nodup) (hi : X.N[i]? = some x := by rfl) (hv : ∀ ws, vs = some ws → i ∈ ws := by first | (intro _ h; cases h; decide) | (intro _ h; cases h)) (hx : Loc X.env.scope x := by first | exact Or.inl rfl | exact Or.inr rfl) (hf : X.fn x = true ∨ X.env.scope.names.lookup x = some .local := by first | exact .inl rfl | exact .inr rfl) :
    PG X (.Name x pos) (tG c vs (gNm i)) := by
  refine PG.w (pg_name hN hi hx hf) fun v σ H Q h => ?_
  obtain ⟨μ, env, S, d, env', S', he, hs, r, hg, ha⟩ := h
  cases hg
  exact ha μ H _ Ext.refl hs (he.set i r) fun ws e => wipe_set (hv ws e)
theorem q_gnil : PGs X [] (tGs c vs gNils) := by
  refine PGs.w pgs_nil fun v σ H Q h => ?_
  obtain ⟨μ, env, S, ds, env', S', he, hs, r, hg, ha⟩ := h
  unfold gNils at hg
  split at hg
  · cases hg
    obtain rfl : v = [] := r
    exact ⟨rfl, ha μ H _ Ext.refl hs he fun _ _ => rfl⟩
  · cases hg
theorem q_gcns {e : Expr} {es : List Expr} {g : FG} {gs : FGs} (h1 : PG X e (tG c vs g)) (h2 : PGs X es (tGs c vs gs)) (hs : (assignEach (e :: es) X.env).map (·.2) = assign e X.env :: (assignEach es X.env).map (·.2) := by rfl) : PGs X (e :: es) (tGs c vs (gCns g gs)) := by
  refine PGs.w (pgs_cons h1 h2 hs) fun v σ H Q h => ?_
  obtain ⟨μ, env, S, ds, env', S', he, hs, r, hg, ha⟩ := h
  unfold gCns at hg
  split at hg
  · rename_i d rest
    obtain ⟨env1, S1, g1, hg⟩ := th_inv hg
    obtain ⟨x, xs, rfl, r1, r2⟩ := r
    refine ⟨x, xs, rfl, μ, env, S, d, env1, S1, he, hs, r1, g1, fun μ1 H1 σ1 e1 k1 q1 w1 => ?_⟩
    exact ⟨μ1, env1, S1, rest, env', S', q1, k1, Reps.mono e1 _ _ r2, hg, fun μ2 H2 σ2 e2 k2 q2 w2 => ha μ2 H2 σ2 (e1.trans e2) k2 q2 fun ws e => (w2 ws e).trans (w1 ws e)⟩
  · cases hg
theorem q_gtp (hK : c.K = X.K) (hc : X.calm = true) {es : List Expr} {k n : Nat} {gs : FGs} (h : PGs X es (tGs c vs gs)) (hn : (assignEach es X.env).length = n := by rfl) (hst : (assignEach es X.env).findIdx? (·.1) = none := by rfl) : PG X (.Tuple es k pos) (tG c vs (gTp n gs)) := by
  refine PG.w (pg_tup hc h hn hst) fun v σ H Q h => ?_
  obtain ⟨μ, env, S, d, env', S', he, hs, r, hg, ha⟩ := h
  unfold gTp at hg
  split at hg
  · rename_i ds
    split at hg
    · rename_i hl
      obtain ⟨a, xs, rfl, q, rr⟩ := r
      exact ⟨a, xs, rfl, by rw [← hK]; exact q.sq, by rw [rr.len]; exact hl, μ, env, S, ds, env', S', he, hs, rr, hg, ha⟩
    · cases hg
  · rename_i ds
    split at hg
    · rename_i hl
      obtain ⟨a, xs, rfl, q, rr⟩ := r
      exact ⟨a, xs, rfl, by rw [← hK]; exact q, by rw [rr.len]; exact hl, μ, env, S, ds, env', S', he, hs, rr, hg, ha⟩
    · cases hg
  · cases hg
def PSet.or {t t' : TSet} (h : PSet X t) (h' : PSet X t') : PSet X (fun o i v H Q => t o i v H Q ∨ t' o i v H Q) := fun pins s σ H o i v ov iv u Q I r1 r2 r3 q =>
  q.elim (h pins s σ H o i v ov iv u Q I r1 r2 r3) (h' pins s σ H o i v ov iv u Q I r1 r2 r3)
theorem q_gix (hu : X.A.units + 64 < cLine) {o i : Expr} {fo fi : FE} (ho : PE X o (tE c fo)) (hi : PE X i (tE c fi))
    (ha : ∀ v, assign (.Subscript o i pos) X.env v = (do
      let ov ← holding [v] (eval o X.env)
      let iv ← holding [v, ov] (eval i X.env)
      standAt pos
      holding [v, ov, iv] (setItem ov iv v)
      release [v, ov, iv] []) := by intro _; rfl) : PG X (.Subscript o i pos) (tG c none (gIx fo fi)) := by
  refine PG.w (pg_sub ho hi (PSet.or set_list (set_dict (by omega))) ha) fun v σ H Q h => ?_
  obtain ⟨μ, env, S, d, env', S', he, hs, r, hg, ha⟩ := h
  obtain ⟨ov, S1, h1, hg⟩ := th_inv hg
  obtain ⟨iv, S2, h2, hg⟩ := th_inv hg
  refine ⟨μ, env, S, ov, S1, he, hs, h1, fun μ1 H1 w e1 k1 r1 => ?_⟩
  refine ⟨μ1, env, S1, iv, S2, he.mono e1, k1, h2, fun μ2 H2 y e2 k2 r2 => ?_⟩
  cases ov with
  | ref n =>
    obtain ⟨a, ha1, rfl⟩ := r1
    simp only at hg
    split at hg
    · rename_i us g1
      split at hg
      · rename_i k
        split at hg
        · rename_i j g2
          cases hg
          obtain ⟨a', g4, ys, q, rr⟩ := k2.stands _ _ g1
          rw [e2.pre _ _ ha1] at g4
          cases g4
          obtain rfl := (show y = .int _ from r2)
          obtain ⟨x1, x2⟩ := lst_set k2 g1 (e2.pre _ _ ha1) q (rr.set (Rep.mono e2 _ _ (Rep.mono e1 _ _ r)) j)
          exact .inl ⟨a, ys, k, j, rfl, rfl, q, by rw [rr.len]; exact g2, ha _ _ _ ((e1.trans e2).trans x1) x2 (((he.mono e1).mono e2).mono x1) fun _ _ => rfl⟩
        · cases hg
      · cases hg
    · rename_i kvs g1
      split at hg
      · rename_i k g2
        split at hg
        · rename_i hz
          cases hg
          obtain ⟨a', g4, ys, q, rr⟩ := k2.stands _ _ g1
          rw [e2.pre _ _ ha1] at g4
          cases g4
          obtain ⟨x1, x2⟩ := dic_set k2 g1 (e2.pre _ _ ha1) q (rr.put (k := k) (Rep.mono e2 _ _ (Rep.mono e1 _ _ r)))
          exact .inr ⟨a, _, rfl, .inl ⟨ys, k, q, keyD_rep r2 g2, by rw [rr.len]; exact cap_lt hz, rfl⟩, ha _ _ _ ((e1.trans e2).trans x1) x2 (((he.mono e1).mono e2).mono x1) fun _ _ => rfl⟩
        · cases hg
      · cases hg
    · cases hg
  | _ => cases hg
/-- o.f = .. as a target -/
def gAt (K : PySem.W.Frag) (to : TE) (f : Str) : TG := fun y σ H Q => to σ H fun x H2 => ∃ a C dx fs, x = .ref a ∧ H2 a = some (.ins C dx fs) ∧ Cls K C ∧ NoAttr K C f ∧ fs.length < 1000 ∧ Q σ (upd H2 a (.ins C dx (L2.putF f y fs)))
theorem pg_at {o : Expr} {to : TE} {f : Str} (ho : PE X o to) : PG X (.Attribute o f pos) (gAt X.K to f) := by
  refine ⟨fun pins s σ H y u Q I ry h => ?_⟩
  show wpAny _ _ (do
    let ov ← holding [u] (eval o X.env)
    standAt pos.atName
    holding [u, ov] (setAttr ov f u)
    release [u, ov] []) _ _ s
  refine wpAny_bind (wpAny_holding (thn (ho.run pins s σ H _ I h) fun ov s1 ⟨x, H1, I1, r1, a, C, dx, fs, ex, ea, c1, n1, l, q1⟩ => ?_))
  subst ex
  obtain rfl : ov = Value.ref a := r1
  refine wpAny_bind (wpAny_standAt (wpAny_bind (wpAny_holding (setattr_ok I1 ea c1 n1 l ry fun s3 I3 => ?_))))
  exact wpAny_release ⟨σ, _, I3, q1⟩
theorem q_gfd (hK : c.K = X.K) {ks : List Str} {o : Expr} {f : Str} {fo : FE} (h1 : ClsK c ks) (h2 : FldK c ks f) (ho : PE X o (tE c fo)) : PG X (.Attribute o f pos) (tG c none (gFd ks fo f)) := by
  refine PG.w (pg_at ho) fun v σ H Q h => ?_
  obtain ⟨μ, env, S, d, env', S', he, hs, r, hg, ha⟩ := h
  obtain ⟨ov, S1, g0, hg⟩ := th_inv hg
  refine ⟨μ, env, S, ov, S1, he, hs, g0, fun μ1 H1 w e1 k1 r1 => ?_⟩
  cases ov with
  | ref n =>
    obtain ⟨a, ha1, rfl⟩ := r1
    simp only at hg
    split at hg
    · rename_i k fs g1
      split at hg
      · rename_i hk
        cases hg
        obtain ⟨a', g4, dx, ys, q, rr⟩ := k1.stands _ _ g1
        rw [ha1] at g4
        cases g4
        obtain ⟨x1, x2⟩ := ins_set k1 g1 ha1 q (putF_rep (f := f) (Rep.mono e1 _ _ r) rr)
        exact ⟨a, c.ct k, dx, ys, rfl, q, by rw [← hK]; exact h1 k hk.1, by rw [← hK]; exact h2 k hk.1, by rw [rr.len]; omega, ha _ _ _ (e1.trans x1) x2 ((he.mono e1).mono x1) fun _ _ => rfl⟩
      · cases hg
    · cases hg
  | _ => cases hg

/-! ### assignments -/
def sAsg (fe : FE) (g : FG) : FS := fun env S => th (fe env S) fun d S1 => th (g d env S1) fun env1 S2 => some (.nx env1, S2)
theorem q_asg {tg e : Expr} {fe : FE} {g : FG} (he : PE X e (tE c fe)) (hg : PG X tg (tG c none g)) (hs : swapsWithSole [tg] e pos.line X.env = pure false := by rfl) (hw : swappedStores [tg] e X.env = pure none := by rfl)
    (h1 : (assignEach [tg] X.env).map (·.2) = [assign tg X.env] := by rfl) : PS X (.Assign [tg] e pos) (tS c (sAsg fe g)) := by
  refine PS.w (ps_asg he hg hs hw h1) fun Dn σ H h => ?_
  obtain ⟨μ, env, S, o, S', he, hs, hf, ha⟩ := h
  obtain ⟨d, S1, h1, hf⟩ := th_inv hf
  obtain ⟨env1, S2, h2, hf⟩ := th_inv hf
  cases hf
  refine ⟨μ, env, S, d, S1, he, hs, h1, fun μ1 H1 v e1 k1 r1 => ?_⟩
  exact ⟨μ1, env, S1, d, env1, _, he.mono e1, k1, r1, h2, fun μ2 H2 σ2 e2 k2 q2 _ => ha μ2 H2 (e1.trans e2) k2 σ2 q2⟩
/-- a, b = x, y of plain local names -/
def sPar (is : List Nat) (fr : FA) : FS := fun env S => th (fr env S) fun ds S1 => if ds.length = is.length then some (.nx ((is.zip ds).foldl (fun e p => e.set p.1 (some p.2)) env), S1) else none
theorem q_par2 {i j : Nat} {x y : Str} {a b : Expr} {fr : FA} {px py pt : Pos} {kt k2 pt2} (hc : X.calm = true) (hN : X.N.Nodup) (ha : PA X [a, b] (tA c fr)) (hi : X.N[i]? = some x := by rfl) (hj : X.N[j]? = some y := by rfl) (hij : i ≠ j := by decide)
    (hx : X.env.scope.names.lookup x = some .local := by rfl) (hy : X.env.scope.names.lookup y = some .local := by rfl)
    (hw : swappedStores [.Tuple [.Name x px, .Name y py] kt pt] (.Tuple [a, b] k2 pt2) X.env = pure (some [x, y]) := by rfl)
    (hs : swapsWithSole [.Tuple [.Name x px, .Name y py] kt pt] (.Tuple [a, b] k2 pt2) pos.line X.env = pure false := by rfl) :
    PS X (.Assign [.Tuple [.Name x px, .Name y py] kt pt] (.Tuple [a, b] k2 pt2) pos) (tS c (sPar [i, j] fr)) := by
  refine PS.w (ps_par hc hN hi hj hij hx hy ha hw hs) fun Dn σ H h => ?_
  obtain ⟨μ, env, S, o, S', he, hs, hf, ha⟩ := h
  obtain ⟨ds, S1, h1, hf⟩ := th_inv hf
  split at hf
  · rename_i hl
    cases hf
    refine ⟨μ, env, S, ds, _, he, hs, h1, fun μ1 H1 vs e1 k1 r1 => ?_⟩
    match ds, hl, r1, ha with
    | [d1, d2], _, r1, ha =>
      obtain ⟨v, w, rfl, ra, rb⟩ := r1.two_inv
      exact ⟨v, w, rfl, ha μ1 H1 e1 k1 _ (((he.mono e1).set i ra).set j rb)⟩
  · cases hf
theorem q_par3 {i j l : Nat} {x y z : Str} {a b d : Expr} {fr : FA} {px py pz pt : Pos} {kt k2 pt2}
    (h : PS X (.Assign [.Tuple [.Name x px, .Name y py, .Name z pz] kt pt] (.Tuple [a, b, d] k2 pt2) pos) (tPar3 i j l (tA c fr))) :
    PS X (.Assign [.Tuple [.Name x px, .Name y py, .Name z pz] kt pt] (.Tuple [a, b, d] k2 pt2) pos) (tS c (sPar [i, j, l] fr)) := by
  refine PS.w h fun Dn σ H h => ?_
  obtain ⟨μ, env, S, o, S', he, hs, hf, ha⟩ := h
  obtain ⟨ds, S1, h1, hf⟩ := th_inv hf
  split at hf
  · rename_i hl
    cases hf
    refine ⟨μ, env, S, ds, _, he, hs, h1, fun μ1 H1 vs e1 k1 r1 => ?_⟩
    match ds, hl, r1, ha with
    | [d1, d2, d3], _, r1, ha =>
      obtain ⟨v, vs', rfl, ra, rb⟩ := r1
      obtain ⟨w, u, rfl, rb, rc⟩ := rb.two_inv
      exact ⟨v, w, u, rfl, ha μ1 H1 e1 k1 _ ((((he.mono e1).set i ra).set j rb).set l rc)⟩
  · cases hf
/-- name op= e -/
def sAug (i : Nat) (r : F2) (fe : FE) : FS := fun env S => match env[i]? with
  | some (some x) => th (fe env S) fun y S1 => th (r x y S1) fun z S2 => some (.nx (env.set i (some z)), S2)
  | _ => none
def PIp.w {op : Operator} {t t' : TIp} (h : PIp X op t) (w : ∀ x y H Q, t' x y H Q → t x y H Q) : PIp X op t' := fun pins s σ H x y v u Q I r1 r2 q => h pins s σ H x y v u Q I r1 r2 (w x y H Q q)
theorem q_aug {i : Nat} {x : Str} {e : Expr} {fe : FE} {r : F2} {op : Operator} {pos' : Pos} (hN : X.N.Nodup) (he : PE X e (tE c fe)) (ho : PIp X op (r2 c r)) (hi : X.N[i]? = some x := by rfl) (hx : Loc X.env.scope x := by first | exact Or.inl rfl | exact Or.inr rfl) (hf : X.fn x = true ∨ X.env.scope.names.lookup x = some .local := by first | exact .inl rfl | exact .inr rfl) :
    PS X (.AugAssign (.Name x pos') op e pos) (tS c (sAug i r fe)) := by
  refine PS.w (ps_aug hN hi hx he ho hf) fun Dn σ H h => ?_
  obtain ⟨μ, env, S, o, S', he, hs, hf, ha⟩ := h
  unfold sAug at hf
  split at hf
  · rename_i d g1
    obtain ⟨y, S1, h1, hf⟩ := th_inv hf
    obtain ⟨z, S2, h2, hf⟩ := th_inv hf
    cases hf
    obtain ⟨v, e1, r1⟩ := he.2 i d g1
    refine ⟨v, e1, μ, env, S, y, S1, he, hs, h1, fun μ1 H1 w x1 k1 q1 => ?_⟩
    exact ⟨μ1, S1, d, y, z, _, k1, Rep.mono x1 _ _ r1, q1, h2, fun μ2 H2 u x2 k2 q2 => ha μ2 H2 (x1.trans x2) k2 _ ((((he.mono x1).mono x2)).set i q2)⟩
  · cases hf
/-- o.f op= e -/
def sAugF (ks : List Str) (fo : FE) (f : Str) (r : F2) (fe : FE) : FS := fun env S => th (fo env S) fun o S1 => match o with
  | .ref n => match S1[n]? with
    | some (.ins k fs) => if k ∈ ks then match fs.lookup f with
      | some x => th (fe env S1) fun y S2 => th (r x y S2) fun z S3 => match S3[n]? with
        | some (.ins k' fs') => if k' = k ∧ fs'.length < 900 then some (.nx env, S3.set n (.ins k (putF f z fs'))) else none
        | _ => none
      | none => none
      else none
    | _ => none
  | _ => none
theorem q_augf (hK : c.K = X.K) {ks : List Str} {o e : Expr} {f : Str} {fo fe : FE} {r : F2} {op : Operator} {tpos : Pos} (h1 : ClsK c ks) (h2 : FldK c ks f) (ho : PE X o (tE c fo)) (he : PE X e (tE c fe)) (hop : InOp X op (r2 c r)) : PS X (.AugAssign (.Attribute o f tpos) op e pos) (tS c (sAugF ks fo f r fe)) := by
  refine PS.w (ps_fldaug ho he hop) fun Dn σ H h => ?_
  obtain ⟨μ, env, S, ou, S', he, hs, hf0, ha⟩ := h
  obtain ⟨ov, S1, g0, hf⟩ := th_inv hf0
  clear hf0
  refine ⟨μ, env, S, ov, S1, he, hs, g0, fun μ1 H1 w e1 k1 r1 => ?_⟩
  cases ov with
  | ref n =>
    obtain ⟨a, ha1, rfl⟩ := r1
    simp only at hf
    split at hf
    · rename_i k fs g1
      split at hf
      · rename_i hk
        split at hf
        · rename_i xd g2
          obtain ⟨y, S2, g3, hf⟩ := th_inv hf
          obtain ⟨z, S3, g4, hf⟩ := th_inv hf
          obtain ⟨a', g5, dx, ys, q, rr⟩ := k1.stands _ _ g1
          rw [ha1] at g5
          cases g5
          obtain ⟨v, e5, e6⟩ := fs_lookup rr g2
          refine ⟨a, c.ct k, dx, ys, v, rfl, q, by rw [← hK]; exact h1 k hk, by rw [← hK]; exact h2 k hk, e5, μ1, env, S1, y, S2, he.mono e1, k1, g3, fun μ2 H2 w e2 k2 r2 => ?_⟩
          refine ⟨μ2, S2, xd, y, z, S3, k2, Rep.mono e2 _ _ e6, r2, g4, fun μ3 H3 u e3 k3 r3 => ?_⟩
          split at hf
          · rename_i k' fs' g6
            split at hf
            · rename_i hk'
              obtain ⟨hk1, hk2⟩ := hk'
              subst hk1
              cases hf
              obtain ⟨a', g7, dx', ys', q', rr'⟩ := k3.stands _ _ g6
              have ha3 := e3.pre _ _ (e2.pre _ _ ha1)
              rw [ha3] at g7
              cases g7
              obtain ⟨x1, x2⟩ := ins_set k3 g6 ha3 q' (putF_rep (f := f) r3 rr')
              exact ⟨dx', ys', q', by rw [rr'.len]; omega, ha _ _ (((e1.trans e2).trans e3).trans x1) x2 _ ((((he.mono e1).mono e2).mono e3).mono x1)⟩
            · cases hf
          · cases hf
        · cases hf
      · cases hf
    · cases hf
  | _ => cases hf
/-- d[k] op= e, xs[i] op= e -/
def sAugS (fo fi : FE) (r : F2) (fe : FE) : FS := fun env S => th (fo env S) fun o S1 => th (fi env S1) fun i S2 => th (oIx o i S2) fun x S3 => th (fe env S3) fun y S4 => th (r x y S4) fun z S5 => th (gIx (eC o) (eC i) z env S5) fun env1 S6 => some (.nx env1, S6)
end
end FL
/-! FL8: loops, what they walk, comprehensions, defs. -/
namespace FL
open PySem PySem.Spec PyProof.Rows L2

/-! ### while -/
def whileN (t : FT) (b : FS) : Nat → FS
  | 0 => fun _ _ => none
  | n + 1 => fun env S => th (t env S) fun k S1 => if k = true then th (b env S1) fun o S2 => match o with
    | .nx e => whileN t b n e S2
    | .ct e => whileN t b n e S2
    | .bk e => some (.nx e, S2)
    | .rt d => some (.rt d, S2)
    else some (.nx env, S1)
/-- the most turns of a while -/
def fuel : Nat := 1000000
def sWhile (t : FT) (b : FS) : FS := whileN t b fuel
section
variable {c : FC} {X : Cx}
theorem q_while {cd : Expr} {body : List Stmt} {ft : FT} {fb : FS} {pos : Pos} (hp : PassesOwn (model X.prog X.w) X.A X.env X.xe) (hc : PT X cd (tT c ft)) (hb : PSs X body (tS c fb)) : PS X (.While cd body [] pos) (tS c (sWhile ft fb)) := by
  refine PS.w (ps_while hp hc hb) fun Dn σ H h => ?_
  obtain ⟨μ, env, S, o, S', he, hs, hf, ha⟩ := h
  refine ⟨fun m σ1 H1 => ∃ μ1 env1 S1, Ext c μ H μ1 H1 ∧ EnvOk c μ1 H1 env1 σ1 ∧ StoOk c μ1 S1 H1 ∧ whileN ft fb m env1 S1 = some (o, S'), ⟨fuel, μ, env, S, Ext.refl, he, hs, hf⟩, ?_⟩
  rintro m σ1 H1 ⟨μ1, env1, S1, e1, r1, k1, hw⟩
  cases m with
  | zero => cases hw
  | succ m =>
    obtain ⟨k, S2, h2, hw⟩ := th_inv hw
    refine ⟨μ1, env1, S1, k, S2, r1, k1, h2, fun μ2 H2 e2 k2 => ?_⟩
    have ha2 := (ha.ext e1).ext e2
    cases k with
    | true =>
      rw [if_pos rfl] at hw
      refine iteT ?_
      obtain ⟨o3, S3, h3, hw⟩ := th_inv hw
      refine ⟨fun σ' H' => ∃ μ1 env1 S1, Ext c μ H μ1 H' ∧ EnvOk c μ1 H' env1 σ' ∧ StoOk c μ1 S1 H' ∧ whileN ft fb m env1 S1 = some (o, S'), fun σ' H' q => ⟨m, Nat.lt_succ_self m, q⟩, ?_⟩
      refine ⟨μ2, env1, S2, o3, S3, r1.mono e2, k2, h3, fun μ3 H3 e3 k3 => ?_⟩
      cases o3 with
      | nx e => exact fun σ3 r3 => ⟨μ3, e, S3, (e1.trans e2).trans e3, r3, k3, hw⟩
      | ct e => exact fun σ3 r3 => ⟨μ3, e, S3, (e1.trans e2).trans e3, r3, k3, hw⟩
      | bk e =>
        cases hw
        exact fun σ3 r3 => ha2 μ3 H3 e3 k3 σ3 r3
      | rt d =>
        cases hw
        exact fun v r3 => ha2 μ3 H3 e3 k3 v r3
    | false =>
      rw [if_neg Bool.false_ne_true] at hw
      refine iteF ?_
      cases hw
      exact ha2.nx k2 (r1.mono e2)
end

/-! ### what is walked -/
structure ItD where
  it : Sto → Nat → Option (Option D)
  len : Nat
def ItD.fix (ds : List D) : ItD := ⟨fun _ i => some (ds[i]?), ds.length⟩
def ItD.lst (n k : Nat) : ItD := ⟨fun S i => (getL S n).map fun ds => ds[i]?, k⟩
/-- the keys of a dict that is locked -/
def ItD.keys (n k : Nat) : ItD := ⟨fun S i => match S[n]? with
  | some (.lck kvs) => some ((kvs[i]?).map fun kv => dKey kv.1)
  | _ => none, k⟩
def ItD.items (n k : Nat) : ItD := ⟨fun S i => match S[n]? with
  | some (.lck kvs) => some ((kvs[i]?).map fun kv => .pr [dKey kv.1, kv.2])
  | _ => none, k⟩
def ItD.vals (n k : Nat) : ItD := ⟨fun S i => match S[n]? with
  | some (.lck kvs) => some ((kvs[i]?).map fun kv => kv.2)
  | _ => none, k⟩
def ItD.enum (n k : Nat) : ItD := ⟨fun S i => (getL S n).map fun ds => (ds[i]?).map fun d => .pr [.int i, d], k⟩
def ItD.zip (n m k : Nat) : ItD := ⟨fun S i => match getL S n, getL S m with
  | some ds, some es => match ds[i]?, es[i]? with
    | some d, some e => some (some (.pr [d, e]))
    | _, _ => some none
  | _, _ => none, k⟩
abbrev FI := Env → Sto → Option (ItD × Sto)
def ItOk (c : FC) (μ0 : List Addr) (H0 : Hp) (it : ItD) (J : It) : Prop := ∀ μ H S, Ext c μ0 H0 μ H → StoOk c μ S H → ∀ i, (it.it S i = some none → J.stop i H) ∧
  ∀ d, it.it S i = some (some d) → J.go i H ∧ ∀ x H', J.yld i H x H' → ∃ μ', Ext c μ H μ' H' ∧ StoOk c μ' S H' ∧ Rep c μ' H' d x
def tI (c : FC) (fi : FI) : TI := fun σ H R => ∃ μ env S it S', EnvOk c μ H env σ ∧ StoOk c μ S H ∧ fi env S = some (it, S') ∧ ∀ μ' H' J, Ext c μ H μ' H' → StoOk c μ' S' H' → ItOk c μ' H' it J → R J H'
def iSeq (fe : FE) : FI := fun env S => th (fe env S) fun d S1 => match d with
  | .tup ds => some (.fix ds, S1)
  | .str z => some (.fix (z.cps.toList.map fun k => .str ⟨#[k]⟩), S1)
  | .ref n => match S1[n]? with
    | some (.lst ds) => some (.lst n ds.length, S1)
    | some (.ro ds) => some (.lst n ds.length, S1)
    | some (.lck kvs) => some (.keys n kvs.length, S1)
    | _ => none
  | _ => none
def rngD (lo : Int) (n : Nat) : List D := (List.range n).map fun (k : Nat) => D.int (lo + k)
def iRng1 (fr : FA) : FI := fun env S => th (fr env S) fun ds S1 => match ds with
  | [.int j] => if (decide (-4611686018427387904 ≤ j) && decide (j < 4611686018427387904)) = true then some (.fix (rngD 0 j.toNat), S1) else none
  | _ => none
def iRng2 (fr : FA) : FI := fun env S => th (fr env S) fun ds S1 => match ds with
  | [.int i, .int j] => if (decide (-4611686018427387904 ≤ i) && decide (i < 4611686018427387904) && decide (-4611686018427387904 ≤ j) && decide (j < 4611686018427387904)) = true then some (.fix (rngD i (j - i).toNat), S1) else none
  | _ => none
def iItems (fe : FE) : FI := fun env S => th (fe env S) fun d S1 => match d with
  | .ref n => match S1[n]? with
    | some (.lck kvs) => some (.items n kvs.length, S1)
    | _ => none
  | _ => none
def iVals (fe : FE) : FI := fun env S => th (fe env S) fun d S1 => match d with
  | .ref n => match S1[n]? with
    | some (.lck kvs) => some (.vals n kvs.length, S1)
    | _ => none
  | _ => none
def iEnum (fr : FA) : FI := fun env S => th (fr env S) fun ds S1 => match ds with
  | [.ref n] => (getL S1 n).map fun us => (.enum n us.length, S1)
  | _ => none
def iZip (fr : FA) : FI := fun env S => th (fr env S) fun ds S1 => match ds with
  | [.ref n, .ref m] => match getL S1 n, getL S1 m with
    | some us, some ws => some (.zip n m (min us.length ws.length), S1)
    | _, _ => none
  | [.tup us, .tup ws] => some (.fix ((us.zip ws).map fun p => .pr [p.1, p.2]), S1)
  | _ => none
section
variable {c : FC} {X : Cx} {tg e : Expr} {fe : FE} {fr : FA}
theorem PI.w {iter : Expr} {t t' : TI} (h : PI X tg iter t) (w : ∀ σ H R, t' σ H R → t σ H R) : PI X tg iter t' := ⟨fun pins s σ H R I q => h.run pins s σ H R I (w σ H R q)⟩
theorem PI.or {iter : Expr} {t t' : TI} (h : PI X tg iter t) (h' : PI X tg iter t') : PI X tg iter (fun σ H R => t σ H R ∨ t' σ H R) := ⟨fun pins s σ H R I q => q.elim (h.run pins s σ H R I) (h'.run pins s σ H R I)⟩
theorem itok_list (hK : c.K = X.K) {μ : List Addr} {H : Hp} {n k : Nat} {a : Addr} (ha : μ[n]? = some a) : ItOk c μ H (.lst n k) (Itl X.K a) := by
  intro μ1 H1 S1 e1 k1 i
  have ha1 := e1.pre _ _ ha
  refine ⟨fun h => ?_, fun d h => ?_⟩
  · obtain ⟨ds, g1, g2⟩ := Option.map_eq_some_iff.mp h
    obtain ⟨a', xs, g3, q, r⟩ := getL_sq k1 g1
    rw [ha1] at g3
    cases g3
    exact ⟨xs, by rw [← hK]; exact q, by rw [r.len]; exact List.getElem?_eq_none_iff.mp g2⟩
  · obtain ⟨ds, g1, g2⟩ := Option.map_eq_some_iff.mp h
    obtain ⟨a', xs, g3, q, r⟩ := getL_sq k1 g1
    rw [ha1] at g3
    cases g3
    obtain ⟨v, e4, rv⟩ := r.get g2
    refine ⟨⟨xs, v, by rw [← hK]; exact q, e4⟩, fun x H' y => ?_⟩
    obtain ⟨rfl, fv⟩ := y
    have ex : x = v := by
      have := (fv xs (by rw [← hK]; exact q)).symm.trans e4
      exact Option.some.inj this
    subst ex
    exact ⟨μ1, Ext.refl, k1, rv⟩
theorem itok_tup (hK : c.K = X.K) {μ : List Addr} {H : Hp} {ds : List D} {a : Addr} {xs : List V} (q : SqT c.K H a xs) (r : Reps c μ H ds xs) : ItOk c μ H (.fix ds) (Itt X.K a) := by
  intro μ1 H1 S1 e1 k1 i
  have q1 := e1.tup _ _ q
  have r1 := Reps.mono e1 _ _ r
  refine ⟨fun h => ?_, fun d h => ?_⟩
  · exact ⟨xs, by rw [← hK]; exact q1, by rw [r1.len]; exact List.getElem?_eq_none_iff.mp (Option.some.inj h)⟩
  · obtain ⟨v, e4, rv⟩ := r1.get (Option.some.inj h)
    refine ⟨⟨xs, v, by rw [← hK]; exact q1, e4⟩, fun x H' y => ?_⟩
    obtain ⟨rfl, fv⟩ := y
    have ex : x = v := Option.some.inj ((fv xs (by rw [← hK]; exact q1)).symm.trans e4)
    subst ex
    exact ⟨μ1, Ext.refl, k1, rv⟩
theorem lck_at {μ : List Addr} {S : Sto} {H : Hp} {n : Nat} {kvs : List (Key × D)} {a : Addr} {o : Obj} {ys : List (Key × V)} (k : StoOk c μ S H) (g : S[n]? = some (.lck kvs)) (ha : μ[n]? = some a) (hf : H a = some (.frz o (.dK ys))) : RepKV c μ H kvs ys := by
  obtain ⟨a', e1, o', ys', q, r⟩ := k.stands _ _ g
  rw [ha] at e1
  cases e1
  rw [hf] at q
  cases q
  exact r
theorem kv_get {κ : Type} [DecidableEq κ] {μ : List Addr} {H : Hp} : ∀ {kvs : List (κ × D)} {ys : List (κ × V)} {i : Nat}, RepKV c μ H kvs ys → (kvs[i]? = none → ys.length ≤ i) ∧ ∀ k d, kvs[i]? = some (k, d) → ∃ v, ys[i]? = some (k, v) ∧ Rep c μ H d v
  | [], ys, i, h => by
    rw [h.inv0]
    exact ⟨fun _ => Nat.zero_le _, fun k d e => by simp at e⟩
  | (k', d') :: kvs, ys, 0, h => by
    obtain ⟨v, ys', rfl, r, h2⟩ := h.inv
    refine ⟨fun e => by simp at e, fun k d e => ?_⟩
    have e' : (k', d') = (k, d) := by simpa using e
    cases e'
    exact ⟨v, rfl, r⟩
  | (k', d') :: kvs, ys, i + 1, h => by
    obtain ⟨v, ys', rfl, r, h2⟩ := h.inv
    obtain ⟨i1, i2⟩ := kv_get (i := i) h2
    refine ⟨fun e => ?_, fun k d e => ?_⟩
    · rw [List.length_cons]
      have := i1 (by simpa using e)
      omega
    · obtain ⟨w, e1, e2⟩ := i2 k d (by simpa using e)
      exact ⟨w, by simpa using e1, e2⟩
theorem q_iseq (hK : c.K = X.K) (h : PE X e (tE c fe)) : PI X tg e (tI c (iSeq fe)) := by
  refine PI.w (PI.or (PI.or (pi_list h) (pi_tup h)) (PI.or (pi_str h) (pi_keys h))) fun σ H R h => ?_
  obtain ⟨μ, env, S, it, S', he, hs, hf, ha⟩ := h
  obtain ⟨d, S1, h1, hf⟩ := th_inv hf
  cases d with
  | tup ds =>
    cases hf
    refine .inl (.inr ⟨μ, env, S, _, _, he, hs, h1, fun μ1 H1 v e1 k1 r1 => ?_⟩)
    obtain ⟨a, xs, rfl, q, r⟩ := r1
    exact ⟨a, rfl, ⟨xs, by rw [← hK]; exact q.sq⟩, ha _ _ _ e1 k1 (itok_tup hK q.sq r)⟩
  | str z =>
    cases hf
    refine .inr (.inl ⟨μ, env, S, _, _, he, hs, h1, fun μ1 H1 v e1 k1 r1 => ?_⟩)
    obtain rfl := (show v = .str z from r1)
    refine ⟨z, rfl, ha _ _ _ e1 k1 ?_⟩
    intro μ2 H2 S2 e2 k2 i
    refine ⟨fun g => ?_, fun d g => ?_⟩
    · have := List.getElem?_eq_none_iff.mp (Option.some.inj g)
      rw [List.length_map, Array.length_toList] at this
      exact this
    · have g' := Option.some.inj g
      rw [List.getElem?_map] at g'
      obtain ⟨k, g1, g2⟩ := Option.map_eq_some_iff.mp g'
      rw [Array.getElem?_toList] at g1
      refine ⟨(Array.getElem?_eq_some_iff.mp g1).1, fun x H' y => ?_⟩
      obtain ⟨rfl, k', g3, rfl⟩ := y
      rw [g1] at g3
      cases g3
      subst g2
      exact ⟨μ2, Ext.refl, k2, rfl⟩
  | ref n =>
    simp only at hf
    split at hf
    · rename_i ds g1
      cases hf
      refine .inl (.inl ⟨μ, env, S, _, _, he, hs, h1, fun μ1 H1 v e1 k1 r1 => ?_⟩)
      obtain ⟨a, ha1, rfl⟩ := r1
      obtain ⟨a', xs, g3, q, r⟩ := getL_sq k1 (show getL S' n = some ds by unfold getL; rw [g1])
      rw [ha1] at g3
      cases g3
      exact ⟨a, rfl, ⟨xs, by rw [← hK]; exact q⟩, ha _ _ _ e1 k1 (itok_list hK ha1)⟩
    · rename_i ds g1
      cases hf
      refine .inl (.inl ⟨μ, env, S, _, _, he, hs, h1, fun μ1 H1 v e1 k1 r1 => ?_⟩)
      obtain ⟨a, ha1, rfl⟩ := r1
      obtain ⟨a', xs, g3, q, r⟩ := getL_sq k1 (show getL S' n = some ds by unfold getL; rw [g1])
      rw [ha1] at g3
      cases g3
      exact ⟨a, rfl, ⟨xs, by rw [← hK]; exact q⟩, ha _ _ _ e1 k1 (itok_list hK ha1)⟩
    · rename_i kvs g1
      cases hf
      refine .inr (.inr ⟨μ, env, S, _, _, he, hs, h1, fun μ1 H1 v e1 k1 r1 => ?_⟩)
      obtain ⟨a, ha1, rfl⟩ := r1
      obtain ⟨a', g3, o, ys, q, r⟩ := k1.stands _ _ g1
      rw [ha1] at g3
      cases g3
      refine ⟨a, o, rfl, .inl ⟨ys, q, ha _ _ _ e1 k1 ?_⟩⟩
      intro μ2 H2 S2 e2 k2 i
      have q2 := e2.frz _ _ _ q
      have ha2 := e2.pre _ _ ha1
      refine ⟨fun g => ?_, fun d g => ?_⟩
      · unfold ItD.keys at g
        simp only at g
        split at g
        · rename_i kvs2 g4
          have r2 := lck_at k2 g4 ha2 q2
          refine ⟨q2, (kv_get (i := i) r2).1 ?_⟩
          have g' := Option.some.inj g
          cases hx : kvs2[i]? with
          | none => rfl
          | some p => rw [hx] at g'; cases g'
        · cases g
      · unfold ItD.keys at g
        simp only at g
        split at g
        · rename_i kvs2 g4
          have r2 := lck_at k2 g4 ha2 q2
          obtain ⟨p, g5, g6⟩ := Option.map_eq_some_iff.mp (Option.some.inj g)
          obtain ⟨v, g7, rv⟩ := (kv_get (i := i) r2).2 p.1 p.2 g5
          refine ⟨⟨q2, (List.getElem?_eq_some_iff.mp g7).1⟩, fun x H' y => ?_⟩
          obtain ⟨rfl, k', v', g8, rfl⟩ := y
          rw [g7] at g8
          cases g8
          subst g6
          exact ⟨μ2, Ext.refl, k2, dKey_rep _⟩
        · cases g
    · cases hf
  | _ => cases hf
theorem rng_ok {μ : List Addr} {H : Hp} (lo : Int) (n : Nat) : ItOk c μ H (.fix (rngD lo n)) (Itr lo n) := by
  intro μ2 H2 S2 e2 k2 i
  refine ⟨fun g => ?_, fun d g => ?_⟩
  · have := List.getElem?_eq_none_iff.mp (Option.some.inj g)
    unfold rngD at this
    rw [List.length_map, List.length_range] at this
    exact this
  · have g' := Option.some.inj g
    unfold rngD at g'
    rw [List.getElem?_map] at g'
    obtain ⟨k, g1, g2⟩ := Option.map_eq_some_iff.mp g'
    have hk := List.getElem?_eq_some_iff.mp g1
    obtain ⟨hk1, hk2⟩ := hk
    rw [List.length_range] at hk1
    rw [List.getElem_range] at hk2
    subst hk2
    refine ⟨hk1, fun x H' y => ?_⟩
    obtain ⟨rfl, rfl⟩ := y
    subst g2
    exact ⟨μ2, Ext.refl, k2, rfl⟩
theorem q_irng1 {a : Expr} {p pos : Pos} (hg : Gl X "range") (hm : X.mg "range" = none) (h : PA X [a] (tA c fr)) (hs : starEach [a] X.env = [(false, eval a X.env)] := by rfl) : PI X tg (.Call (.Name "range" p) [a] [] pos) (tI c (iRng1 fr)) := by
  refine PI.w ((pi_range1 hg hm h hs)) fun σ H R h => ?_
  obtain ⟨μ, env, S, it, S', he, hs, hf, ha⟩ := h
  obtain ⟨ds, S1, h1, hf⟩ := th_inv hf
  refine ⟨μ, env, S, ds, S1, he, hs, h1, fun μ1 H1 vs e1 k1 r1 => ?_⟩
  split at hf
  · rename_i j
    split at hf
    · rename_i hz
      cases hf
      rw [Bool.and_eq_true] at hz
      obtain ⟨z1, z2⟩ := hz
      have z1 := of_decide_eq_true z1
      have z2 := of_decide_eq_true z2
      obtain ⟨v, rfl, rv⟩ := r1.one_inv
      obtain rfl := (show v = .int j from rv)
      exact ⟨j, rfl, by omega, by omega, ha _ _ _ e1 k1 (rng_ok 0 _)⟩
    · cases hf
  · cases hf
theorem q_irng2 {a b : Expr} {p pos : Pos} (hg : Gl X "range") (hm : X.mg "range" = none) (h : PA X [a, b] (tA c fr)) (hs : starEach [a, b] X.env = [(false, eval a X.env), (false, eval b X.env)] := by rfl) (hs2 : starEach [b] X.env = [(false, eval b X.env)] := by rfl) : PI X tg (.Call (.Name "range" p) [a, b] [] pos) (tI c (iRng2 fr)) := by
  refine PI.w ((pi_range2 hg hm h hs hs2)) fun σ H R h => ?_
  obtain ⟨μ, env, S, it, S', he, hs, hf, ha⟩ := h
  obtain ⟨ds, S1, h1, hf⟩ := th_inv hf
  refine ⟨μ, env, S, ds, S1, he, hs, h1, fun μ1 H1 vs e1 k1 r1 => ?_⟩
  split at hf
  · rename_i i j
    split at hf
    · rename_i hz
      cases hf
      rw [Bool.and_eq_true, Bool.and_eq_true, Bool.and_eq_true] at hz
      obtain ⟨⟨⟨z1, z2⟩, z3⟩, z4⟩ := hz
      have z1 := of_decide_eq_true z1
      have z2 := of_decide_eq_true z2
      have z3 := of_decide_eq_true z3
      have z4 := of_decide_eq_true z4
      obtain ⟨v, w, rfl, rv, rw1⟩ := r1.two_inv
      obtain rfl := (show v = .int i from rv)
      obtain rfl := (show w = .int j from rw1)
      exact ⟨i, j, rfl, ⟨by omega, by omega, by omega, by omega⟩, ha _ _ _ e1 k1 (rng_ok i _)⟩
    · cases hf
  · cases hf
theorem itok_items {μ : List Addr} {S : Sto} {H : Hp} {n k : Nat} {a : Addr} {o : Obj} {ys : List (Key × V)} (ha1 : μ[n]? = some a) (q : H a = some (.frz o (.dK ys))) : ItOk c μ H (.items n k) (Iti a o ys) := by
  intro μ2 H2 S2 e2 k2 i
  have q2 := e2.frz _ _ _ q
  have ha2 := e2.pre _ _ ha1
  refine ⟨fun g => ?_, fun d g => ?_⟩
  · unfold ItD.items at g
    simp only at g
    split at g
    · rename_i kvs2 g4
      have r2 := lck_at k2 g4 ha2 q2
      refine ⟨q2, (kv_get (i := i) r2).1 ?_⟩
      have g' := Option.some.inj g
      cases hx : kvs2[i]? with
      | none => rfl
      | some p => rw [hx] at g'; cases g'
    · cases g
  · unfold ItD.items at g
    simp only at g
    split at g
    · rename_i kvs2 g4
      have r2 := lck_at k2 g4 ha2 q2
      obtain ⟨p, g5, g6⟩ := Option.map_eq_some_iff.mp (Option.some.inj g)
      obtain ⟨v, g7, rv⟩ := (kv_get (i := i) r2).2 p.1 p.2 g5
      refine ⟨⟨q2, (List.getElem?_eq_some_iff.mp g7).1⟩, fun x H' y => ?_⟩
      obtain ⟨T, k', v', g8, rfl, hT, rfl⟩ := y
      rw [g7] at g8
      cases g8
      subst g6
      obtain ⟨x1, x2, x3⟩ := pr_new (ds := [dKey p.1, p.2]) (vs := [kV p.1, v]) k2 ⟨_, _, rfl, dKey_rep _, _, _, rfl, rv, rfl⟩ hT
      exact ⟨μ2, x1, x2, x3⟩
    · cases g
theorem itok_vals {μ : List Addr} {S : Sto} {H : Hp} {n k : Nat} {a : Addr} {o : Obj} {ys : List (Key × V)} (ha1 : μ[n]? = some a) (q : H a = some (.frz o (.dK ys))) : ItOk c μ H (.vals n k) (Itd a o ys) := by
  intro μ2 H2 S2 e2 k2 i
  have q2 := e2.frz _ _ _ q
  have ha2 := e2.pre _ _ ha1
  refine ⟨fun g => ?_, fun d g => ?_⟩
  · unfold ItD.vals at g
    simp only at g
    split at g
    · rename_i kvs2 g4
      have r2 := lck_at k2 g4 ha2 q2
      refine ⟨q2, (kv_get (i := i) r2).1 ?_⟩
      have g' := Option.some.inj g
      cases hx : kvs2[i]? with
      | none => rfl
      | some p => rw [hx] at g'; cases g'
    · cases g
  · unfold ItD.vals at g
    simp only at g
    split at g
    · rename_i kvs2 g4
      have r2 := lck_at k2 g4 ha2 q2
      obtain ⟨p, g5, g6⟩ := Option.map_eq_some_iff.mp (Option.some.inj g)
      obtain ⟨v, g7, rv⟩ := (kv_get (i := i) r2).2 p.1 p.2 g5
      refine ⟨⟨q2, (List.getElem?_eq_some_iff.mp g7).1⟩, fun x H' y => ?_⟩
      obtain ⟨rfl, k', g8⟩ := y
      rw [g7] at g8
      cases g8
      subst g6
      exact ⟨μ2, Ext.refl, k2, rv⟩
    · cases g
theorem q_iitems {elts : List Expr} {kk : Nat} {tpos apos cpos : Pos} (h : PI X (.Tuple elts kk tpos) (.Call (.Attribute e "items" apos) [] [] cpos) (L2.iItems (tE c fe))) : PI X (.Tuple elts kk tpos) (.Call (.Attribute e "items" apos) [] [] cpos) (tI c (iItems fe)) := by
  refine PI.w h fun σ H R h => ?_
  obtain ⟨μ, env, S, it, S', he, hs, hf, ha⟩ := h
  obtain ⟨d, S1, h1, hf⟩ := th_inv hf
  refine ⟨μ, env, S, d, S1, he, hs, h1, fun μ1 H1 v e1 k1 r1 => ?_⟩
  cases d with
  | ref n =>
    simp only at hf
    split at hf
    · rename_i kvs g1
      cases hf
      obtain ⟨a, ha1, rfl⟩ := r1
      obtain ⟨a', g3, o, ys, q, r⟩ := k1.stands _ _ g1
      rw [ha1] at g3
      cases g3
      exact ⟨a, o, ys, rfl, q, ha _ _ _ e1 k1 (itok_items (S := S') ha1 q)⟩
    · cases hf
  | _ => cases hf
theorem q_ivals {apos cpos : Pos} (h : PI X tg (.Call (.Attribute e "values" apos) [] [] cpos) (L2.iVals (tE c fe))) : PI X tg (.Call (.Attribute e "values" apos) [] [] cpos) (tI c (iVals fe)) := by
  refine PI.w h fun σ H R h => ?_
  obtain ⟨μ, env, S, it, S', he, hs, hf, ha⟩ := h
  obtain ⟨d, S1, h1, hf⟩ := th_inv hf
  refine ⟨μ, env, S, d, S1, he, hs, h1, fun μ1 H1 v e1 k1 r1 => ?_⟩
  cases d with
  | ref n =>
    simp only at hf
    split at hf
    · rename_i kvs g1
      cases hf
      obtain ⟨a, ha1, rfl⟩ := r1
      obtain ⟨a', g3, o, ys, q, r⟩ := k1.stands _ _ g1
      rw [ha1] at g3
      cases g3
      exact ⟨a, o, ys, rfl, q, ha _ _ _ e1 k1 (itok_vals (S := S') ha1 q)⟩
    · cases hf
  | _ => cases hf
theorem q_ienum (hK : c.K = X.K) {elts : List Expr} {kk : Nat} {tpos p pos : Pos} (h : PI X (.Tuple elts kk tpos) (.Call (.Name "enumerate" p) [e] [] pos) (L2.iEnum X.K (tA c fr))) : PI X (.Tuple elts kk tpos) (.Call (.Name "enumerate" p) [e] [] pos) (tI c (iEnum fr)) := by
  refine PI.w h fun σ H R h => ?_
  obtain ⟨μ, env, S, it, S', he, hs, hf, ha⟩ := h
  obtain ⟨ds, S1, h1, hf⟩ := th_inv hf
  refine ⟨μ, env, S, ds, S1, he, hs, h1, fun μ1 H1 vs e1 k1 r1 => ?_⟩
  split at hf
  · rename_i n
    obtain ⟨us, g1, g2⟩ := Option.map_eq_some_iff.mp hf
    cases g2
    obtain ⟨v, rfl, a, ha1, rfl⟩ := r1.one_inv
    obtain ⟨a', xs, g3, q, r⟩ := getL_sq k1 g1
    rw [ha1] at g3
    cases g3
    refine ⟨a, xs, rfl, by rw [← hK]; exact q, ha _ _ _ e1 k1 ?_⟩
    intro μ2 H2 S2 e2 k2 i
    have ha2 := e2.pre _ _ ha1
    refine ⟨fun g => ?_, fun d g => ?_⟩
    · obtain ⟨ds, g4, g5⟩ := Option.map_eq_some_iff.mp g
      obtain ⟨a', ys, g6, q2, r2⟩ := getL_sq k2 g4
      rw [ha2] at g6
      cases g6
      refine ⟨ys, by rw [← hK]; exact q2, ?_⟩
      rw [r2.len]
      cases hx : ds[i]? with
      | none => exact List.getElem?_eq_none_iff.mp hx
      | some p => rw [hx] at g5; cases g5
    · obtain ⟨ds, g4, g5⟩ := Option.map_eq_some_iff.mp g
      obtain ⟨a', ys, g6, q2, r2⟩ := getL_sq k2 g4
      rw [ha2] at g6
      cases g6
      obtain ⟨d', g7, g8⟩ := Option.map_eq_some_iff.mp g5
      obtain ⟨v, g9, rv⟩ := r2.get g7
      refine ⟨⟨ys, v, by rw [← hK]; exact q2, g9⟩, fun x H' y => ?_⟩
      obtain ⟨T, x', rfl, hT, rfl, fv⟩ := y
      have ex : x' = v := Option.some.inj ((fv ys (by rw [← hK]; exact q2)).symm.trans g9)
      subst ex
      subst g8
      obtain ⟨x1, x2, x3⟩ := pr_new (ds := [.int i, d']) (vs := [.int i, x']) k2 ⟨_, _, rfl, rfl, _, _, rfl, rv, rfl⟩ hT
      exact ⟨μ2, x1, x2, x3⟩
  · cases hf
theorem q_izip (hK : c.K = X.K) {e2 : Expr} {elts : List Expr} {kk : Nat} {tpos p pos : Pos} (h : PI X (.Tuple elts kk tpos) (.Call (.Name "zip" p) [e, e2] [] pos) (RZ.iZipA X.K (tA c fr))) : PI X (.Tuple elts kk tpos) (.Call (.Name "zip" p) [e, e2] [] pos) (tI c (iZip fr)) := by
  refine PI.w h fun σ H R h => ?_
  obtain ⟨μ, env, S, it, S', he, hs, hf, ha⟩ := h
  obtain ⟨ds, S1, h1, hf⟩ := th_inv hf
  refine ⟨μ, env, S, ds, S1, he, hs, h1, fun μ1 H1 vs e1 k1 r1 => ?_⟩
  split at hf
  · rename_i n m
    split at hf
    · rename_i us ws g1 g2
      cases hf
      obtain ⟨v, w, rfl, ⟨a, ha1, rfl⟩, b, hb1, rfl⟩ := r1.two_inv
      obtain ⟨a', xs, g3, q, r⟩ := getL_sq k1 g1
      rw [ha1] at g3
      cases g3
      obtain ⟨b', ys, g4, q', r'⟩ := getL_sq k1 g2
      rw [hb1] at g4
      cases g4
      refine ⟨a, b, xs, ys, rfl, .inl ⟨by rw [← hK]; exact q, by rw [← hK]; exact q', ha _ _ _ e1 k1 ?_⟩⟩
      intro μ2 H2 S2 e2 k2 i
      have ha2 := e2.pre _ _ ha1
      have hb2 := e2.pre _ _ hb1
      refine ⟨fun g => ?_, fun d g => ?_⟩
      · unfold ItD.zip at g
        simp only at g
        split at g
        · rename_i ds es g5 g6
          obtain ⟨a', xs2, g7, q2, r2⟩ := getL_sq k2 g5
          rw [ha2] at g7
          cases g7
          obtain ⟨b', ys2, g8, q3, r3⟩ := getL_sq k2 g6
          rw [hb2] at g8
          cases g8
          refine ⟨xs2, ys2, by rw [← hK]; exact q2, by rw [← hK]; exact q3, ?_⟩
          rw [r2.len, r3.len]
          split at g
          · cases g
          · rename_i nn
            by_cases hx : i < ds.length
            · by_cases hy : i < es.length
              · exact absurd (List.getElem?_eq_getElem hy) (nn _ _ (List.getElem?_eq_getElem hx))
              · exact .inr (by omega)
            · exact .inl (by omega)
        · cases g
      · unfold ItD.zip at g
        simp only at g
        split at g
        · rename_i ds es g5 g6
          obtain ⟨a', xs2, g7, q2, r2⟩ := getL_sq k2 g5
          rw [ha2] at g7
          cases g7
          obtain ⟨b', ys2, g8, q3, r3⟩ := getL_sq k2 g6
          rw [hb2] at g8
          cases g8
          split at g
          · rename_i d1 d2 g9 g10
            cases g
            obtain ⟨v1, g11, rv1⟩ := r2.get g9
            obtain ⟨v2, g12, rv2⟩ := r3.get g10
            refine ⟨⟨xs2, ys2, v1, v2, by rw [← hK]; exact q2, by rw [← hK]; exact q3, g11, g12⟩, fun x H' y => ?_⟩
            obtain ⟨T, x', y', rfl, hT, rfl, fv, fw⟩ := y
            have ex : x' = v1 := Option.some.inj ((fv xs2 (by rw [← hK]; exact q2)).symm.trans g11)
            have ey : y' = v2 := Option.some.inj ((fw ys2 (by rw [← hK]; exact q3)).symm.trans g12)
            subst ex
            subst ey
            obtain ⟨x1, x2, x3⟩ := pr_new (ds := [d1, d2]) (vs := [x', y']) k2 ⟨_, _, rfl, rv1, _, _, rfl, rv2, rfl⟩ hT
            exact ⟨μ2, x1, x2, x3⟩
          · cases g
        · cases g
    · cases hf
  · rename_i us ws
    cases hf
    obtain ⟨v, w, rfl, ⟨a, xs, rfl, q, r⟩, b, ys, rfl, q', r'⟩ := r1.two_inv
    refine ⟨a, b, xs, ys, rfl, .inr ⟨by rw [← hK]; exact q.sq, by rw [← hK]; exact q'.sq, ha _ _ _ e1 k1 ?_⟩⟩
    intro μ2 H2 S2 e2 k2 i
    have q2 := e2.tup _ _ q.sq
    have q3 := e2.tup _ _ q'.sq
    have r2 := Reps.mono e2 _ _ r
    have r3 := Reps.mono e2 _ _ r'
    refine ⟨fun g => ?_, fun d g => ?_⟩
    · refine ⟨xs, ys, by rw [← hK]; exact q2, by rw [← hK]; exact q3, ?_⟩
      have := List.getElem?_eq_none_iff.mp (Option.some.inj g)
      rw [List.length_map, List.length_zip] at this
      rw [r2.len, r3.len]
      omega
    · have g' := Option.some.inj g
      rw [List.getElem?_map] at g'
      obtain ⟨pr, g4, g5⟩ := Option.map_eq_some_iff.mp g'
      obtain ⟨g6, g7⟩ := List.getElem?_zip_eq_some.mp g4
      obtain ⟨v1, g11, rv1⟩ := r2.get g6
      obtain ⟨v2, g12, rv2⟩ := r3.get g7
      refine ⟨⟨xs, ys, v1, v2, by rw [← hK]; exact q2, by rw [← hK]; exact q3, g11, g12⟩, fun x H' y => ?_⟩
      obtain ⟨T, x', y', rfl, hT, rfl, fv, fw⟩ := y
      have ex : x' = v1 := Option.some.inj ((fv xs (by rw [← hK]; exact q2)).symm.trans g11)
      have ey : y' = v2 := Option.some.inj ((fw ys (by rw [← hK]; exact q3)).symm.trans g12)
      subst ex
      subst ey
      subst g5
      obtain ⟨x1, x2, x3⟩ := pr_new (ds := [pr.1, pr.2]) (vs := [x', y']) k2 ⟨_, _, rfl, rv1, _, _, rfl, rv2, rfl⟩ hT
      exact ⟨μ2, x1, x2, x3⟩
  · cases hf
end
end FL
/-! FL9: for loops, locks, comprehensions, defs. -/
namespace FL
open PySem PySem.Spec PyProof.Rows L2

/-! ### for -/
def forI (it : ItD) (g : FG) (b : FS) : Nat → Nat → FS
  | 0, _ => fun _ _ => none
  | m + 1, i => fun env S => match it.it S i with
    | some (some d) => th (g d env S) fun env1 S1 => th (b env1 S1) fun o S2 => match o with
      | .nx e => forI it g b m (i + 1) e S2
      | .ct e => forI it g b m (i + 1) e S2
      | .bk e => some (.nx e, S2)
      | .rt d => some (.rt d, S2)
    | some none => some (.nx env, S)
    | none => none
def sFor (fi : FI) (g : FG) (b : FS) : FS := fun env S => th (fi env S) fun it S1 => forI it g b (it.len + 1) 0 env S1
section
variable {c : FC} {X : Cx}
theorem q_for {tg iter : Expr} {body : List Stmt} {fi : FI} {g : FG} {fb : FS} {pos : Pos} (hp : PassesOwn (model X.prog X.w) X.A X.env X.xe) (hc : X.calm = true) (hi : PI X tg iter (tI c fi)) (hg : PG X tg (tG c none g)) (hb : PSs X body (tS c fb))
    (hs : ∀ x, foldedSetIterable iter X.env x = pure x := by intro _; rfl) : PS X (.For tg iter body [] pos) (tS c (sFor fi g fb)) := by
  refine PS.w (ps_for hp hc hi hg hb hs) fun Dn σ H h => ?_
  obtain ⟨μ, env, S, o, S', he, hs, hf0, ha⟩ := h
  obtain ⟨it, S1, h1, hf⟩ := th_inv hf0
  clear hf0
  refine ⟨μ, env, S, it, S1, he, hs, h1, fun μ1 H1 J e1 k1 ok => ?_⟩
  refine ⟨fun i m σ2 H2 => ∃ μ2 env2 S2, Ext c μ1 H1 μ2 H2 ∧ EnvOk c μ2 H2 env2 σ2 ∧ StoOk c μ2 S2 H2 ∧ forI it g fb m i env2 S2 = some (o, S'), ⟨it.len + 1, μ1, env, S1, Ext.refl, he.mono e1, k1, hf⟩, ?_⟩
  rintro i m σ2 H2 ⟨μ2, env2, S2, e2, r2, k2, hw⟩
  have ha2 := (ha.ext e1).ext e2
  cases m with
  | zero => cases hw
  | succ m =>
    unfold forI at hw
    split at hw
    · rename_i d g1
      obtain ⟨go, yl⟩ := (ok μ2 H2 S2 e2 k2 i).2 d g1
      obtain ⟨env3, S3, h3, hw⟩ := th_inv hw
      obtain ⟨o4, S4, h4, hw⟩ := th_inv hw
      refine .inr ⟨go, fun σ' H' => ∃ μ2 env2 S2, Ext c μ1 H1 μ2 H' ∧ EnvOk c μ2 H' env2 σ' ∧ StoOk c μ2 S2 H' ∧ forI it g fb m (i + 1) env2 S2 = some (o, S'), fun σ' H' q => ⟨m, Nat.lt_succ_self m, q⟩, fun x H' y => ?_⟩
      obtain ⟨μ', x1, x2, x3⟩ := yl x H' y
      refine ⟨μ', env2, S2, d, env3, S3, r2.mono x1, x2, x3, h3, fun μ3 H3 σ3 e3 k3 r3 _ => ?_⟩
      refine ⟨μ3, env3, S3, o4, S4, r3, k3, h4, fun μ4 H4 e4 k4 => ?_⟩
      have e24 := (x1.trans e3).trans e4
      cases o4 with
      | nx e => exact fun σ4 r4 => ⟨μ4, e, S4, e2.trans e24, r4, k4, hw⟩
      | ct e => exact fun σ4 r4 => ⟨μ4, e, S4, e2.trans e24, r4, k4, hw⟩
      | bk e =>
        cases hw
        exact fun σ4 r4 => ha2 μ4 H4 e24 k4 σ4 r4
      | rt d =>
        cases hw
        exact fun v r4 => ha2 μ4 H4 e24 k4 v r4
    · rename_i g1
      cases hw
      exact .inl ⟨(ok μ2 H2 _ e2 k2 i).1 g1, ha2.nx k2 r2⟩
    · cases hw

/-! ### a dict is locked while it is walked -/
def lkS (fd : FE) (s : FS) : FS := fun env S => match fd env S with
  | some (.ref n, _) => match S[n]? with
    | some (.dic kvs) => th (s env (S.set n (.lck kvs))) fun o S2 => match S2[n]? with
      | some (.lck kvs') => some (o, S2.set n (.dic kvs'))
      | _ => none
    | _ => none
  | _ => none
def lkE (fd : FE) (e : FE) : FE := fun env S => match fd env S with
  | some (.ref n, _) => match S[n]? with
    | some (.dic kvs) => th (e env (S.set n (.lck kvs))) fun d S2 => match S2[n]? with
      | some (.lck kvs') => some (d, S2.set n (.dic kvs'))
      | _ => none
    | _ => none
  | _ => none
theorem lock_on {μ : List Addr} {S : Sto} {H : Hp} {n : Nat} {a : Addr} {kvs : List (Key × D)} {ys : List (Key × V)} {od : Obj} (hs : StoOk c μ S H) (e : S[n]? = some (.dic kvs)) (ha : μ[n]? = some a) (q : H a = some (.dK ys)) (r : RepKV c μ H kvs ys) :
    Ext c μ H μ (upd H a (.frz od (.dK ys))) ∧ StoOk c μ (S.set n (.lck kvs)) (upd H a (.frz od (.dK ys))) := by
  have x : Ext c μ H μ (upd H a (.frz od (.dK ys))) := Ext.upd (.inr ⟨_, q, trivial⟩)
  exact ⟨x, hs.write e rfl ha x ⟨od, ys, upd_same, r.mono x⟩⟩
theorem lock_off {μ : List Addr} {S : Sto} {H0 H : Hp} {n : Nat} {a : Addr} {kvs : List (Key × D)} {ys : List (Key × V)} {od : Obj} {μ0 : List Addr} (q0 : H0 a = some (.dK ys)) (e0 : Ext c μ0 (upd H0 a (.frz od (.dK ys))) μ H) (hs : StoOk c μ S H) (e : S[n]? = some (.lck kvs)) (ha : μ[n]? = some a) (q : H a = some (.frz od (.dK ys))) :
    Ext c μ0 H0 μ (upd H a (.dK ys)) ∧ StoOk c μ (S.set n (.dic kvs)) (upd H a (.dK ys)) ∧ (∀ d v, Rep c μ H d v → Rep c μ (upd H a (.dK ys)) d v) := by
  have xt : ∀ (b : Addr) (xs : List V), SqT c.K H b xs → SqT c.K (upd H a (.dK ys)) b xs := fun b xs h => by
    rcases h with h | h
    · have ne : ∀ w, H b = some w → w ≠ .frz od (.dK ys) → b ≠ a := fun w e nw z => by
        rw [z, q] at e
        cases e
        exact nw rfl
      rcases h with h | ⟨o, h⟩
      · exact .inl (.inl (by rw [upd_ne (ne _ h (fun z => nomatch z))]; exact h))
      · exact .inl (.inr ⟨o, by rw [upd_ne (ne _ h (fun z => by cases z))]; exact h⟩)
    · exact .inr h
  have xp : ∀ (b : Addr) (xs : List V), TupP c.K H b xs → TupP c.K (upd H a (.dK ys)) b xs := fun b xs h => by
    rcases h with ⟨o, h, hd⟩ | h
    · have nb : b ≠ a := fun z => by
        rw [z, q] at h
        cases h
      exact .inl ⟨o, by rw [upd_ne nb]; exact h, hd⟩
    · exact .inr h
  have rp : ∀ (d : D) (v : V), Rep c μ H d v → Rep c μ (upd H a (.dK ys)) d v := by
    intro d v h
    exact (lock_rep ⟨xt, xp⟩ d v h)
  refine ⟨⟨e0.pre, fun b xs h => xt b xs (e0.tup b xs (sqT_upd (.inr ⟨_, q0, trivial⟩) h)), fun b o u h => ?_⟩, ?_, rp⟩
  · have nb : b ≠ a := fun z => by
      rw [z, q0] at h
      cases h
    rw [upd_ne nb]
    exact e0.frz b o u (by rw [upd_ne nb]; exact h)
  · refine ⟨by rw [List.length_set]; exact hs.len, fun m o' g => ?_, fun m k b o1 o2 g1 g2 w1 w2 a1 a2 => ?_⟩
    · by_cases hk : n = m
      · subst hk
        rw [List.getElem?_set_self (List.getElem?_eq_some_iff.mp e).1] at g
        cases g
        obtain ⟨a', g1, o, ys', q', r⟩ := hs.stands _ _ e
        rw [ha] at g1
        cases g1
        rw [q] at q'
        cases q'
        exact ⟨a, ha, ys, upd_same, r.1, lock_reps ⟨xt, xp⟩ _ _ r.2⟩
      · rw [List.getElem?_set_ne hk] at g
        obtain ⟨b, g1, r⟩ := hs.stands m o' g
        refine ⟨b, g1, ?_⟩
        cases hw : own o' with
        | true =>
          have nb : b ≠ a := fun z => by
            subst z
            exact hk (hs.inj n m b _ o' e g rfl hw ha g1)
          cases o' with
          | lst ds =>
            obtain ⟨xs, h, r⟩ := r
            exact ⟨xs, by rw [upd_ne nb]; exact h, lock_reps ⟨xt, xp⟩ _ _ r⟩
          | dic ds =>
            obtain ⟨xs, h, r⟩ := r
            exact ⟨xs, by rw [upd_ne nb]; exact h, r.1, lock_reps ⟨xt, xp⟩ _ _ r.2⟩
          | lck ds =>
            obtain ⟨o, xs, h, r⟩ := r
            exact ⟨o, xs, by rw [upd_ne nb]; exact h, r.1, lock_reps ⟨xt, xp⟩ _ _ r.2⟩
          | ins k fs =>
            obtain ⟨dx, xs, h, r⟩ := r
            exact ⟨dx, xs, by rw [upd_ne nb]; exact h, r.1, lock_reps ⟨xt, xp⟩ _ _ r.2⟩
          | ro _ => cases hw
          | gone => cases hw
        | false =>
          cases o' with
          | ro ds =>
            obtain ⟨xs, h, r⟩ := r
            refine ⟨xs, h.imp (fun ⟨o, h⟩ => ⟨o, ?_⟩) id, lock_reps ⟨xt, xp⟩ _ _ r⟩
            rw [upd_ne (fun z => by rw [z, q] at h; cases h)]
            exact h
          | gone => trivial
          | lst _ => cases hw
          | dic _ => cases hw
          | lck _ => cases hw
          | ins _ _ => cases hw
    · have back : ∀ (m : Nat) (o' : O), (S.set n (.dic kvs))[m]? = some o' → own o' = true → ∃ o'', S[m]? = some o'' ∧ own o'' = true := fun m o' g w => by
        by_cases hk : n = m
        · subst hk
          exact ⟨_, e, rfl⟩
        · rw [List.getElem?_set_ne hk] at g
          exact ⟨o', g, w⟩
      obtain ⟨p1, q1, v1⟩ := back m o1 g1 w1
      obtain ⟨p2, q2, v2⟩ := back k o2 g2 w2
      exact hs.inj m k b p1 p2 q1 q2 v1 v2 a1 a2
where
  lock_rep {μ : List Addr} {H H' : Hp} (xt : (∀ (b : Addr) (xs : List V), SqT c.K H b xs → SqT c.K H' b xs) ∧ ∀ (b : Addr) (xs : List V), TupP c.K H b xs → TupP c.K H' b xs) (d : D) (v : V) (h : Rep c μ H d v) : Rep c μ H' d v := by
    have key : ∀ n : Nat, (∀ (d : D) (v : V), sizeOf d < n → Rep c μ H d v → Rep c μ H' d v) ∧ ∀ (ds : List D) (xs : List V), sizeOf ds < n → Reps c μ H ds xs → Reps c μ H' ds xs := by
      intro n
      induction n with
      | zero => exact ⟨fun _ _ z => absurd z (Nat.not_lt_zero _), fun _ _ z => absurd z (Nat.not_lt_zero _)⟩
      | succ n ih =>
        refine ⟨fun d v z h => ?_, fun ds xs z h => ?_⟩
        · cases d with
          | tup ds =>
            obtain ⟨a, xs, rfl, q, r⟩ := h
            exact ⟨a, xs, rfl, xt.2 _ _ q, ih.2 ds xs (by simp at z; omega) r⟩
          | pr ds =>
            obtain ⟨a, xs, rfl, q, r⟩ := h
            exact ⟨a, xs, rfl, xt.1 _ _ q, ih.2 ds xs (by simp at z; omega) r⟩
          | non => exact h
          | bl _ => exact h
          | int _ => exact h
          | str _ => exact h
          | ref _ => exact h
        · cases ds with
          | nil => exact h
          | cons d ds =>
            obtain ⟨v, vs, rfl, r1, r2⟩ := h
            exact ⟨v, vs, rfl, ih.1 d v (by simp at z; omega) r1, ih.2 ds vs (by simp at z; omega) r2⟩
    exact (key (sizeOf d + 1)).1 d v (Nat.lt_succ_self _) h
  lock_reps {μ : List Addr} {H H' : Hp} (xt : (∀ (b : Addr) (xs : List V), SqT c.K H b xs → SqT c.K H' b xs) ∧ ∀ (b : Addr) (xs : List V), TupP c.K H b xs → TupP c.K H' b xs) (ds : List D) (xs : List V) (h : Reps c μ H ds xs) : Reps c μ H' ds xs := by
    induction ds generalizing xs with
    | nil => exact h
    | cons d ds ih =>
      obtain ⟨v, vs, rfl, r1, r2⟩ := h
      exact ⟨v, vs, rfl, lock_rep xt d v r1, ih vs r2⟩
theorem env_off {μ : List Addr} {H H' : Hp} {env : Env} {σ : L2.St} (rp : ∀ d v, Rep c μ H d v → Rep c μ H' d v) (h : EnvOk c μ H env σ) : EnvOk c μ H' env σ := ⟨h.1, fun i d q => let ⟨v, h1, h2⟩ := h.2 i d q; ⟨v, h1, rp d v h2⟩⟩
theorem q_lkS {st : Stmt} {i : Nat} {f : FS} (h : PS X st (tS c f)) : PS X st (tS c (lkS (eVar i) f)) := by
  refine PS.w (ps_lock h) fun Dn σ H h => ?_
  obtain ⟨μ, env, S, o, S', he, hs, hf, ha⟩ := h
  unfold lkS at hf
  split at hf
  · rename_i n S0 g0
    split at hf
    · rename_i kvs g1
      obtain ⟨o2, S2, h2, hf⟩ := th_inv hf
      obtain ⟨a, ha1, ys, q, r⟩ := hs.stands _ _ g1
      refine ⟨a, .dK ys, q, trivial, fun od => ?_⟩
      obtain ⟨x1, x2⟩ := lock_on (od := od) hs g1 ha1 q r
      refine ⟨μ, env, _, o2, S2, he.mono x1, x2, h2, fun μ2 H2 e2 k2 => ?_⟩
      have q2 := e2.frz _ _ _ (show (upd H a (.frz od (.dK ys))) a = some (.frz od (.dK ys)) from upd_same)
      split at hf
      · rename_i kvs' g2
        cases hf
        have ha2 := e2.pre _ _ ha1
        obtain ⟨y1, y2, y3⟩ := lock_off q e2 k2 g2 ha2 q2
        cases o with
        | nx e => exact fun σ2 r2 => ⟨q2, ha μ2 _ y1 y2 σ2 (env_off y3 r2)⟩
        | bk e => exact fun σ2 r2 => ⟨q2, ha μ2 _ y1 y2 σ2 (env_off y3 r2)⟩
        | ct e => exact fun σ2 r2 => ⟨q2, ha μ2 _ y1 y2 σ2 (env_off y3 r2)⟩
        | rt d => exact fun v r2 => ⟨q2, ha μ2 _ y1 y2 v (y3 d v r2)⟩
      · cases hf
    · cases hf
  · cases hf
theorem q_lkE {e : Expr} {fd f : FE} (h : PE X e (tE c f)) : PE X e (tE c (lkE fd f)) := by
  refine PE.w (pe_lock h) fun σ H Q h => ?_
  obtain ⟨μ, env, S, d, S', he, hs, hf, ha⟩ := h
  unfold lkE at hf
  split at hf
  · rename_i n S0 g0
    split at hf
    · rename_i kvs g1
      obtain ⟨o2, S2, h2, hf⟩ := th_inv hf
      obtain ⟨a, ha1, ys, q, r⟩ := hs.stands _ _ g1
      refine ⟨a, .dK ys, q, trivial, fun od => ?_⟩
      obtain ⟨x1, x2⟩ := lock_on (od := od) hs g1 ha1 q r
      refine ⟨μ, env, _, o2, S2, he.mono x1, x2, h2, fun μ2 H2 v e2 k2 r2 => ?_⟩
      have q2 := e2.frz _ _ _ (show (upd H a (.frz od (.dK ys))) a = some (.frz od (.dK ys)) from upd_same)
      split at hf
      · rename_i kvs' g2
        cases hf
        have ha2 := e2.pre _ _ ha1
        obtain ⟨y1, y2, y3⟩ := lock_off q e2 k2 g2 ha2 q2
        exact ⟨q2, ha μ2 _ _ y1 y2 (y3 d v r2)⟩
      · cases hf
    · cases hf
  · cases hf
end

/-! ### comprehensions -/
def wipeE (env : Env) : List Nat → Env
  | [] => env
  | v :: vs => (wipeE env vs).set v none
theorem EnvOk.none {c : FC} {μ : List Addr} {H : Hp} {env : Env} {σ : L2.St} (i : Nat) (h : EnvOk c μ H env σ) : EnvOk c μ H (env.set i Option.none) (σ.set i Option.none) := by
  refine ⟨by rw [List.length_set, List.length_set, h.1], fun j e q => ?_⟩
  by_cases hj : i = j
  · subst hj
    by_cases hl : i < env.length
    · rw [List.getElem?_set_self hl] at q
      cases q
    · rw [List.getElem?_eq_none (by rw [List.length_set]; omega)] at q
      cases q
  · rw [List.getElem?_set_ne hj] at q ⊢
    exact h.2 j e q
theorem EnvOk.wipe {c : FC} {μ : List Addr} {H : Hp} {env : Env} {σ : L2.St} (h : EnvOk c μ H env σ) : ∀ vs : List Nat, EnvOk c μ H (wipeE env vs) (L2.wipe σ vs)
  | [] => h
  | v :: vs => (EnvOk.wipe h vs).none v
/-- one clause; n: the place of the new list -/
def lcI (it : ItD) (g : FG) (tt : FT) (te : FE) (n : Nat) (env : Env) : Nat → Nat → Sto → Option Sto
  | 0, _ => fun _ => none
  | m + 1, i => fun S => match it.it S i with
    | some (some d) => th (g d env S) fun env1 S1 => th (tt env1 S1) fun k S2 => if k = true then th (te env1 S2) fun y S3 => match S3[n]? with
        | some (.lst acc) => if acc.length < cap then lcI it g tt te n env m (i + 1) (S3.set n (.lst (acc ++ [y]))) else none
        | _ => none
      else lcI it g tt te n env m (i + 1) S2
    | some none => some S
    | none => none
def eLc (fi : FI) (g : FG) (tt : FT) (te : FE) (vs : List Nat) : FE := fun env S => th (fi env S) fun it S1 => (lcI it g tt te S1.length (wipeE env vs) (it.len + 1) 0 (S1 ++ [.lst []])).map fun S2 => (.ref S1.length, S2)
def tYs : FT := fun _ S => some (true, S)
def tTs (c : FC) (ft : FT) : TT := tT c ft
section
variable {c : FC} {X : Cx}
theorem PTs.w {ifs : List Expr} {t t' : TT} (h : PTs X ifs t) (w : ∀ σ H Q, t' σ H Q → t σ H Q) : PTs X ifs t' := ⟨fun pins s σ H Q I q => h.run pins s σ H Q I (w σ H Q q)⟩
theorem q_tsn : PTs X [] (tT c tYs) := by
  refine PTs.w pts_nil fun σ H Q h => ?_
  obtain ⟨μ, env, S, b, S', he, hs, hf, ha⟩ := h
  cases hf
  exact ha μ H Ext.refl hs
theorem q_ts1 {e : Expr} {ft : FT} (h : PT X e (tT c ft)) : PTs X [e] (tT c ft) := pts_one h
theorem q_lc {elt tg iter : Expr} {ifs : List Expr} {scope : Scope} (own : List (Str × Nat)) {pos : Pos} {fi : FI} {g : FG} {tt : FT} {te : FE} (hc : X.calm = true) (hN : X.N.Nodup) (hi : PI X tg iter (tI c fi)) (ok : BlkOk X.N X.env.scope scope own)
    (hg : ∀ (s : Shared) (H : Hp) (C : Addr) (cl : List (Str × Addr)) (fp : List Addr), PG (X.blk s H scope (compEnvC scope cl C X.env) fp) tg (tG c (some (own.map (·.2))) g)) (ht : ∀ (s : Shared) (H : Hp) (C : Addr) (cl : List (Str × Addr)) (fp : List Addr), PTs (X.blk s H scope (compEnvC scope cl C X.env) fp) ifs (tT c tt))
    (he : ∀ (s : Shared) (H : Hp) (C : Addr) (cl : List (Str × Addr)) (fp : List Addr), PE (X.blk s H scope (compEnvC scope cl C X.env) fp) elt (tE c te)) (hs : ∀ x, foldedSetIterable iter X.env x = pure x := by intro _; rfl) :
    PE X (.ListComp elt [⟨tg, iter, ifs, 0⟩] scope pos) (tE c (eLc fi g tt te (own.map (·.2)))) := by
  refine PE.w (pe_lc hc hN hi ok hg ht he hs) fun σ H Q h => lc_red (own.map (·.2)) h
where
  lc_red {fi : FI} {g : FG} {tt : FT} {te : FE} (vs : List Nat) {σ : L2.St} {H : Hp} {Q : VK} (h : tE c (eLc fi g tt te vs) σ H Q) : tLc (tI c fi) (tG c (some vs) g) (tT c tt) (tE c te) vs σ H Q := by
    obtain ⟨μ, env, S, d, S', he, hs, hf0, ha⟩ := h
    obtain ⟨it, S1, h1, hf⟩ := th_inv hf0
    clear hf0
    obtain ⟨Sf, hf, ef⟩ := Option.map_eq_some_iff.mp hf
    cases ef
    refine ⟨μ, env, S, it, S1, he, hs, h1, fun μ1 H1 J e1 k1 ok => ?_⟩
    intro p hp
    obtain ⟨y1, y2, y3⟩ := lst_new (ds := []) (vs := []) k1 rfl hp
    have hn : (μ1 ++ [p])[S1.length]? = some p := by
      rw [← k1.len, List.getElem?_append_right (Nat.le_refl _), Nat.sub_self]
      rfl
    refine ⟨fun i m H2 => ∃ μ2 S2, Ext c (μ1 ++ [p]) (upd H1 p (.lst [])) μ2 H2 ∧ StoOk c μ2 S2 H2 ∧ lcI it g tt te S1.length (wipeE env vs) m i S2 = some S', ⟨it.len + 1, μ1 ++ [p], _, Ext.refl, y2, hf⟩, ?_⟩
    rintro i m H2 ⟨μ2, S2, e2, k2, hw⟩
    have en : EnvOk c μ2 H2 (wipeE env vs) (wipe σ vs) := (((he.mono e1).mono y1).mono e2).wipe vs
    have hn2 := e2.pre _ _ hn
    cases m with
    | zero => cases hw
    | succ m =>
      unfold lcI at hw
      split at hw
      · rename_i d g1
        obtain ⟨go, yl⟩ := (ok μ2 H2 S2 (y1.trans e2) k2 i).2 d g1
        obtain ⟨env3, S3, h3, hw⟩ := th_inv hw
        obtain ⟨k, S4, h4, hw⟩ := th_inv hw
        refine .inr ⟨go, fun H' => ∃ μ2 S2, Ext c (μ1 ++ [p]) (upd H1 p (.lst [])) μ2 H' ∧ StoOk c μ2 S2 H' ∧ lcI it g tt te S1.length (wipeE env vs) m (i + 1) S2 = some S', fun H' q => ⟨m, Nat.lt_succ_self m, q⟩, fun x H' y => ?_⟩
        obtain ⟨μ', x1, x2, x3⟩ := yl x H' y
        refine ⟨μ', _, S2, d, env3, S3, en.mono x1, x2, x3, h3, fun μ3 H3 σ3 e3 k3 r3 w3 => ⟨(w3 vs rfl).trans (wipe_wipe σ vs), ?_⟩⟩
        refine ⟨μ3, env3, S3, k, S4, r3, k3, h4, fun μ4 H4 e4 k4 => ?_⟩
        have e24 := e2.trans ((x1.trans e3).trans e4)
        cases k with
        | false =>
          rw [if_neg Bool.false_ne_true] at hw
          refine iteF ?_
          exact ⟨μ4, S4, e24, k4, hw⟩
        | true =>
          rw [if_pos rfl] at hw
          refine iteT ?_
          obtain ⟨y, S5, h5, hw⟩ := th_inv hw
          refine ⟨μ4, env3, S4, y, S5, r3.mono e4, k4, h5, fun μ5 H5 v e5 k5 r5 => ?_⟩
          split at hw
          · rename_i acc g6
            split at hw
            · rename_i hz
              have hn5 := (e24.trans e5).pre _ _ hn
              obtain ⟨a', g7, ys, q7, r7⟩ := k5.stands _ _ g6
              rw [hn5] at g7
              cases g7
              obtain ⟨z1, z2⟩ := lst_set k5 g6 hn5 q7 (r7.app (Reps.one r5))
              exact ⟨ys, q7, by rw [r7.len]; exact cap_lt hz, μ5, _, (e24.trans e5).trans z1, z2, hw⟩
            · cases hw
          · cases hw
      · rename_i g1
        cases hw
        exact .inl ⟨(ok μ2 H2 S' (y1.trans e2) k2 i).1 g1, ha μ2 H2 _ ((e1.trans y1).trans e2) k2 ⟨p, hn2, rfl⟩⟩
      · cases hw
  wipe_wipe (σ : L2.St) (vs : List Nat) : wipe (wipe σ vs) vs = wipe σ vs := by
    refine List.ext_getElem? fun j => ?_
    have key : ∀ (ws : List Nat) (τ : L2.St), (wipe τ ws)[j]? = if j ∈ ws then (τ[j]?).map (fun _ => Option.none) else τ[j]? := by
      intro ws
      induction ws with
      | nil => intro τ; simp [wipe]
      | cons w ws ih =>
        intro τ
        unfold wipe
        by_cases e : w = j
        · subst e
          rw [if_pos List.mem_cons_self]
          by_cases hl : w < (wipe τ ws).length
          · rw [List.getElem?_set_self hl]
            rw [wipe_length] at hl
            rw [List.getElem?_eq_getElem hl]
            rfl
          · rw [List.getElem?_eq_none (by rw [List.length_set]; omega)]
            rw [wipe_length] at hl
            rw [List.getElem?_eq_none (by omega)]
            rfl
        · rw [List.getElem?_set_ne e, ih]
          by_cases hm : j ∈ ws
          · rw [if_pos hm, if_pos (List.mem_cons_of_mem _ hm)]
          · rw [if_neg hm, if_neg (fun z => (List.mem_cons.mp z).elim (fun q => e q.symm) hm)]
    rw [key vs (wipe σ vs), key vs σ]
    by_cases hm : j ∈ vs
    · rw [if_pos hm, if_pos hm, Option.map_map]
      rfl
    · rw [if_neg hm, if_neg hm]
end
end FL
/-! FL10: comprehensions of two clauses, of dicts; x = [..]; defs. -/
namespace FL
open PySem PySem.Spec PyProof.Rows L2

/-! ### two clauses -/
/-- the inner loop -/
def lcJ (it : ItD) (g : FG) (tt : FT) (te : FE) (n : Nat) (env : Env) : Nat → Nat → Sto → Option Sto := lcI it g tt te n env
def lc2I (it : ItD) (g : FG) (tt : FT) (fi1 : FI) (g1 : FG) (tt1 : FT) (te : FE) (vs1 : List Nat) (n : Nat) (env : Env) : Nat → Nat → Sto → Option Sto
  | 0, _ => fun _ => none
  | m + 1, i => fun S => match it.it S i with
    | some (some d) => th (g d env S) fun env1 S1 => th (tt env1 S1) fun k S2 => if k = true then th (fi1 env1 S2) fun it1 S3 => match lcI it1 g1 tt1 te n (wipeE env1 vs1) (it1.len + 1) 0 S3 with
        | some S4 => lc2I it g tt fi1 g1 tt1 te vs1 n env m (i + 1) S4
        | none => none
      else lc2I it g tt fi1 g1 tt1 te vs1 n env m (i + 1) S2
    | some none => some S
    | none => none
def eLc2 (fi : FI) (g : FG) (tt : FT) (fi1 : FI) (g1 : FG) (tt1 : FT) (te : FE) (vs vs1 : List Nat) : FE := fun env S => th (fi env S) fun it S1 => (lc2I it g tt fi1 g1 tt1 te vs1 S1.length (wipeE env vs) (it.len + 1) 0 (S1 ++ [.lst []])).map fun S2 => (.ref S1.length, S2)
section
variable {c : FC} {X : Cx}
theorem lc2_red {fi : FI} {g : FG} {tt : FT} {fi1 : FI} {g1 : FG} {tt1 : FT} {te : FE} (vs vs1 : List Nat) {σ : L2.St} {H : Hp} {Q : VK} (h : tE c (eLc2 fi g tt fi1 g1 tt1 te vs vs1) σ H Q) :
    tLc2 (tI c fi) (tG c (some vs) g) (tT c tt) (tI c fi1) (tG c (some vs1) g1) (tT c tt1) (tE c te) vs vs1 σ H Q := by
  obtain ⟨μ, env, S, d, S', he, hs, hf0, ha⟩ := h
  obtain ⟨it, S1, h1, hf⟩ := th_inv hf0
  clear hf0
  obtain ⟨Sf, hf, ef⟩ := Option.map_eq_some_iff.mp hf
  cases ef
  refine ⟨μ, env, S, it, S1, he, hs, h1, fun μ1 H1 J e1 k1 ok => ?_⟩
  intro p hp
  obtain ⟨y1, y2, y3⟩ := lst_new (ds := []) (vs := []) k1 rfl hp
  have hn : (μ1 ++ [p])[S1.length]? = some p := by
    rw [← k1.len, List.getElem?_append_right (Nat.le_refl _), Nat.sub_self]
    rfl
  refine ⟨fun i m H2 => ∃ μ2 S2, Ext c (μ1 ++ [p]) (upd H1 p (.lst [])) μ2 H2 ∧ StoOk c μ2 S2 H2 ∧ lc2I it g tt fi1 g1 tt1 te vs1 S1.length (wipeE env vs) m i S2 = some S', ⟨it.len + 1, μ1 ++ [p], _, Ext.refl, y2, hf⟩, ?_⟩
  rintro i m H2 ⟨μ2, S2, e2, k2, hw⟩
  have en : EnvOk c μ2 H2 (wipeE env vs) (wipe σ vs) := (((he.mono e1).mono y1).mono e2).wipe vs
  have hn2 := e2.pre _ _ hn
  cases m with
  | zero => cases hw
  | succ m =>
    unfold lc2I at hw
    split at hw
    · rename_i d g0
      obtain ⟨go, yl⟩ := (ok μ2 H2 S2 (y1.trans e2) k2 i).2 d g0
      obtain ⟨env3, S3, h3, hw⟩ := th_inv hw
      obtain ⟨k, S4, h4, hw⟩ := th_inv hw
      refine .inr ⟨go, fun H' => ∃ μ2 S2, Ext c (μ1 ++ [p]) (upd H1 p (.lst [])) μ2 H' ∧ StoOk c μ2 S2 H' ∧ lc2I it g tt fi1 g1 tt1 te vs1 S1.length (wipeE env vs) m (i + 1) S2 = some S', fun H' q => ⟨m, Nat.lt_succ_self m, q⟩, fun x H' y => ?_⟩
      obtain ⟨μ', x1, x2, x3⟩ := yl x H' y
      refine ⟨μ', _, S2, d, env3, S3, en.mono x1, x2, x3, h3, fun μ3 H3 σ3 e3 k3 r3 w3 => ⟨(w3 vs rfl).trans (q_lc.wipe_wipe σ vs), ?_⟩⟩
      refine ⟨μ3, env3, S3, k, S4, r3, k3, h4, fun μ4 H4 e4 k4 => ?_⟩
      have e24 := e2.trans ((x1.trans e3).trans e4)
      cases k with
      | false =>
        rw [if_neg Bool.false_ne_true] at hw
        refine iteF ?_
        exact ⟨μ4, S4, e24, k4, hw⟩
      | true =>
        rw [if_pos rfl] at hw
        refine iteT ?_
        obtain ⟨it1, S5, h5, hw⟩ := th_inv hw
        refine ⟨μ4, env3, S4, it1, S5, r3.mono e4, k4, h5, fun μ5 H5 J1 e5 k5 ok1 => ?_⟩
        split at hw
        · rename_i S6 g6
          refine ⟨fun j m1 H7 => ∃ μ7 S7, Ext c μ5 H5 μ7 H7 ∧ StoOk c μ7 S7 H7 ∧ lcI it1 g1 tt1 te S1.length (wipeE env3 vs1) m1 j S7 = some S6, ⟨it1.len + 1, μ5, S5, Ext.refl, k5, g6⟩, ?_⟩
          rintro j m1 H7 ⟨μ7, S7, e7, k7, hw7⟩
          have en7 : EnvOk c μ7 H7 (wipeE env3 vs1) (wipe σ3 vs1) := (((r3.mono e4).mono e5).mono e7).wipe vs1
          have e27 := (e24.trans e5).trans e7
          cases m1 with
          | zero => cases hw7
          | succ m1 =>
            unfold lcI at hw7
            split at hw7
            · rename_i d8 g8
              obtain ⟨go8, yl8⟩ := (ok1 μ7 H7 S7 e7 k7 j).2 d8 g8
              obtain ⟨env9, S9, h9, hw7⟩ := th_inv hw7
              obtain ⟨kk, S10, h10, hw7⟩ := th_inv hw7
              refine .inr ⟨go8, fun H' => ∃ μ7 S7, Ext c μ5 H5 μ7 H' ∧ StoOk c μ7 S7 H' ∧ lcI it1 g1 tt1 te S1.length (wipeE env3 vs1) m1 (j + 1) S7 = some S6, fun H' q => ⟨m1, Nat.lt_succ_self m1, q⟩, fun x8 H8 y8 => ?_⟩
              obtain ⟨μ8, z1, z2, z3⟩ := yl8 x8 H8 y8
              refine ⟨μ8, _, S7, d8, env9, S9, en7.mono z1, z2, z3, h9, fun μ9 H9 σ9 e9 k9 r9 w9 => ⟨(w9 vs1 rfl).trans (q_lc.wipe_wipe σ3 vs1), ?_⟩⟩
              refine ⟨μ9, env9, S9, kk, S10, r9, k9, h10, fun μ10 H10 e10 k10 => ?_⟩
              have e710 := (z1.trans e9).trans e10
              cases kk with
              | false =>
                rw [if_neg Bool.false_ne_true] at hw7
                refine iteF ?_
                exact ⟨μ10, S10, e7.trans e710, k10, hw7⟩
              | true =>
                rw [if_pos rfl] at hw7
                refine iteT ?_
                obtain ⟨y, S11, h11, hw7⟩ := th_inv hw7
                refine ⟨μ10, env9, S10, y, S11, r9.mono e10, k10, h11, fun μ11 H11 v e11 k11 r11 => ?_⟩
                split at hw7
                · rename_i acc g12
                  split at hw7
                  · rename_i hz
                    have hn11 := ((e27.trans e710).trans e11).pre _ _ hn
                    obtain ⟨a', g13, ys, q13, r13⟩ := k11.stands _ _ g12
                    rw [hn11] at g13
                    cases g13
                    obtain ⟨t1, t2⟩ := lst_set k11 g12 hn11 q13 (r13.app (Reps.one r11))
                    exact ⟨ys, q13, by rw [r13.len]; exact cap_lt hz, μ11, _, ((e7.trans e710).trans e11).trans t1, t2, hw7⟩
                  · cases hw7
                · cases hw7
            · rename_i g8
              cases hw7
              exact .inl ⟨(ok1 μ7 H7 _ e7 k7 j).1 g8, μ7, _, e27, k7, hw⟩
            · cases hw7
        · cases hw
    · rename_i g0
      cases hw
      exact .inl ⟨(ok μ2 H2 S' (y1.trans e2) k2 i).1 g0, ha μ2 H2 _ ((e1.trans y1).trans e2) k2 ⟨p, hn2, rfl⟩⟩
    · cases hw
theorem q_lc2 {e : Expr} {fi : FI} {g : FG} {tt : FT} {fi1 : FI} {g1 : FG} {tt1 : FT} {te : FE} {vs vs1 : List Nat} (h : PE X e (tLc2 (tI c fi) (tG c (some vs) g) (tT c tt) (tI c fi1) (tG c (some vs1) g1) (tT c tt1) (tE c te) vs vs1)) : PE X e (tE c (eLc2 fi g tt fi1 g1 tt1 te vs vs1)) := PE.w h fun _ _ _ => lc2_red vs vs1
/-- x = [..] on one line -/
theorem q_setLc {st : Stmt} {i : Nat} {fi : FI} {g : FG} {tt : FT} {te : FE} {vs : List Nat} (h : PS X st (tAsg (tLc (tI c fi) (tG c (some vs) g) (tT c tt) (tE c te) vs) (gName i))) : PS X st (tS c (sAsg (eLc fi g tt te vs) (gNm i))) := by
  refine PS.w h fun Dn σ H h => ?_
  refine q_lc.lc_red vs (Q := fun x H1 => gName i x σ H1 Dn.nx) ?_
  obtain ⟨μ, env, S, o, S', he, hs, hf, ha⟩ := h
  obtain ⟨d, S1, h1, hf⟩ := th_inv hf
  obtain ⟨env1, S2, h2, hf⟩ := th_inv hf
  cases h2
  cases hf
  exact ⟨μ, env, S, d, _, he, hs, h1, fun μ1 H1 v e1 k1 r1 => ha μ1 H1 e1 k1 _ ((he.mono e1).set i r1)⟩
theorem q_setLc2 {st : Stmt} {i : Nat} {fi : FI} {g : FG} {tt : FT} {fi1 : FI} {g1 : FG} {tt1 : FT} {te : FE} {vs vs1 : List Nat} (h : PS X st (tAsg (tLc2 (tI c fi) (tG c (some vs) g) (tT c tt) (tI c fi1) (tG c (some vs1) g1) (tT c tt1) (tE c te) vs vs1) (gName i))) : PS X st (tS c (sAsg (eLc2 fi g tt fi1 g1 tt1 te vs vs1) (gNm i))) := by
  refine PS.w h fun Dn σ H h => ?_
  refine lc2_red vs vs1 (Q := fun x H1 => gName i x σ H1 Dn.nx) ?_
  obtain ⟨μ, env, S, o, S', he, hs, hf, ha⟩ := h
  obtain ⟨d, S1, h1, hf⟩ := th_inv hf
  obtain ⟨env1, S2, h2, hf⟩ := th_inv hf
  cases h2
  cases hf
  exact ⟨μ, env, S, d, _, he, hs, h1, fun μ1 H1 v e1 k1 r1 => ha μ1 H1 e1 k1 _ ((he.mono e1).set i r1)⟩
end

/-! ### dict comprehensions -/
def dcI (it : ItD) (g : FG) (tt : FT) (tk tv : FE) (n : Nat) (env : Env) : Nat → Nat → Sto → Option Sto
  | 0, _ => fun _ => none
  | m + 1, i => fun S => match it.it S i with
    | some (some d) => th (g d env S) fun env1 S1 => th (tt env1 S1) fun k S2 => if k = true then th (tk env1 S2) fun y S3 => th (tv env1 S3) fun z S4 => match S4[n]?, keyD y with
        | some (.dic kvs), some k' => if kvs.length < cap then dcI it g tt tk tv n env m (i + 1) (S4.set n (.dic (putG kvs k' z))) else none
        | _, _ => none
      else dcI it g tt tk tv n env m (i + 1) S2
    | some none => some S
    | none => none
def eDc (fi : FI) (g : FG) (tt : FT) (tk tv : FE) (vs : List Nat) : FE := fun env S => th (fi env S) fun it S1 => (dcI it g tt tk tv S1.length (wipeE env vs) (it.len + 1) 0 (S1 ++ [.dic []])).map fun S2 => (.ref S1.length, S2)
section
variable {c : FC} {X : Cx}
theorem dic_new {μ : List Addr} {S : Sto} {H : Hp} {p : Addr} (hs : StoOk c μ S H) (hp : H p = none) : Ext c μ H (μ ++ [p]) (upd H p (.dK [])) ∧ StoOk c (μ ++ [p]) (S ++ [.dic []]) (upd H p (.dK [])) :=
  ⟨Ext.new hp, hs.alloc hp ⟨[], upd_same, RepKV.nil⟩⟩
theorem q_dc {e : Expr} {fi : FI} {g : FG} {tt : FT} {tk tv : FE} {vs : List Nat} (h : PE X e (tDc (tI c fi) (tG c (some vs) g) (tT c tt) (tE c tk) (tE c tv) vs)) : PE X e (tE c (eDc fi g tt tk tv vs)) := by
  refine PE.w h fun σ H Q h => ?_
  obtain ⟨μ, env, S, d, S', he, hs, hf0, ha⟩ := h
  obtain ⟨it, S1, h1, hf⟩ := th_inv hf0
  clear hf0
  obtain ⟨Sf, hf, ef⟩ := Option.map_eq_some_iff.mp hf
  cases ef
  refine ⟨μ, env, S, it, S1, he, hs, h1, fun μ1 H1 J e1 k1 ok => ?_⟩
  intro p hp
  obtain ⟨y1, y2⟩ := dic_new k1 hp
  have hn : (μ1 ++ [p])[S1.length]? = some p := by
    rw [← k1.len, List.getElem?_append_right (Nat.le_refl _), Nat.sub_self]
    rfl
  refine ⟨fun i m H2 => ∃ μ2 S2, Ext c (μ1 ++ [p]) (upd H1 p (.dK [])) μ2 H2 ∧ StoOk c μ2 S2 H2 ∧ dcI it g tt tk tv S1.length (wipeE env vs) m i S2 = some S', ⟨it.len + 1, μ1 ++ [p], _, Ext.refl, y2, hf⟩, ?_⟩
  rintro i m H2 ⟨μ2, S2, e2, k2, hw⟩
  have en : EnvOk c μ2 H2 (wipeE env vs) (wipe σ vs) := (((he.mono e1).mono y1).mono e2).wipe vs
  have hn2 := e2.pre _ _ hn
  cases m with
  | zero => cases hw
  | succ m =>
    unfold dcI at hw
    split at hw
    · rename_i d g1
      obtain ⟨go, yl⟩ := (ok μ2 H2 S2 (y1.trans e2) k2 i).2 d g1
      obtain ⟨env3, S3, h3, hw⟩ := th_inv hw
      obtain ⟨k, S4, h4, hw⟩ := th_inv hw
      refine .inr ⟨go, fun H' => ∃ μ2 S2, Ext c (μ1 ++ [p]) (upd H1 p (.dK [])) μ2 H' ∧ StoOk c μ2 S2 H' ∧ dcI it g tt tk tv S1.length (wipeE env vs) m (i + 1) S2 = some S', fun H' q => ⟨m, Nat.lt_succ_self m, q⟩, fun x H' y => ?_⟩
      obtain ⟨μ', x1, x2, x3⟩ := yl x H' y
      refine ⟨μ', _, S2, d, env3, S3, en.mono x1, x2, x3, h3, fun μ3 H3 σ3 e3 k3 r3 w3 => ⟨(w3 vs rfl).trans (q_lc.wipe_wipe σ vs), ?_⟩⟩
      refine ⟨μ3, env3, S3, k, S4, r3, k3, h4, fun μ4 H4 e4 k4 => ?_⟩
      have e24 := e2.trans ((x1.trans e3).trans e4)
      cases k with
      | false =>
        rw [if_neg Bool.false_ne_true] at hw
        refine iteF ?_
        exact ⟨μ4, S4, e24, k4, hw⟩
      | true =>
        rw [if_pos rfl] at hw
        refine iteT ?_
        obtain ⟨y, S5, h5, hw⟩ := th_inv hw
        obtain ⟨z, S6, h6, hw⟩ := th_inv hw
        refine ⟨μ4, env3, S4, y, S5, r3.mono e4, k4, h5, fun μ5 H5 v e5 k5 r5 => ?_⟩
        refine ⟨μ5, env3, S5, z, S6, (r3.mono e4).mono e5, k5, h6, fun μ6 H6 w e6 k6 r6 => ?_⟩
        split at hw
        · rename_i kvs k' g6 g7
          split at hw
          · rename_i hz
            have e26 := (e24.trans e5).trans e6
            have hn5 := e26.pre _ _ hn
            obtain ⟨a', g8, ys, q7, r7⟩ := k6.stands _ _ g6
            rw [hn5] at g8
            cases g8
            obtain ⟨z1, z2⟩ := dic_set k6 g6 hn5 q7 (r7.put (k := k') r6)
            exact ⟨ys, k', keyD_rep r5 g7, q7, by rw [r7.len]; exact cap_lt hz, μ6, _, e26.trans z1, z2, hw⟩
          · cases hw
        · cases hw
    · rename_i g1
      cases hw
      exact .inl ⟨(ok μ2 H2 S' (y1.trans e2) k2 i).1 g1, ha μ2 H2 _ ((e1.trans y1).trans e2) k2 ⟨p, hn2, rfl⟩⟩
    · cases hw
end

/-! ### defs -/
/-- the slots at the entry: the arguments, then nothing -/
def env0 (n : Nat) (ds : List D) : Env := ds.map some ++ List.replicate (n - ds.length) none
def fnF (n np : Nat) (b : FS) : FF := fun ds S => if ds.length = np then th (b (env0 n ds) S) fun o S1 => match o with
  | .nx _ => some (.non, S1)
  | .rt d => some (d, S1)
  | _ => none
  else none
theorem env0_ok {c : FC} {μ : List Addr} {H : Hp} {ds : List D} {vs : List V} (N : List Str) (r : Reps c μ H ds vs) : EnvOk c μ H (env0 N.length ds) (L2.start N vs) := by
  refine ⟨by unfold env0 L2.start; simp [r.len], fun i d h => ?_⟩
  unfold env0 at h
  by_cases hi : i < ds.length
  · rw [List.getElem?_append_left (by simpa using hi), List.getElem?_map] at h
    obtain ⟨d', e1, e2⟩ := Option.map_eq_some_iff.mp h
    cases e2
    obtain ⟨v, e3, rv⟩ := r.get e1
    refine ⟨v, ?_, rv⟩
    unfold L2.start
    rw [List.getElem?_append_left (by simpa [r.len] using hi), List.getElem?_map, e3]
    rfl
  · rw [List.getElem?_append_right (by simpa using Nat.le_of_not_lt hi)] at h
    have := List.mem_of_getElem? h
    rw [List.mem_replicate] at this
    cases this.2
theorem len_spF {c : FC} {n : Nat} {F : FF} : ∀ vs H Q E, spF c n F vs H Q E → vs.length = n := fun _ _ _ _ h => h.1
theorem start_red {c : FC} {N : List Str} {np : Nat} {b : FS} {vs : List V} {H : Hp} {Q : VK} {E : XK} (h : spF c np (fnF N.length np b) vs H Q E) : tS c b { nx := fun _ H' => Q .non H', rt := Q } (L2.start N vs) H := by
  obtain ⟨hl, μ, S, ds, d, S', hs, r, hf, ha⟩ := h
  unfold fnF at hf
  split at hf
  · obtain ⟨o, S1, h1, hf⟩ := th_inv hf
    refine ⟨μ, env0 N.length ds, S, o, S1, env0_ok N r, hs, h1, fun μ1 H1 e1 k1 => ?_⟩
    cases o with
    | nx e =>
      cases hf
      exact fun σ' _ => ha _ _ _ e1 k1 rfl
    | rt d' =>
      cases hf
      exact fun v rv => ha _ _ _ e1 k1 rv
    | bk e => cases hf
    | ct e => cases hf
  · cases hf
end FL
/-! FL11: packs for defs, constants, classes; the law's end. -/
namespace FL
open PySem PySem.Spec PyProof.Rows L2

/-- the def x of the module as the function F of its parameters ps -/
structure Fp (c : FC) (P : Program) (w : World) (mg : Str → Option Value) (base : Heap) (k : Nat) (x : Str) (ps : List Str) (F : FF) : Prop where
  ex : ∃ f fd, FnOk P w c.K mg base CX0 k f fd ps (spF c ps.length F) ∧ mg x = some (.ref f) ∧ PySem.W.keepIn c.K (.ref f) = true ∧ Binds c.K fd ps []
/-- the method m of the class k -/
structure Mp (c : FC) (P : Program) (w : World) (mg : Str → Option Value) (base : Heap) (k : Nat) (C m : Str) (ps : List Str) (F : FF) : Prop where
  ex : ∃ f fd, FnOk P w c.K mg base CX0 k f fd ps (spF c ps.length F) ∧ Meth c.K (c.ct C) m f ∧ Binds c.K fd ps [] ∧ Cls c.K (c.ct C)
/-- the class C, x its name, by its __init__ -/
structure Ip (c : FC) (P : Program) (w : World) (mg : Str → Option Value) (base : Heap) (k : Nat) (C : Str) (ps : List Str) (F : FF) : Prop where
  ex : ∃ f fd, FnOk P w c.K mg base CX0 k f fd ps (spF c ps.length F) ∧ mg C = some (.ref (c.ct C)) ∧ Mk c.K (c.ct C) f ∧ Binds c.K fd ps []
/-- the constant x of the module -/
structure Kp (c : FC) (mg : Str → Option Value) (x : Str) (d : D) : Prop where
  ex : ∃ u, mg x = some u ∧ Cst c u d
def absD : Value → Option D
  | .none => some .non
  | .bool b => some (.bl b)
  | .int i _ => some (.int i)
  | .str x _ => some (.str x)
  | _ => none
def absDs : List Value → Option (List D)
  | [] => some []
  | u :: us => match absD u, absDs us with
    | some d, some ds => some (d :: ds)
    | _, _ => none
section
variable {c : FC} {X : Cx} {P : Program} {w : World} {mg : Str → Option Value} {base : Heap}
theorem absD_ok : ∀ {u : Value} {d : D}, absD u = some d → Cst c u d
  | .none, _, h => by
    cases h
    exact ⟨.non, rfl, fun _ _ => rfl⟩
  | .bool b, _, h => by
    cases h
    exact ⟨.bl b, rfl, fun _ _ => rfl⟩
  | .int i t, _, h => by
    cases h
    exact ⟨.int i, ⟨t, rfl⟩, fun _ _ => rfl⟩
  | .str x t, _, h => by
    cases h
    exact ⟨.str x, ⟨t, rfl⟩, fun _ _ => rfl⟩
  | .ref _, _, h => by cases h
  | .type _, _, h => by cases h
  | .builtin _, _, h => by cases h
  | .bytes _ _, _, h => by cases h
  | .float _ _, _, h => by cases h
theorem absDs_ok : ∀ {us : List Value} {ds : List D}, absDs us = some ds → ∃ xs, Vals xs us ∧ ∀ μ H, Reps c μ H ds xs
  | [], _, h => by
    cases h
    exact ⟨[], .nil, fun _ _ => rfl⟩
  | u :: us, ds, h => by
    unfold absDs at h
    split at h
    · rename_i d ds' e1 e2
      cases h
      obtain ⟨v, r, q⟩ := absD_ok (c := c) e1
      obtain ⟨xs, r', q'⟩ := absDs_ok e2
      exact ⟨v :: xs, .cons r r', fun μ H => ⟨v, xs, rfl, q μ H, q' μ H⟩⟩
    · cases h
theorem cst_tup {p : Addr} {its : Array Value} {n : Nat} {sl : Array (Option Value)} {ds : List D} (l : c.K.lookup p = some ⟨.type "tuple", none, .seq its n, sl⟩) (e : absDs its.toList = some ds) (hs : its.size ≤ cap) : Cst c (.ref p) (.tup ds) := by
  obtain ⟨xs, r, q⟩ := absDs_ok (c := c) e
  exact ⟨.ref p, rfl, fun μ H => ⟨p, xs, rfl, .inr ⟨_, its, n, l, rfl, rfl, rfl, cap_le hs, r⟩, q μ H⟩⟩
theorem kp_val {h : Heap} {x : Str} {u : Value} {d : D} (X : c.K.In h) (G : h.Ns mainGlobals mg) (a : PySem.W.nsIn c.K mainGlobals x = some (some u)) (e : absD u = some d) : Kp c mg x d := ⟨u, PySem.W.mg_of X G a, absD_ok e⟩
theorem kp_tup {h : Heap} {x : Str} {p : Addr} {its : Array Value} {n : Nat} {sl : Array (Option Value)} {ds : List D} (X : c.K.In h) (G : h.Ns mainGlobals mg) (a : PySem.W.nsIn c.K mainGlobals x = some (some (.ref p)))
    (l : c.K.lookup p = some ⟨.type "tuple", none, .seq its n, sl⟩) (e : absDs its.toList = some ds) (hs : its.size ≤ cap) : Kp c mg x (.tup ds) := ⟨_, PySem.W.mg_of X G a, cst_tup l e hs⟩
theorem q_globK {x : Str} {d : D} {pos : Pos} (h : Kp c X.mg x d) (hg : Gl X x) (hd : (x == ("__debug__" : Str)) = false := by decide) : PE X (.Name x pos) (tE c (eC d)) :=
  let ⟨_, m, k⟩ := h.ex
  q_glob hg m k hd
theorem Fp.mono {j k : Nat} {x : Str} {ps : List Str} {F : FF} (h : Fp c P w mg base j x ps F) (q : j ≤ k) : Fp c P w mg base k x ps F :=
  let ⟨f, fd, h1, h2⟩ := h.ex
  ⟨f, fd, h1.mono q, h2⟩
theorem Mp.mono {j k : Nat} {x m : Str} {ps : List Str} {F : FF} (h : Mp c P w mg base j x m ps F) (q : j ≤ k) : Mp c P w mg base k x m ps F :=
  let ⟨f, fd, h1, h2⟩ := h.ex
  ⟨f, fd, h1.mono q, h2⟩
theorem Ip.mono {j k : Nat} {x : Str} {ps : List Str} {F : FF} (h : Ip c P w mg base j x ps F) (q : j ≤ k) : Ip c P w mg base k x ps F :=
  let ⟨f, fd, h1, h2⟩ := h.ex
  ⟨f, fd, h1.mono q, h2⟩
variable {k : Nat} {x : Str} {ps : List Str} {F : FF} {e o : Expr} {es : List Expr} {fr : FA} {fo : FE} {p pos apos : Pos}
theorem q_callP (hK : c.K = X.K) (h : Fp c X.prog X.w X.mg X.base k x ps F) (hr : Room k X.A) (hg : Gl X x) (ha : PA X (e :: es) (tA c fr)) (hl : ∀ (env : Env) (S : Sto) (ds : List D) (S' : Sto), fr env S = some (ds, S') → ds.length = ps.length)
    (hdb : (x == ("__debug__" : Str)) = false := by decide) (he : starEach (e :: es) X.env = (false, eval e X.env) :: starEach es X.env := by rfl) (hpl : (backTo pos (starEach es X.env)).any (·.1) = false := by rfl) :
    PE X (.Call (.Name x p) (e :: es) [] pos) (tE c (eCall F fr)) := by
  obtain ⟨f, fd, h1, h2, h3, h4⟩ := h.ex
  rw [hK] at h1 h3 h4
  exact q_fn (E := fun _ _ _ => False) (pe_call h1 hr hg h2 h3 h4 .nil pass0 ha hdb he hpl) hl
theorem q_callP0 (hK : c.K = X.K) (h : Fp c X.prog X.w X.mg X.base k x [] F) (hr : Room k X.A) (hg : Gl X x) (hdb : (x == ("__debug__" : Str)) = false := by decide) :
    PE X (.Call (.Name x p) [] [] pos) (tE c (eCall F aNil)) := by
  obtain ⟨f, fd, h1, h2, h3, h4⟩ := h.ex
  rw [hK] at h1 h3 h4
  refine q_fn (E := fun _ _ _ => False) (PE.w (pe_call0 h1 hr hg h2 h3 h4 .nil pass0 hdb) fun σ H Q q => ?_) len0
  obtain ⟨μ, env, S, ds, S', he, hs, hf, ha⟩ := q
  cases hf
  exact ha μ H [] Ext.refl hs rfl
theorem q_methP {C m : Str} (hK : c.K = X.K) (h : Mp c X.prog X.w X.mg X.base k C m ps F) (hr : Room k X.A) (ho : PE X o (tE c fo)) (ha : PA X (e :: es) (tA c fr)) (hl : ∀ (env : Env) (S : Sto) (ds : List D) (S' : Sto), fr env S = some (ds, S') → ds.length + 1 = ps.length) {pl : Sem Bool}
    (hst : starEach (e :: es) X.env = (false, eval e X.env) :: starEach es X.env := by rfl) (hpl : (backTo pos (starEach es X.env)).any (·.1) = false := by rfl)
    (ht : eval (.Call (.Attribute o m apos) (e :: es) [] pos) X.env = (do
      let ov ← eval o X.env
      standAt apos.atName
      let (f, first) ← holding [ov] (getMethod ov m pl)
      callWith pos f first (backTo pos (starEach (e :: es) X.env)) (backToKw pos (keywordEach [] X.env))) := by rfl) :
    PE X (.Call (.Attribute o m apos) (e :: es) [] pos) (tE c (eMeth C m F fo fr)) := by
  obtain ⟨f, fd, h1, h2, h3, h4⟩ := h.ex
  rw [hK] at h1 h2 h3 h4
  exact q_meth (E := fun _ _ _ => False) (pe_meth ho h4 h2 h1 hr h3 .nil pass0 ha hst hpl ht) hl
theorem q_methP0 {C m : Str} (hK : c.K = X.K) (h : Mp c X.prog X.w X.mg X.base k C m ps F) (hr : Room k X.A) (ho : PE X o (tE c fo)) (hl : 1 = ps.length) {pl : Sem Bool}
    (ht : eval (.Call (.Attribute o m apos) [] [] pos) X.env = (do
      let ov ← eval o X.env
      standAt apos.atName
      let (f, first) ← holding [ov] (getMethod ov m pl)
      callWith pos f first (backTo pos (starEach [] X.env)) (backToKw pos (keywordEach [] X.env))) := by rfl) :
    PE X (.Call (.Attribute o m apos) [] [] pos) (tE c (eMeth C m F fo aNil)) := by
  obtain ⟨f, fd, h1, h2, h3, h4⟩ := h.ex
  rw [hK] at h1 h2 h3 h4
  refine q_meth (n := ps.length) (E := fun _ _ _ => False) (PE.w (pe_meth0 ho h4 h2 h1 hr h3 .nil pass0 ht) fun σ H Q q => ?_) (fun _ _ _ _ h => by cases h; exact hl)
  refine nilR q fun σ H Q Q' m h => ?_
  obtain ⟨μ, env, S, d, S', he, hs, hf, ha⟩ := h
  exact ⟨μ, env, S, d, S', he, hs, hf, fun μ1 H1 v e1 k1 r1 => m v H1 (ha μ1 H1 v e1 k1 r1)⟩
where
  nilR {C : Addr} {m : Str} {sp : Sp} {E : XK} {t : TE} {σ : L2.St} {H : Hp} {Q : VK} (q : tMeth C m sp [] E t (tA c aNil) σ H Q) (hm : ∀ σ H (Q Q' : VK), (∀ v H, Q v H → Q' v H) → t σ H Q → t σ H Q') : tMeth C m sp [] E t tNil σ H Q := by
    refine hm σ H _ _ ?_ q
    rintro v H1 ⟨a, dx, fs, r1, r2, r3, μ, env, S, ds, S', he, hs, hf, ha⟩
    cases hf
    exact ⟨a, dx, fs, r1, r2, r3, ha μ H1 [] Ext.refl hs rfl⟩
/-- the law's promise, from what its function answers -/
theorem end_red {F : FF} {ns : List Int} {H : Hp} {a : Addr} {E : XK} (h : ∃ S', F [.ref 0] [.ro (ns.map D.int)] = some (.bl true, S')) (hO : Only H) (hS : SqL c.K H a (ns.map V.int)) : spF c 1 F [.ref a] H (fun v _ => v = .bl true) E := by
  obtain ⟨S', hf⟩ := h
  have r : RepO c [a] H a (.ro (ns.map D.int)) := by
    refine ⟨ns.map V.int, ?_, ints_rep ns⟩
    rcases hS with (h | h) | h
    · rcases hO a with q | ⟨o, xs, q⟩ <;> (rw [h] at q; cases q)
    · exact .inl h
    · exact .inr h
  refine ⟨rfl, [a], [.ro (ns.map D.int)], [.ref 0], .bl true, S', ⟨rfl, fun n o e => ?_, fun n m b o o' e1 e2 w1 w2 => ?_⟩, ⟨_, _, rfl, ⟨a, rfl, rfl⟩, rfl⟩, hf, fun μ' H' v _ _ r => r⟩
  · match n, e with
    | 0, e =>
      cases e
      exact ⟨a, rfl, r⟩
  · match n, e1 with
    | 0, e1 =>
      cases e1
      cases w1
end
end FL
/-! FL12: what the functions compute: a calculus of values (no program in sight). -/
namespace FL
open PySem L2

/-- r answers, and what it answers has Q -/
def W {α : Type} (r : Option (α × Sto)) (Q : α → Sto → Prop) : Prop := ∃ x S, r = some (x, S) ∧ Q x S
@[simp] theorem W_some {α : Type} (x : α) (S : Sto) (Q : α → Sto → Prop) : W (some (x, S)) Q ↔ Q x S := ⟨fun ⟨_, _, e, q⟩ => by cases e; exact q, fun q => ⟨x, S, rfl, q⟩⟩
@[simp] theorem W_none {α : Type} (Q : α → Sto → Prop) : W (none : Option (α × Sto)) Q ↔ False := ⟨(fun ⟨_, _, e, _⟩ => nomatch e), False.elim⟩
@[simp] theorem W_th {α β : Type} (r : Option (α × Sto)) (k : α → Sto → Option (β × Sto)) (Q : β → Sto → Prop) : W (th r k) Q ↔ W r fun x S => W (k x S) Q := by
  cases r with
  | none => simp
  | some p =>
    obtain ⟨x, S⟩ := p
    simp
theorem W.mono {α : Type} {r : Option (α × Sto)} {Q Q' : α → Sto → Prop} (h : W r Q) (m : ∀ x S, Q x S → Q' x S) : W r Q' := let ⟨x, S, e, q⟩ := h; ⟨x, S, e, m x S q⟩
theorem W.of {α : Type} {r : Option (α × Sto)} {Q : α → Sto → Prop} {x : α} {S : Sto} (e : r = some (x, S)) (q : Q x S) : W r Q := ⟨x, S, e, q⟩
theorem W_map {α β : Type} {r : Option (α × Sto)} {f : α × Sto → β × Sto} {Q : β → Sto → Prop} (h : W r fun x S => Q (f (x, S)).1 (f (x, S)).2) : W (r.map f) Q := by
  obtain ⟨x, S, e, q⟩ := h
  exact ⟨_, _, by rw [e]; rfl, q⟩
theorem W_if {α : Type} {p : Prop} [Decidable p] {a b : Option (α × Sto)} {Q : α → Sto → Prop} (h1 : p → W a Q) (h2 : ¬ p → W b Q) : W (if p then a else b) Q := by
  by_cases h : p
  · rw [if_pos h]; exact h1 h
  · rw [if_neg h]; exact h2 h

/-! ### stores -/
def Ap (S S' : Sto) : Prop := ∀ (m : Nat) (o : O), S[m]? = some o → S'[m]? = some o
theorem Ap.refl (S : Sto) : Ap S S := fun _ _ h => h
theorem Ap.trans {S S1 S2 : Sto} (a : Ap S S1) (b : Ap S1 S2) : Ap S S2 := fun m o h => b m o (a m o h)
theorem Ap.app (S J : Sto) : Ap S (S ++ J) := fun m o h => by
  rw [List.getElem?_append_left (List.getElem?_eq_some_iff.mp h).1]
  exact h
theorem Ap.len {S S' : Sto} (h : Ap S S') : S.length ≤ S'.length := by
  by_cases z : S.length ≤ S'.length
  · exact z
  · have hl : S'.length < S.length := by omega
    have := h S'.length _ (List.getElem?_eq_getElem hl)
    have := (List.getElem?_eq_some_iff.mp this).1
    omega
theorem Ap.set {S S1 : Sto} {n : Nat} {o : O} (h : Ap S S1) (hn : S.length ≤ n) : Ap S (S1.set n o) := fun m o' e => by
  rw [List.getElem?_set_ne]
  · exact h m o' e
  · intro z
    have := (List.getElem?_eq_some_iff.mp e).1
    omega
/-- only the place n may change -/
def Kn (n : Nat) (S S' : Sto) : Prop := ∀ (m : Nat) (o : O), m ≠ n → S[m]? = some o → S'[m]? = some o
theorem Ap.kn {S S' : Sto} (h : Ap S S') (n : Nat) : Kn n S S' := fun m o _ e => h m o e
theorem Kn.refl (n : Nat) (S : Sto) : Kn n S S := fun _ _ _ h => h
theorem Kn.trans {n : Nat} {S S1 S2 : Sto} (a : Kn n S S1) (b : Kn n S1 S2) : Kn n S S2 := fun m o z h => b m o z (a m o z h)
theorem Kn.set (n : Nat) (S : Sto) (o : O) : Kn n S (S.set n o) := fun m o' z e => by
  rw [List.getElem?_set_ne (fun q => z q.symm)]
  exact e
theorem set_at {S : Sto} {n : Nat} {o o' : O} (h : S[n]? = some o) : (S.set n o')[n]? = some o' := List.getElem?_set_self (List.getElem?_eq_some_iff.mp h).1
theorem new_at (S : Sto) (o : O) : (S ++ [o])[S.length]? = some o := by simp
theorem getL_of {S : Sto} {n : Nat} {ds : List D} (h : S[n]? = some (.lst ds)) : getL S n = some ds := by unfold getL; rw [h]
theorem getL_ro {S : Sto} {n : Nat} {ds : List D} (h : S[n]? = some (.ro ds)) : getL S n = some ds := by unfold getL; rw [h]
theorem getL_ap {S S' : Sto} {n : Nat} {ds : List D} (h : getL S n = some ds) (a : Ap S S') : getL S' n = some ds := by
  unfold getL at h ⊢
  split at h
  · rename_i e
    rw [a _ _ e]; exact h
  · rename_i e
    rw [a _ _ e]; exact h
  · cases h
theorem lt_of_at {S : Sto} {n : Nat} {o : O} (h : S[n]? = some o) : n < S.length := (List.getElem?_eq_some_iff.mp h).1
/-- a new place -/
theorem W_new {Q : D → Sto → Prop} {S : Sto} {o : O} (h : ∀ (n : Nat) (S' : Sto), n = S.length → Ap S S' → S'[n]? = some o → S'.length = S.length + 1 → Q (.ref n) S') : W (some (D.ref S.length, S ++ [o])) Q :=
  ⟨_, _, rfl, h _ _ rfl (Ap.app S [o]) (new_at S o) (by simp)⟩

/-! ### statements and defs -/
def QS (g : FS) (Q : Out → Sto → Prop) : Out → Sto → Prop := fun o S => match o with
  | .nx e => W (g e S) Q
  | o => Q o S
@[simp] theorem QS_nx (g : FS) (Q : Out → Sto → Prop) (e : Env) (S : Sto) : QS g Q (.nx e) S ↔ W (g e S) Q := Iff.rfl
@[simp] theorem QS_rt (g : FS) (Q : Out → Sto → Prop) (d : D) (S : Sto) : QS g Q (.rt d) S ↔ Q (.rt d) S := Iff.rfl
@[simp] theorem QS_bk (g : FS) (Q : Out → Sto → Prop) (e : Env) (S : Sto) : QS g Q (.bk e) S ↔ Q (.bk e) S := Iff.rfl
@[simp] theorem QS_ct (g : FS) (Q : Out → Sto → Prop) (e : Env) (S : Sto) : QS g Q (.ct e) S ↔ Q (.ct e) S := Iff.rfl
def QF (Q : D → Sto → Prop) : Out → Sto → Prop := fun o S => match o with
  | .nx _ => Q .non S
  | .rt d => Q d S
  | _ => False
@[simp] theorem QF_nx (Q : D → Sto → Prop) (e : Env) (S : Sto) : QF Q (.nx e) S ↔ Q .non S := Iff.rfl
@[simp] theorem QF_rt (Q : D → Sto → Prop) (d : D) (S : Sto) : QF Q (.rt d) S ↔ Q d S := Iff.rfl
@[simp] theorem w_seq (f g : FS) (env : Env) (S : Sto) (Q : Out → Sto → Prop) : W (sSeq f g env S) Q ↔ W (f env S) (QS g Q) := by
  unfold sSeq
  rw [W_th]
  constructor
  · rintro ⟨o, S1, e, h⟩
    refine ⟨o, S1, e, ?_⟩
    cases o with
    | nx e => exact h
    | rt d => simpa using h
    | bk d => simpa using h
    | ct d => simpa using h
  · rintro ⟨o, S1, e, h⟩
    refine ⟨o, S1, e, ?_⟩
    cases o with
    | nx e => exact h
    | rt d => simpa using h
    | bk d => simpa using h
    | ct d => simpa using h
theorem w_fn {n np : Nat} {b : FS} {ds : List D} {S : Sto} {Q : D → Sto → Prop} (hl : ds.length = np) (h : W (b (env0 n ds) S) (QF Q)) : W (fnF n np b ds S) Q := by
  unfold fnF
  rw [if_pos hl, W_th]
  obtain ⟨o, S1, e, h⟩ := h
  refine ⟨o, S1, e, ?_⟩
  cases o with
  | nx e => simpa using h
  | rt d => simpa using h
  | bk d => exact h.elim
  | ct d => exact h.elim
section
variable {env : Env} {S : Sto} {Q : Out → Sto → Prop}
@[simp] theorem w_nil : W (sNil env S) Q ↔ Q (.nx env) S := W_some ..
@[simp] theorem w_ret (fe : FE) : W (sRet fe env S) Q ↔ W (fe env S) fun d S1 => Q (.rt d) S1 := by unfold sRet; simp
@[simp] theorem w_retN : W (sRetN env S) Q ↔ Q (.rt .non) S := W_some ..
@[simp] theorem w_drop (fe : FE) : W (sDrop fe env S) Q ↔ W (fe env S) fun _ S1 => Q (.nx env) S1 := by unfold sDrop; simp
@[simp] theorem w_brk : W (sBrk env S) Q ↔ Q (.bk env) S := W_some ..
@[simp] theorem w_cnt : W (sCnt env S) Q ↔ Q (.ct env) S := W_some ..
@[simp] theorem w_sif (t : FT) (f g : FS) : W (sIf t f g env S) Q ↔ W (t env S) fun b S1 => (if b = true then W (f env S1) Q else W (g env S1) Q) := by
  unfold sIf
  rw [W_th]
  constructor <;>
  · rintro ⟨b, S1, e, h⟩
    refine ⟨b, S1, e, ?_⟩
    cases b <;> simpa using h
@[simp] theorem w_asg (fe : FE) (g : FG) : W (sAsg fe g env S) Q ↔ W (fe env S) fun d S1 => W (g d env S1) fun env1 S2 => Q (.nx env1) S2 := by unfold sAsg; simp
theorem w_par (is : List Nat) (fr : FA) : W (sPar is fr env S) Q ↔ W (fr env S) fun ds S1 => ds.length = is.length ∧ Q (.nx ((is.zip ds).foldl (fun e p => e.set p.1 (some p.2)) env)) S1 := by
  unfold sPar
  rw [W_th]
  constructor
  · rintro ⟨ds, S1, e, h⟩
    refine ⟨ds, S1, e, ?_⟩
    by_cases z : ds.length = is.length
    · rw [if_pos z] at h; exact ⟨z, by simpa using h⟩
    · rw [if_neg z] at h; simp at h
  · rintro ⟨ds, S1, e, z, h⟩
    refine ⟨ds, S1, e, ?_⟩
    simpa [z] using h
end
section
variable {env : Env} {S : Sto} {Q : D → Sto → Prop} {QA : List D → Sto → Prop} {QT : Bool → Sto → Prop} {QE : Env → Sto → Prop}
@[simp] theorem w_c (d : D) : W (eC d env S) Q ↔ Q d S := W_some ..
theorem w_var {i : Nat} {d : D} (h : env[i]? = some (some d)) : W (eVar i env S) Q ↔ Q d S := by unfold eVar; rw [h]; simp
@[simp] theorem w_bin (r : F2) (fa fb : FE) : W (eBin r fa fb env S) Q ↔ W (fa env S) fun x S1 => W (fb env S1) fun y S2 => W (r x y S2) Q := by unfold eBin; simp
@[simp] theorem w_un (r : F1) (fa : FE) : W (eUn r fa env S) Q ↔ W (fa env S) fun x S1 => W (r x S1) Q := by unfold eUn; simp
@[simp] theorem w_anil : W (aNil env S) QA ↔ QA [] S := W_some ..
@[simp] theorem w_acons (fa : FE) (fr : FA) : W (aCons fa fr env S) QA ↔ W (fa env S) fun x S1 => W (fr env S1) fun xs S2 => QA (x :: xs) S2 := by unfold aCons; simp
@[simp] theorem w_tup (fr : FA) : W (eTup fr env S) Q ↔ W (fr env S) fun ds S1 => ds.length ≤ cap ∧ Q (.tup ds) S1 := by
  unfold eTup
  rw [W_th]
  constructor
  · rintro ⟨ds, S1, e, h⟩
    refine ⟨ds, S1, e, ?_⟩
    by_cases z : ds.length ≤ cap
    · rw [if_pos z] at h; exact ⟨z, by simpa using h⟩
    · rw [if_neg z] at h; simp at h
  · rintro ⟨ds, S1, e, z, h⟩
    refine ⟨ds, S1, e, ?_⟩
    simpa [z] using h
@[simp] theorem w_lst (fr : FA) : W (eLst fr env S) Q ↔ W (fr env S) fun ds S1 => ds.length ≤ cap ∧ W (some (D.ref S1.length, S1 ++ [.lst ds])) Q := by
  unfold eLst
  rw [W_th]
  constructor
  · rintro ⟨ds, S1, e, h⟩
    refine ⟨ds, S1, e, ?_⟩
    by_cases z : ds.length ≤ cap
    · rw [if_pos z] at h; exact ⟨z, h⟩
    · rw [if_neg z] at h; simp at h
  · rintro ⟨ds, S1, e, z, h⟩
    refine ⟨ds, S1, e, ?_⟩
    simpa [z] using h
@[simp] theorem w_call (F : FF) (fr : FA) : W (eCall F fr env S) Q ↔ W (fr env S) fun ds S1 => W (F ds S1) Q := by unfold eCall; simp
@[simp] theorem w_tB (fe : FE) : W (tB fe env S) QT ↔ W (fe env S) fun d S1 => ∃ b, d = .bl b ∧ QT b S1 := by
  unfold tB
  rw [W_th]
  constructor
  · rintro ⟨d, S1, e, h⟩
    refine ⟨d, S1, e, ?_⟩
    cases d with
    | bl b => exact ⟨b, rfl, by simpa using h⟩
    | _ => simp at h
  · rintro ⟨d, S1, e, b, rfl, h⟩
    exact ⟨_, S1, e, by simpa using h⟩
@[simp] theorem w_tNot (t : FT) : W (tNot t env S) QT ↔ W (t env S) fun b S1 => QT (!b) S1 := by unfold tNot; simp
@[simp] theorem w_tAnd (a b : FT) : W (tAnd a b env S) QT ↔ W (a env S) fun k S1 => if k = true then W (b env S1) QT else QT false S1 := by
  unfold tAnd
  rw [W_th]
  constructor <;>
  · rintro ⟨d, S1, e, h⟩
    refine ⟨d, S1, e, ?_⟩
    cases d <;> simpa using h
@[simp] theorem w_tOr (a b : FT) : W (tOr a b env S) QT ↔ W (a env S) fun k S1 => if k = true then QT true S1 else W (b env S1) QT := by
  unfold tOr
  rw [W_th]
  constructor <;>
  · rintro ⟨d, S1, e, h⟩
    refine ⟨d, S1, e, ?_⟩
    cases d <;> simpa using h
@[simp] theorem w_eIf (t : FT) (a b : FE) : W (eIf t a b env S) Q ↔ W (t env S) fun k S1 => if k = true then W (a env S1) Q else W (b env S1) Q := by
  unfold eIf
  rw [W_th]
  constructor <;>
  · rintro ⟨d, S1, e, h⟩
    refine ⟨d, S1, e, ?_⟩
    cases d <;> simpa using h
@[simp] theorem w_isN (a : FE) : W (eIsN a env S) Q ↔ W (a env S) fun x S1 => Q (.bl (match x with | .non => true | _ => false)) S1 := by
  unfold eIsN
  rw [W_th]
  constructor <;>
  · rintro ⟨d, S1, e, h⟩
    refine ⟨d, S1, e, ?_⟩
    cases d <;> simpa using h
@[simp] theorem w_notN (a : FE) : W (eNotN a env S) Q ↔ W (a env S) fun x S1 => Q (.bl (match x with | .non => false | _ => true)) S1 := by
  unfold eNotN
  rw [W_th]
  constructor <;>
  · rintro ⟨d, S1, e, h⟩
    refine ⟨d, S1, e, ?_⟩
    cases d <;> simpa using h
@[simp] theorem w_gnm (i : Nat) (d : D) : W (gNm i d env S) QE ↔ QE (env.set i (some d)) S := W_some ..
@[simp] theorem w_gnils (S : Sto) : W (gNils [] env S) QE ↔ QE env S := W_some ..
@[simp] theorem w_gcns (g : FG) (gs : FGs) (d : D) (r : List D) : W (gCns g gs (d :: r) env S) QE ↔ W (g d env S) fun e1 S1 => W (gs r e1 S1) QE := by unfold gCns; simp
theorem w_gtp {n : Nat} {gs : FGs} {ds : List D} (h : ds.length = n) : W (gTp n gs (.tup ds) env S) QE ↔ W (gs ds env S) QE := by unfold gTp; simp only [if_pos h]
theorem w_gtpp {n : Nat} {gs : FGs} {ds : List D} (h : ds.length = n) : W (gTp n gs (.pr ds) env S) QE ↔ W (gs ds env S) QE := by unfold gTp; simp only [if_pos h]
@[simp] theorem w_add (i j : Int) : W (oAdd (.int i) (.int j) S) Q ↔ Q (.int (i + j)) S := W_some ..
@[simp] theorem w_sub (i j : Int) : W (oSub (.int i) (.int j) S) Q ↔ Q (.int (i - j)) S := W_some ..
@[simp] theorem w_neg (i : Int) : W (oNeg (.int i) S) Q ↔ Q (.int (-i)) S := W_some ..
@[simp] theorem w_lt (i j : Int) : W (oLt (.int i) (.int j) S) Q ↔ Q (.bl (decide (i < j))) S := W_some ..
@[simp] theorem w_le (i j : Int) : W (oLe (.int i) (.int j) S) Q ↔ Q (.bl (decide (i ≤ j))) S := W_some ..
@[simp] theorem w_gt (i j : Int) : W (oGt (.int i) (.int j) S) Q ↔ Q (.bl (decide (j < i))) S := W_some ..
@[simp] theorem w_ge (i j : Int) : W (oGe (.int i) (.int j) S) Q ↔ Q (.bl (decide (j ≤ i))) S := W_some ..
theorem w_mul {i j : Int} (h : okMul i j = true) : W (oMul (.int i) (.int j) S) Q ↔ Q (.int (i * j)) S := by unfold oMul; simp only [if_pos h, W_some]
theorem okMul_l {i j : Int} (h1 : -18446744073709551616 < i) (h2 : i < 18446744073709551616) : okMul i j = true := by unfold okMul; simp [h1, h2]
theorem okMul_r {i j : Int} (h1 : -18446744073709551616 < j) (h2 : j < 18446744073709551616) : okMul i j = true := by unfold okMul; simp [h1, h2]
theorem w_div {i j : Int} (h1 : 0 < j) (h2 : j < 18446744073709551616) : W (oDiv (.int i) (.int j) S) Q ↔ Q (.int (i / j)) S := by unfold oDiv okDiv; simp [h1, h2]
theorem w_mod {i j : Int} (h1 : 0 < j) : W (oMod (.int i) (.int j) S) Q ↔ Q (.int (i % j)) S := by unfold oMod; simp [h1]
@[simp] theorem w_abs (i : Int) : W (fAbs [.int i] S) Q ↔ Q (.int (if i < 0 then -i else i)) S := W_some ..
@[simp] theorem w_int (i : Int) : W (fInt [.int i] S) Q ↔ Q (.int i) S := W_some ..
@[simp] theorem w_intb (b : Bool) : W (fInt [.bl b] S) Q ↔ Q (.int (if b = true then 1 else 0)) S := W_some ..
@[simp] theorem w_max2 (i j : Int) : W (fMax [.int i, .int j] S) Q ↔ Q (.int (if j > i then j else i)) S := W_some ..
@[simp] theorem w_min2 (i j : Int) : W (fMin [.int i, .int j] S) Q ↔ Q (.int (if j < i then j else i)) S := W_some ..
theorem w_len {n : Nat} {ds : List D} (h : getL S n = some ds) : W (fLen [.ref n] S) Q ↔ Q (.int ds.length) S := by unfold fLen; simp [h]
theorem w_list {n : Nat} {ds : List D} (h : getL S n = some ds) : W (fList [.ref n] S) Q ↔ W (some (D.ref S.length, S ++ [.lst ds])) Q := by unfold fList; simp [h]
theorem w_max1 {n : Nat} {ds : List D} {ns : List Int} (h : getL S n = some ds) (e : intsD ds = some ns) (h0 : ns ≠ []) : W (fMax [.ref n] S) Q ↔ Q (.int (maxL ns)) S := by unfold fMax ints1; simp [h, e, h0]
theorem w_min1 {n : Nat} {ds : List D} {ns : List Int} (h : getL S n = some ds) (e : intsD ds = some ns) (h0 : ns ≠ []) : W (fMin [.ref n] S) Q ↔ Q (.int (minL ns)) S := by unfold fMin ints1; simp [h, e, h0]
theorem w_sum {n : Nat} {ds : List D} {ns : List Int} (h : getL S n = some ds) (e : intsD ds = some ns) : W (fSum [.ref n] S) Q ↔ Q (.int ns.sum) S := by unfold fSum ints1; simp [h, e]
theorem intsD_map : ∀ ns : List Int, intsD (ns.map D.int) = some ns
  | [] => rfl
  | n :: ns => by
    show (intsD (ns.map D.int)).map _ = _
    rw [intsD_map ns]
    rfl
theorem atI_nat {α : Type} {xs : List α} {k : Nat} {x : α} (h : xs[k]? = some x) : atI xs (k : Int) = some x := by
  have hk := (List.getElem?_eq_some_iff.mp h).1
  unfold atI ixN
  rw [if_pos (by omega), if_pos (by omega)]
  simpa using h
theorem atI_last {α : Type} {xs : List α} {x : α} (h : xs.getLast? = some x) : atI xs (-1) = some x := by
  have h0 : xs ≠ [] := by
    rintro rfl
    cases h
  have hl : 0 < xs.length := List.length_pos_iff.mpr h0
  unfold atI ixN
  rw [if_neg (by omega), if_pos (by omega)]
  rw [List.getLast?_eq_getElem?] at h
  show xs[((-1 : Int) + xs.length).toNat]? = some x
  rw [show ((-1 : Int) + xs.length).toNat = xs.length - 1 by omega]
  exact h
theorem w_ixL {n : Nat} {ds : List D} {i : Int} {d : D} (h : getL S n = some ds) (e : atI ds i = some d) : W (oIx (.ref n) (.int i) S) Q ↔ Q d S := by unfold oIx; simp [h, e]
theorem w_ixT {ds : List D} {i : Int} {d : D} (e : atI ds i = some d) : W (oIx (.tup ds) (.int i) S) Q ↔ Q d S := by unfold oIx; simp [e]
theorem w_ixDs {n : Nat} {kvs : List (Key × D)} {x : Str} {d : D} (h : S[n]? = some (.dic kvs)) (e : valG kvs (.inr x) = some d) : W (oIx (.ref n) (.str x) S) Q ↔ Q d S := by unfold oIx getL getD keyD; simp [h, e]
theorem cut_none {α : Type} (xs : List α) (k : Nat) : cutG xs none (some (k : Int)) = xs.take k := by
  unfold cutG
  rw [HT.sIx_none, HT.sIx_nat]
  simp [List.take_eq_take_iff]
theorem cut_from {α : Type} (xs : List α) (k : Nat) : cutG xs (some (k : Int)) none = xs.drop k := by
  unfold cutG
  rw [HT.sIx_none, HT.sIx_nat]
  by_cases h : k ≤ xs.length
  · rw [Nat.min_eq_left h]
    rw [← List.length_drop, List.take_length]
  · rw [Nat.min_eq_right (by omega)]
    simp
    omega
theorem w_sl {fe : FE} {fl fh : FO} : W (eSl fe fl fh env S) Q ↔ W (fe env S) fun x S1 => W (fl env S1) fun l S2 => W (fh env S2) fun h S3 => W (oSl x l h S3) Q := by unfold eSl; simp
@[simp] theorem w_pno {QO : Option Int → Sto → Prop} : W (pNo env S) QO ↔ QO none S := W_some ..
@[simp] theorem w_ppart {fe : FE} {QO : Option Int → Sto → Prop} : W (pPart fe env S) QO ↔ W (fe env S) fun d S1 => ∃ i, d = .int i ∧ QO (some i) S1 := by
  unfold pPart
  rw [W_th]
  constructor
  · rintro ⟨d, S1, e, h⟩
    refine ⟨d, S1, e, ?_⟩
    cases d with
    | int b => exact ⟨b, rfl, by simpa using h⟩
    | _ => simp at h
  · rintro ⟨d, S1, e, b, rfl, h⟩
    exact ⟨_, S1, e, by simpa using h⟩
theorem w_slL {n : Nat} {ds : List D} {lo hi : Option Int} (h : getL S n = some ds) : W (oSl (.ref n) lo hi S) Q ↔ W (some (D.ref S.length, S ++ [.lst (cutG ds lo hi)])) Q := by unfold oSl; simp [h]
theorem w_bm {T : String} {F : D → FF} {fo : FE} {fr : FA} : W (eBm T F fo fr env S) Q ↔ W (fo env S) fun x S1 => tyD T x S1 = true ∧ W (fr env S1) fun ds S2 => W (F x ds S2) Q := by
  unfold eBm
  rw [W_th]
  constructor
  · rintro ⟨x, S1, e, h⟩
    refine ⟨x, S1, e, ?_⟩
    by_cases z : tyD T x S1 = true
    · rw [if_pos z] at h; exact ⟨z, by simpa using h⟩
    · rw [if_neg z] at h; simp at h
  · rintro ⟨x, S1, e, z, h⟩
    refine ⟨x, S1, e, ?_⟩
    simpa [z] using h
theorem tyL {n : Nat} {ds : List D} (h : S[n]? = some (.lst ds)) : tyD "list" (.ref n) S = true := by unfold tyD; simp [h]
end

/-! ### equality -/
mutual
def dPy : D → PyData
  | .non => .none
  | .bl b => .bool b
  | .int i => .int i
  | .str x => .str x
  | .tup ds => .tuple (dPys ds)
  | .pr _ => .none
  | .ref _ => .none
def dPys : List D → List PyData
  | [] => []
  | d :: ds => dPy d :: dPys ds
end
mutual
def noRef : D → Bool
  | .ref _ => false
  | .pr _ => false
  | .tup ds => noRefs ds
  | _ => true
def noRefs : List D → Bool
  | [] => true
  | d :: ds => noRef d && noRefs ds
end
mutual
theorem toPy_no {g : Nat → Option PyData} : ∀ {d : D}, noRef d = true → toPyG g d = some (dPy d)
  | .non, _ => rfl
  | .bl _, _ => rfl
  | .int _, _ => rfl
  | .str _, _ => rfl
  | .tup ds, h => by
    show (toPysG g ds).map _ = _
    rw [toPys_no (ds := ds) h]
    rfl
  | .pr _, h => nomatch h
  | .ref _, h => nomatch h
theorem toPys_no {g : Nat → Option PyData} : ∀ {ds : List D}, noRefs ds = true → toPysG g ds = some (dPys ds)
  | [], _ => rfl
  | d :: ds, h => by
    have h' := Bool.and_eq_true_iff.mp (show (noRef d && noRefs ds) = true from h)
    show (toPyG g d).bind _ = _
    rw [toPy_no h'.1, Option.bind_some, toPys_no h'.2]
    rfl
end
theorem toPy_nr {S : Sto} {d : D} (h : noRef d = true) : toPy S d = some (dPy d) := toPy_no h
theorem toPy_lst {S : Sto} {n : Nat} {ds : List D} (h : getL S n = some ds) (k : noRefs ds = true) : toPy S (.ref n) = some (.list (dPys ds)) := by
  show refPy S 4 n = _
  unfold refPy
  rw [h, Option.bind_some, toPys_no k]
  rfl
/-- data that can be compared: depth at most 60 -/
def Sh (p : PyData) : Prop := p.canLay0 = true ∧ p.depth ≤ 30
theorem Sh.ok {p : PyData} (h : Sh p) : SeqAt.shaped p = true := by
  unfold SeqAt.shaped
  rw [h.1, Bool.true_and]
  exact decide_eq_true (by have := h.2; omega)
theorem sh_int (i : Int) : Sh (.int i) := ⟨by simp [PyData.canLay0], by simp [PyData.depth]⟩
theorem sh_non : Sh .none := ⟨by simp [PyData.canLay0], by simp [PyData.depth]⟩
theorem sh_bl (b : Bool) : Sh (.bool b) := ⟨by simp [PyData.canLay0], by simp [PyData.depth]⟩
theorem canAll {ps : List PyData} (h : ∀ p ∈ ps, p.canLay0 = true ∧ p.depth ≤ 10) : PyData.canLayAll0 ps = true ∧ PyData.depthAll ps ≤ 10 := by
  induction ps with
  | nil => exact ⟨by simp [PyData.canLayAll0], by simp [PyData.depthAll]⟩
  | cons p ps ih =>
    obtain ⟨h1, h2⟩ := ih fun q hq => h q (List.mem_cons_of_mem _ hq)
    obtain ⟨h3, h4⟩ := h p List.mem_cons_self
    refine ⟨by rw [PyData.canLayAll0, h3, h1]; rfl, ?_⟩
    rw [PyData.depthAll]
    omega
theorem sh_list {ps : List PyData} (h : ∀ p ∈ ps, p.canLay0 = true ∧ p.depth ≤ 10) : Sh (.list ps) := by
  obtain ⟨h1, h2⟩ := canAll h
  exact ⟨by rw [PyData.canLay0]; exact h1, by rw [PyData.depth]; omega⟩
theorem sh_tuple {ps : List PyData} (h : ∀ p ∈ ps, p.canLay0 = true ∧ p.depth ≤ 10) : Sh (.tuple ps) := by
  obtain ⟨h1, h2⟩ := canAll h
  exact ⟨by rw [PyData.canLay0]; exact h1, by rw [PyData.depth]; omega⟩
section
variable {S : Sto} {Q : D → Sto → Prop}
theorem w_eqS {x y : D} {p : PyData} (hx : toPy S x = some p) (hy : toPy S y = some p) (h : Sh p) : W (oEq x y S) Q ↔ Q (.bl true) S := by
  unfold oEq
  rw [hx, hy]
  simp only [h.ok, Bool.and_self, if_true, SeqAt.eqv_refl p h.1, W_some]
theorem w_neS {x y : D} {p : PyData} (hx : toPy S x = some p) (hy : toPy S y = some p) (h : Sh p) : W (oNe x y S) Q ↔ Q (.bl false) S := by
  unfold oNe
  rw [hx, hy]
  simp only [h.ok, Bool.and_self, if_true, SeqAt.eqv_refl p h.1, W_some, Bool.not_true]
theorem w_eqP {x y : D} {p q : PyData} (hx : toPy S x = some p) (hy : toPy S y = some q) (h : Sh p) (k : Sh q) : W (oEq x y S) Q ↔ Q (.bl (PyData.eqv p q)) S := by
  unfold oEq
  rw [hx, hy]
  simp only [h.ok, k.ok, Bool.and_self, if_true, W_some]
theorem w_neP {x y : D} {p q : PyData} (hx : toPy S x = some p) (hy : toPy S y = some q) (h : Sh p) (k : Sh q) : W (oNe x y S) Q ↔ Q (.bl (!PyData.eqv p q)) S := by
  unfold oNe
  rw [hx, hy]
  simp only [h.ok, k.ok, Bool.and_self, if_true, W_some]
@[simp] theorem w_eqI (i j : Int) : W (oEq (.int i) (.int j) S) Q ↔ Q (.bl (decide (i = j))) S := by
  rw [w_eqP (p := .int i) (q := .int j) rfl rfl (sh_int i) (sh_int j)]
  have : PyData.eqv (.int i) (.int j) = decide (i = j) := by
    rw [PyData.eqv]
    by_cases q : i = j <;> simp [q]
  rw [this]
@[simp] theorem w_neI (i j : Int) : W (oNe (.int i) (.int j) S) Q ↔ Q (.bl (!decide (i = j))) S := by
  rw [w_neP (p := .int i) (q := .int j) rfl rfl (sh_int i) (sh_int j)]
  have : PyData.eqv (.int i) (.int j) = decide (i = j) := by
    rw [PyData.eqv]
    by_cases q : i = j <;> simp [q]
  rw [this]
@[simp] theorem w_eqB (i j : Bool) : W (oEq (.bl i) (.bl j) S) Q ↔ Q (.bl (i == j)) S := by
  rw [w_eqP (p := .bool i) (q := .bool j) rfl rfl (sh_bl i) (sh_bl j)]
  rw [PyData.eqv]
@[simp] theorem w_neB (i j : Bool) : W (oNe (.bl i) (.bl j) S) Q ↔ Q (.bl (!(i == j))) S := by
  rw [w_neP (p := .bool i) (q := .bool j) rfl rfl (sh_bl i) (sh_bl j)]
  rw [PyData.eqv]
end
end FL
/-! FL13: loops and comprehensions by values; the tape of the laws. -/
namespace FL
open PySem L2

/-! ### loops -/
def QL (N : Env → Sto → Prop) (Q : Out → Sto → Prop) : Out → Sto → Prop := fun o S => match o with
  | .nx e => N e S
  | .ct e => N e S
  | .bk e => Q (.nx e) S
  | .rt d => Q (.rt d) S
@[simp] theorem QL_nx (N : Env → Sto → Prop) (Q : Out → Sto → Prop) (e : Env) (S : Sto) : QL N Q (.nx e) S ↔ N e S := Iff.rfl
@[simp] theorem QL_ct (N : Env → Sto → Prop) (Q : Out → Sto → Prop) (e : Env) (S : Sto) : QL N Q (.ct e) S ↔ N e S := Iff.rfl
@[simp] theorem QL_bk (N : Env → Sto → Prop) (Q : Out → Sto → Prop) (e : Env) (S : Sto) : QL N Q (.bk e) S ↔ Q (.nx e) S := Iff.rfl
@[simp] theorem QL_rt (N : Env → Sto → Prop) (Q : Out → Sto → Prop) (d : D) (S : Sto) : QL N Q (.rt d) S ↔ Q (.rt d) S := Iff.rfl
theorem w_for {fi : FI} {g : FG} {b : FS} {env : Env} {S : Sto} {Q : Out → Sto → Prop} : W (sFor fi g b env S) Q ↔ W (fi env S) fun it S1 => W (forI it g b (it.len + 1) 0 env S1) Q := by unfold sFor; simp
theorem for_inv {it : ItD} {ds : List D} {g : FG} {b : FS} {Q : Out → Sto → Prop} (Inv : Nat → Env → Sto → Prop) (hit : ∀ i env S, Inv i env S → it.it S i = some ds[i]?) (hlen : ds.length ≤ it.len)
    (step : ∀ i d env S, ds[i]? = some d → Inv i env S → W (g d env S) fun e1 S1 => W (b e1 S1) (QL (Inv (i + 1)) Q)) (fin : ∀ env S, Inv ds.length env S → Q (.nx env) S) {env : Env} {S : Sto} (h0 : Inv 0 env S) :
    W (forI it g b (it.len + 1) 0 env S) Q := by
  have key : ∀ (m i : Nat) (env : Env) (S : Sto), ds.length < i + m → i ≤ ds.length → Inv i env S → W (forI it g b m i env S) Q := by
    intro m
    induction m with
    | zero => intro i env S h1 h2; omega
    | succ m ih =>
      intro i env S h1 h2 hI
      unfold forI
      rw [hit i env S hI]
      by_cases hz : i < ds.length
      · rw [List.getElem?_eq_getElem hz]
        simp only [W_th]
        obtain ⟨e1, S1, q1, o, S2, q2, h⟩ := step i _ env S (List.getElem?_eq_getElem hz) hI
        refine ⟨e1, S1, q1, o, S2, q2, ?_⟩
        cases o with
        | nx e => exact ih (i + 1) e S2 (by omega) (by omega) h
        | ct e => exact ih (i + 1) e S2 (by omega) (by omega) h
        | bk e => simpa using h
        | rt d => simpa using h
      · have e : i = ds.length := by omega
        subst e
        rw [List.getElem?_eq_none (Nat.le_refl _)]
        simpa using fin env S hI
  exact key _ 0 env S (by omega) (Nat.zero_le _) h0
/-- a loop over a list that stays -/
theorem for_lst {n : Nat} {ds : List D} {g : FG} {b : FS} {Q : Out → Sto → Prop} (Inv : Nat → Env → Sto → Prop) (hit : ∀ i env S, Inv i env S → getL S n = some ds)
    (step : ∀ i d env S, ds[i]? = some d → Inv i env S → W (g d env S) fun e1 S1 => W (b e1 S1) (QL (Inv (i + 1)) Q)) (fin : ∀ env S, Inv ds.length env S → Q (.nx env) S) {env : Env} {S : Sto} (h0 : Inv 0 env S) :
    W (forI (.lst n ds.length) g b (ds.length + 1) 0 env S) Q :=
  for_inv (it := .lst n ds.length) Inv (fun i env S h => by unfold ItD.lst; simp [hit i env S h]) (Nat.le_refl _) step fin h0
theorem for_fix {ds : List D} {g : FG} {b : FS} {Q : Out → Sto → Prop} (Inv : Nat → Env → Sto → Prop)
    (step : ∀ i d env S, ds[i]? = some d → Inv i env S → W (g d env S) fun e1 S1 => W (b e1 S1) (QL (Inv (i + 1)) Q)) (fin : ∀ env S, Inv ds.length env S → Q (.nx env) S) {env : Env} {S : Sto} (h0 : Inv 0 env S) :
    W (forI (.fix ds) g b (ds.length + 1) 0 env S) Q :=
  for_inv (it := .fix ds) Inv (fun i env S h => rfl) (Nat.le_refl _) step fin h0
theorem rng_len (lo : Int) (n : Nat) : (rngD lo n).length = n := by simp [rngD]
theorem rng_get {lo : Int} {n i : Nat} {d : D} (h : (rngD lo n)[i]? = some d) : d = .int (lo + i) ∧ i < n := by
  have hl := (List.getElem?_eq_some_iff.mp h).1
  rw [rng_len] at hl
  unfold rngD at h
  rw [List.getElem?_map, List.getElem?_range hl] at h
  exact ⟨(Option.some.inj h).symm, hl⟩
/-- a loop over range(a, b) -/
theorem for_rng {lo : Int} {n : Nat} {g : FG} {b : FS} {Q : Out → Sto → Prop} (Inv : Nat → Env → Sto → Prop)
    (step : ∀ i env S, i < n → Inv i env S → W (g (.int (lo + i)) env S) fun e1 S1 => W (b e1 S1) (QL (Inv (i + 1)) Q)) (fin : ∀ env S, Inv n env S → Q (.nx env) S) {env : Env} {S : Sto} (h0 : Inv 0 env S) :
    W (forI (.fix (rngD lo n)) g b ((rngD lo n).length + 1) 0 env S) Q :=
  for_fix Inv (fun i d env S h q => by obtain ⟨rfl, hl⟩ := rng_get h; exact step i env S hl q) (fun env S q => fin env S (by rw [rng_len] at q; exact q)) h0
section
variable {env : Env} {S : Sto} {QI : ItD → Sto → Prop}
theorem w_iseqL {fe : FE} (h : W (fe env S) fun d S1 => ∃ n ds, d = .ref n ∧ getL S1 n = some ds ∧ QI (.lst n ds.length) S1) : W (iSeq fe env S) QI := by
  unfold iSeq
  rw [W_th]
  obtain ⟨d, S1, e, n, ds, rfl, h, q⟩ := h
  refine ⟨_, S1, e, ?_⟩
  unfold getL at h
  simp only
  split at h
  · rename_i e1
    cases h
    simpa [e1] using q
  · rename_i e1
    cases h
    simpa [e1] using q
  · cases h
theorem w_iseqT {fe : FE} (h : W (fe env S) fun d S1 => ∃ ds, d = .tup ds ∧ QI (.fix ds) S1) : W (iSeq fe env S) QI := by
  unfold iSeq
  rw [W_th]
  obtain ⟨d, S1, e, ds, rfl, q⟩ := h
  exact ⟨_, S1, e, by simpa using q⟩
theorem w_rng1 {fr : FA} (h : W (fr env S) fun ds S1 => ∃ j : Int, ds = [.int j] ∧ -4611686018427387904 ≤ j ∧ j < 4611686018427387904 ∧ QI (.fix (rngD 0 j.toNat)) S1) : W (iRng1 fr env S) QI := by
  unfold iRng1
  rw [W_th]
  obtain ⟨d, S1, e, j, rfl, h1, h2, q⟩ := h
  exact ⟨_, S1, e, by simpa [h1, h2] using q⟩
theorem w_rng2 {fr : FA} (h : W (fr env S) fun ds S1 => ∃ i j : Int, ds = [.int i, .int j] ∧ -4611686018427387904 ≤ i ∧ i < 4611686018427387904 ∧ -4611686018427387904 ≤ j ∧ j < 4611686018427387904 ∧ QI (.fix (rngD i (j - i).toNat)) S1) : W (iRng2 fr env S) QI := by
  unfold iRng2
  rw [W_th]
  obtain ⟨d, S1, e, i, j, rfl, h1, h2, h3, h4, q⟩ := h
  exact ⟨_, S1, e, by simpa [h1, h2, h3, h4] using q⟩
end

/-! ### list comprehensions -/
theorem lc_inv {it : ItD} {ds : List D} {g : FG} {tt : FT} {te : FE} {n : Nat} {env : Env} (Inv : Nat → List D → Sto → Prop)
    (hit : ∀ i acc S, Inv i acc S → S[n]? = some (.lst acc) → it.it S i = some ds[i]?) (hlen : ds.length ≤ it.len)
    (step : ∀ i d acc S, ds[i]? = some d → Inv i acc S → S[n]? = some (.lst acc) → W (g d env S) fun e1 S1 => W (tt e1 S1) fun k S2 =>
      if k = true then W (te e1 S2) fun y S3 => S3[n]? = some (.lst acc) ∧ acc.length < cap ∧ Inv (i + 1) (acc ++ [y]) (S3.set n (.lst (acc ++ [y]))) else S2[n]? = some (.lst acc) ∧ Inv (i + 1) acc S2)
    {S : Sto} (h0 : Inv 0 [] S) (hn : S[n]? = some (.lst [])) : ∃ S' acc, lcI it g tt te n env (it.len + 1) 0 S = some S' ∧ S'[n]? = some (.lst acc) ∧ Inv ds.length acc S' := by
  have key : ∀ (m i : Nat) (acc : List D) (S : Sto), ds.length < i + m → i ≤ ds.length → Inv i acc S → S[n]? = some (.lst acc) → ∃ S' acc', lcI it g tt te n env m i S = some S' ∧ S'[n]? = some (.lst acc') ∧ Inv ds.length acc' S' := by
    intro m
    induction m with
    | zero => intro i acc S h1 h2; omega
    | succ m ih =>
      intro i acc S h1 h2 hI hn
      unfold lcI
      rw [hit i acc S hI hn]
      by_cases hz : i < ds.length
      · rw [List.getElem?_eq_getElem hz]
        obtain ⟨e1, S1, q1, k, S2, q2, h⟩ := step i _ acc S (List.getElem?_eq_getElem hz) hI hn
        simp only [q1, th_some, q2]
        cases k with
        | true =>
          rw [if_pos rfl] at h ⊢
          obtain ⟨y, S3, q3, h1', h2', h3'⟩ := h
          simp only [q3, th_some, h1', if_pos h2']
          exact ih (i + 1) _ _ (by omega) (by omega) h3' (set_at h1')
        | false =>
          rw [if_neg Bool.false_ne_true] at h ⊢
          exact ih (i + 1) acc S2 (by omega) (by omega) h.2 h.1
      · have e : i = ds.length := by omega
        subst e
        rw [List.getElem?_eq_none (Nat.le_refl _)]
        exact ⟨S, acc, rfl, hn, hI⟩
  exact key _ 0 [] S (by omega) (Nat.zero_le _) h0 hn
theorem w_lc {fi : FI} {g : FG} {tt : FT} {te : FE} {vs : List Nat} {env : Env} {S : Sto} {Q : D → Sto → Prop}
    (h : W (fi env S) fun it S1 => ∃ S2, lcI it g tt te S1.length (wipeE env vs) (it.len + 1) 0 (S1 ++ [.lst []]) = some S2 ∧ Q (.ref S1.length) S2) : W (eLc fi g tt te vs env S) Q := by
  unfold eLc
  rw [W_th]
  obtain ⟨it, S1, e, S2, e2, q⟩ := h
  refine ⟨it, S1, e, ?_⟩
  simpa [e2] using q
/-- a comprehension whose elements are values of the items -/
theorem w_lcm {fi : FI} {g : FG} {tt : FT} {te : FE} {vs : List Nat} {env : Env} {S : Sto} {Q : D → Sto → Prop} {ds : List D} (v : D → D) (p : D → Bool)
    (hi : W (fi env S) fun it S1 => Ap S S1 ∧ ds.length ≤ it.len ∧ ∀ S2, Ap S1 S2 → ∀ i, it.it S2 i = some ds[i]?)
    (hb : ∀ d ∈ ds, ∀ S2, Ap S S2 → W (g d (wipeE env vs) S2) fun e1 S3 => W (tt e1 S3) fun k S4 => k = p d ∧ Ap S2 S4 ∧ (p d = true → W (te e1 S4) fun y S5 => y = v d ∧ Ap S4 S5))
    (hl : ds.length ≤ cap)
    (hq : ∀ n S', Ap S S' → S.length ≤ n → S'[n]? = some (.lst ((ds.filter p).map v)) → Q (.ref n) S') : W (eLc fi g tt te vs env S) Q := by
  refine w_lc ?_
  obtain ⟨it, S1, e, a1, hlen, hit⟩ := hi
  refine ⟨it, S1, e, ?_⟩
  refine Exists.elim (lc_inv (it := it) (ds := ds) (g := g) (tt := tt) (te := te) (n := S1.length) (env := wipeE env vs) (S := S1 ++ [.lst []]) (fun i acc S' => Ap S1 S' ∧ acc = ((ds.take i).filter p).map v ∧ acc.length ≤ i)
    (fun i acc S' h _ => hit S' h.1 i) hlen (fun i d acc S' hd hI hn => ?_) ⟨Ap.app _ _, rfl, Nat.le_refl _⟩ (new_at _ _)) (fun S2 hh => ?_)
  · obtain ⟨aS, ea, la⟩ := hI
    have hi' := (List.getElem?_eq_some_iff.mp hd).1
    obtain ⟨e1, S3, q1, k, S4, q2, rfl, a4, h⟩ := hb d (List.mem_of_getElem? hd) S' (a1.trans aS)
    refine ⟨e1, S3, q1, _, S4, q2, ?_⟩
    have tk : ds.take (i + 1) = ds.take i ++ [d] := by rw [List.take_add_one, hd]; rfl
    cases hp : p d with
    | true =>
      refine iteT ?_
      obtain ⟨y, S5, q3, rfl, a5⟩ := h hp
      refine ⟨_, S5, q3, a5 _ _ (a4 _ _ hn), by omega, (aS.trans (a4.trans a5)).set (Nat.le_refl _), ?_, by simp; omega⟩
      rw [tk, List.filter_append, List.map_append, ea]
      simp [hp]
    | false =>
      refine iteF ?_
      refine ⟨a4 _ _ hn, aS.trans a4, ?_, by omega⟩
      rw [tk, List.filter_append, List.map_append, ea]
      simp [hp]
  · obtain ⟨acc, e2, e3, a2, e4, _⟩ := hh
    rw [List.take_length] at e4
    rw [e4] at e3
    exact ⟨S2, e2, hq _ _ (a1.trans a2) a1.len e3⟩
theorem filter_yes {α : Type} (ds : List α) : ds.filter (fun _ => true) = ds := List.filter_eq_self.mpr fun _ _ => rfl
@[simp] theorem w_yes {env : Env} {S : Sto} {QT : Bool → Sto → Prop} : W (tYs env S) QT ↔ QT true S := W_some ..

/-! ### the tape -/
def tapeKV (m : Nat) (a l s t : Int) : List (Key × D) := [(.inr "cells", .ref m), (.inr "at", .int a), (.inr "left", .int l), (.inr "seed", .int s), (.inr "salt", .int t)]
def Tape (S : Sto) (n m : Nat) : Prop := ∃ (cells : List Int) (a l s t : Int), S[n]? = some (.dic (tapeKV m a l s t)) ∧ S[m]? = some (.lst (cells.map D.int)) ∧ (∀ x ∈ cells, 0 ≤ x) ∧ 0 ≤ a ∧ 0 ≤ l ∧ 0 ≤ s ∧ s < 2147483647 ∧ 0 ≤ t
theorem Tape.ap {S S' : Sto} {n m : Nat} (h : Tape S n m) (a : Ap S S') : Tape S' n m := by
  obtain ⟨cells, x1, x2, x3, x4, h1, h2, h3⟩ := h
  exact ⟨cells, x1, x2, x3, x4, a _ _ h1, a _ _ h2, h3⟩
theorem Tape.lt {S : Sto} {n m : Nat} (h : Tape S n m) : n < S.length := by
  obtain ⟨cells, x1, x2, x3, x4, h1, _⟩ := h
  exact lt_of_at h1
theorem Tape.ltm {S : Sto} {n m : Nat} (h : Tape S n m) : m < S.length := by
  obtain ⟨cells, x1, x2, x3, x4, h1, h2, _⟩ := h
  exact lt_of_at h2
theorem Tape.ne {S : Sto} {n m q : Nat} {ds : List D} (h : Tape S n m) (g : S[q]? = some (.lst ds)) : q ≠ n := fun e => by
  obtain ⟨cells, x1, x2, x3, x4, h1, _⟩ := h
  rw [e, h1] at g
  cases g
theorem Tape.set {S : Sto} {n m q : Nat} {o : O} (h : Tape S n m) (h1 : q ≠ n) (h2 : q ≠ m) : Tape (S.set q o) n m := by
  obtain ⟨cells, x1, x2, x3, x4, g1, g2, h3⟩ := h
  exact ⟨cells, x1, x2, x3, x4, by rw [List.getElem?_set_ne h1]; exact g1, by rw [List.getElem?_set_ne h2]; exact g2, h3⟩
theorem Kn.setO {n q : Nat} {S S1 : Sto} {o : O} (h : Kn n S S1) (hq : S.length ≤ q) : Kn n S (S1.set q o) := fun m o' z e => by
  have := (List.getElem?_eq_some_iff.mp e).1
  rw [List.getElem?_set_ne (by omega)]
  exact h m o' z e
theorem v_cells (m : Nat) (a l s t : Int) : valG (tapeKV m a l s t) (.inr "cells") = some (.ref m) := by rfl
theorem v_at (m : Nat) (a l s t : Int) : valG (tapeKV m a l s t) (.inr "at") = some (.int a) := by rfl
theorem v_left (m : Nat) (a l s t : Int) : valG (tapeKV m a l s t) (.inr "left") = some (.int l) := by rfl
theorem v_seed (m : Nat) (a l s t : Int) : valG (tapeKV m a l s t) (.inr "seed") = some (.int s) := by rfl
theorem v_salt (m : Nat) (a l s t : Int) : valG (tapeKV m a l s t) (.inr "salt") = some (.int t) := by rfl
theorem p_at (m : Nat) (a l s t x : Int) : putG (tapeKV m a l s t) (.inr "at") (.int x) = tapeKV m x l s t := by rfl
theorem p_left (m : Nat) (a l s t x : Int) : putG (tapeKV m a l s t) (.inr "left") (.int x) = tapeKV m a x s t := by rfl
theorem p_salt (m : Nat) (a l s t x : Int) : putG (tapeKV m a l s t) (.inr "salt") (.int x) = tapeKV m a l s x := by rfl
theorem tyDic {n : Nat} {kvs : List (Key × D)} {S : Sto} (h : S[n]? = some (.dic kvs)) : getL S n = none := by unfold getL; rw [h]
theorem w_setS {n : Nat} {kvs : List (Key × D)} {S : Sto} {env : Env} {fo : FE} {x : Str} {d : D} {QE : Env → Sto → Prop} (ho : fo env S = some (.ref n, S)) (h : S[n]? = some (.dic kvs)) (hz : kvs.length < cap) : W (gIx fo (eC (.str x)) d env S) QE ↔ QE env (S.set n (.dic (putG kvs (.inr x) d))) := by
  unfold gIx
  rw [ho]
  simp [eC, h, keyD, hz]
def b_take : FS := sSeq (sIf (tAnd (tB (eBin oEq (eBin oIx (eVar 0) (eC (.str "left"))) (eC (.int 0)))) (tB (eBin oLt (eBin oIx (eVar 0) (eC (.str "at"))) (eCall fLen (aCons (eBin oIx (eVar 0) (eC (.str "cells"))) (aNil)))))) (sSeq (sAsg (eBin oIx (eBin oIx (eVar 0) (eC (.str "cells"))) (eBin oIx (eVar 0) (eC (.str "at")))) (gIx (eVar 0) (eC (.str "left")))) (sAsg (eBin oAdd (eBin oIx (eVar 0) (eC (.str "at"))) (eC (.int 1))) (gIx (eVar 0) (eC (.str "at"))))) (sNil)) (sSeq (sIf (tB (eBin oGt (eBin oIx (eVar 0) (eC (.str "left"))) (eC (.int 0)))) (sSeq (sAsg (eBin oMod (eCall fInt (aCons (eBin oIx (eVar 0) (eC (.str "left"))) (aNil))) (eVar 1)) (gNm 2)) (sSeq (sAsg (eBin oDiv (eBin oIx (eVar 0) (eC (.str "left"))) (eVar 1)) (gIx (eVar 0) (eC (.str "left")))) (sRet (eVar 2)))) (sNil)) (sSeq (sAsg (eBin oAdd (eBin oIx (eVar 0) (eC (.str "salt"))) (eC (.int 1))) (gIx (eVar 0) (eC (.str "salt")))) (sSeq (sAsg (eBin oMod (eCall fInt (aCons (eBin oAdd (eBin oMul (eBin oIx (eVar 0) (eC (.str "seed"))) (eC (.int 48271))) (eBin oMul (eBin oIx (eVar 0) (eC (.str "salt"))) (eC (.int 69621)))) (aNil))) (eC (.int 2147483647))) (gNm 3)) (sSeq (sAsg (eBin oMod (eCall fInt (aCons (eBin oAdd (eBin oAdd (eBin oMul (eVar 3) (eVar 3)) (eBin oMul (eBin oIx (eVar 0) (eC (.str "salt"))) (eC (.int 40692)))) (eC (.int 12345))) (aNil))) (eC (.int 2147483399))) (gNm 3)) (sRet (eBin oMod (eCall fInt (aCons (eVar 3) (aNil))) (eVar 1)))))))
def f_take : FF := fnF 4 2 b_take
theorem getL_dic {n : Nat} {kvs : List (Key × D)} {S : Sto} (h : S[n]? = some (.dic kvs)) : getL S n = none := by unfold getL; rw [h]
theorem tk_small (m : Nat) (a l s t : Int) : (tapeKV m a l s t).length < cap := by show 5 < 10000000; decide
theorem set_same {S : Sto} {n : Nat} {o : O} (h : S[n]? = some o) : S.set n o = S := by
  apply List.ext_getElem?
  intro i
  by_cases e : n = i
  · subst e
    rw [set_at h, h]
  · rw [List.getElem?_set_ne e]
abbrev e4 (n : Nat) (k : Int) (x y : Option D) : Env := [some (.ref n), some (.int k), x, y]
section
variable {S : Sto} {n m : Nat} {k a l s t : Int} {x y : Option D} {Q : D → Sto → Prop}
theorem w_v0 : W (eVar 0 (e4 n k x y) S) Q ↔ Q (.ref n) S := w_var rfl
theorem w_v1 : W (eVar 1 (e4 n k x y) S) Q ↔ Q (.int k) S := w_var rfl
theorem w_v2 {d : D} : W (eVar 2 (e4 n k (some d) y) S) Q ↔ Q d S := w_var rfl
theorem w_v3 {d : D} : W (eVar 3 (e4 n k x (some d)) S) Q ↔ Q d S := w_var rfl
theorem w_tg {z : Str} {d : D} {QE : Env → Sto → Prop} (h : S[n]? = some (.dic (tapeKV m a l s t))) : W (gIx (eVar 0) (eC (.str z)) d (e4 n k x y) S) QE ↔ QE (e4 n k x y) (S.set n (.dic (putG (tapeKV m a l s t) (.inr z) d))) := w_setS rfl h (tk_small ..)
end
/-- a number below k is taken from the tape -/
theorem take_ok {S : Sto} {n m : Nat} {k : Int} (hT : Tape S n m) (hk : 0 < k) (hk2 : k < 18446744073709551616) : W (f_take [.ref n, .int k] S) fun d S' => ∃ r, d = .int r ∧ 0 ≤ r ∧ r < k ∧ Kn n S S' ∧ Tape S' n m ∧ S'.length = S.length := by
  obtain ⟨cells, a, l, s, t, h1, h2, hc, ha, hl, hs0, hs1, ht⟩ := hT
  have hmn : m ≠ n := fun e => by rw [e, h1] at h2; cases h2
  refine w_fn rfl ?_
  show W (b_take (e4 n k none none) S) _
  unfold b_take
  rw [w_seq]
  have first : ∀ Q : Out → Sto → Prop, (∀ a l, 0 ≤ a → 0 ≤ l → Q (.nx (e4 n k none none)) (S.set n (.dic (tapeKV m a l s t)))) →
      W (sIf (tAnd (tB (eBin oEq (eBin oIx (eVar 0) (eC (.str "left"))) (eC (.int 0)))) (tB (eBin oLt (eBin oIx (eVar 0) (eC (.str "at"))) (eCall fLen (aCons (eBin oIx (eVar 0) (eC (.str "cells"))) (aNil)))))) (sSeq (sAsg (eBin oIx (eBin oIx (eVar 0) (eC (.str "cells"))) (eBin oIx (eVar 0) (eC (.str "at")))) (gIx (eVar 0) (eC (.str "left")))) (sAsg (eBin oAdd (eBin oIx (eVar 0) (eC (.str "at"))) (eC (.int 1))) (gIx (eVar 0) (eC (.str "at"))))) (sNil) (e4 n k none none) S) Q := by
    intro Q hQ
    have same : Q (.nx (e4 n k none none)) S := by
      have := hQ a l ha hl
      rw [set_same h1] at this
      exact this
    simp only [w_sif, w_tAnd, w_tB, w_bin, w_v0, w_c, w_ixDs h1 (v_left m a l s t), w_eqI, D.bl.injEq, exists_eq_left']
    by_cases e : l = 0
    · simp only [e, decide_true, if_true, w_ixDs h1 (v_at m a l s t), w_ixDs h1 (v_cells m a l s t), w_call, w_acons, w_anil, w_bin, w_v0, w_c, w_tB, w_len (getL_of h2), w_lt, D.bl.injEq, exists_eq_left', List.length_map]
      by_cases e2 : a < cells.length
      · obtain ⟨j, rfl⟩ : ∃ j : Nat, a = j := ⟨a.toNat, by omega⟩
        have hj : j < cells.length := by omega
        have e3 : (cells.map D.int)[j]? = some (.int cells[j]) := by rw [List.getElem?_map, List.getElem?_eq_getElem hj]; rfl
        have h1' := set_at (o' := .dic (tapeKV m j cells[j] s t)) h1
        simp only [e2, decide_true, if_true, w_seq, w_asg, w_bin, w_v0, w_c, w_ixDs h1 (v_at m j l s t), w_ixDs h1 (v_cells m j l s t), w_ixL (getL_of h2) (atI_nat e3), w_tg h1, p_left, QS_nx, w_ixDs h1' (v_at m j cells[j] s t), w_add, w_tg h1', p_at, List.set_set]
        exact hQ _ _ (by omega) (hc _ (List.getElem_mem hj))
      · simpa [e2] using same
    · simpa [e] using same
  refine first _ fun a l ha ha0 => ?_
  clear first
  have h1' := set_at (o' := .dic (tapeKV m a l s t)) h1
  have h2' : (S.set n (.dic (tapeKV m a l s t)))[m]? = some (.lst (cells.map D.int)) := by rw [List.getElem?_set_ne hmn.symm]; exact h2
  have kn := Kn.set n S (.dic (tapeKV m a l s t))
  have ln : (S.set n (.dic (tapeKV m a l s t))).length = S.length := List.length_set
  generalize S.set n (.dic (tapeKV m a l s t)) = S1 at h1' h2' kn ln
  have fin : ∀ (l t : Int), 0 ≤ l → 0 ≤ t → Kn n S (S1.set n (.dic (tapeKV m a l s t))) ∧ Tape (S1.set n (.dic (tapeKV m a l s t))) n m ∧ (S1.set n (.dic (tapeKV m a l s t))).length = S.length := by
    intro l t q3 q4
    refine ⟨kn.trans (Kn.set _ _ _), ⟨cells, a, l, s, t, set_at h1', by rw [List.getElem?_set_ne hmn.symm]; exact h2', hc, ha, q3, hs0, hs1, q4⟩, by rw [List.length_set, ln]⟩
  have md : ∀ x : Int, 0 ≤ x % k ∧ x % k < k := fun x => ⟨Int.emod_nonneg _ (by omega), Int.emod_lt_of_pos _ hk⟩
  simp only [QS_nx, w_seq, w_sif, w_tB, w_bin, w_v0, w_v1, w_c, w_ixDs h1' (v_left m a l s t), w_gt, D.bl.injEq, exists_eq_left']
  by_cases e : 0 < l
  · have h3 := set_at (o' := .dic (tapeKV m a (l / k) s t)) h1'
    simp only [e, decide_true, if_true, w_seq, w_asg, w_bin, w_call, w_acons, w_anil, w_v0, w_v1, w_c, w_ixDs h1' (v_left m a l s t), w_int, w_mod hk, w_gnm, QS_nx, List.set_cons_succ, List.set_cons_zero, w_div hk hk2]
    rw [w_tg h1', p_left]
    simp only [QS_nx, w_ret, w_v2, QS_rt, QF_rt]
    obtain ⟨f1, f2, f3⟩ := fin (l / k) t (Int.ediv_nonneg ha0 (by omega)) ht
    exact ⟨_, rfl, (md l).1, (md l).2, f1, f2, f3⟩
  · have h3 := set_at (o' := .dic (tapeKV m a l s (t + 1))) h1'
    have ok1 : okMul s 48271 = true := okMul_r (by decide) (by decide)
    have ok2 : okMul (t + 1) 69621 = true := okMul_r (by decide) (by decide)
    have ok3 : okMul (t + 1) 40692 = true := okMul_r (by decide) (by decide)
    have ok4 : okMul ((s * 48271 + (t + 1) * 69621) % 2147483647) ((s * 48271 + (t + 1) * 69621) % 2147483647) = true := by
      have q1 := Int.emod_nonneg (s * 48271 + (t + 1) * 69621) (show (2147483647 : Int) ≠ 0 by decide)
      have q2 := Int.emod_lt_of_pos (s * 48271 + (t + 1) * 69621) (show (0 : Int) < 2147483647 by decide)
      exact okMul_l (by omega) (by omega)
    simp only [e, decide_false, Bool.false_eq_true, if_false, w_nil, QS_nx, w_seq, w_asg, w_bin, w_v0, w_c, w_ixDs h1' (v_salt m a l s t), w_add]
    rw [w_tg h1', p_salt]
    simp only [QS_nx, w_seq, w_asg, w_bin, w_call, w_acons, w_anil, w_v0, w_v1, w_v3, w_c, w_ixDs h3 (v_salt m a l s (t + 1)), w_ixDs h3 (v_seed m a l s (t + 1)), w_mul ok1, w_mul ok2, w_mul ok3, w_add, w_int, w_mod (show (0 : Int) < 2147483647 by decide), w_mod (show (0 : Int) < 2147483399 by decide), w_gnm, List.set_cons_succ, List.set_cons_zero, w_mul ok4, w_ret, w_mod hk, QF_rt, QS_rt]
    obtain ⟨f1, f2, f3⟩ := fin l (t + 1) ha0 (by omega)
    exact ⟨_, rfl, (md _).1, (md _).2, f1, f2, f3⟩
end FL
/-! FL14: the tape is made. -/
namespace FL
open PySem L2
theorem w_dic {fr : FA} {env : Env} {S : Sto} {Q : D → Sto → Prop} (h : W (fr env (S ++ [.dic []])) fun ds S1 => S1[S.length]? = some (.dic []) ∧ ∃ ps, pairD ds = some ps ∧ ps.length ≤ 15 ∧ Q (.ref S.length) (S1.set S.length (.dic (mergeG [] ps)))) : W (eDic fr env S) Q := by
  unfold eDic
  rw [W_th]
  obtain ⟨ds, S1, e, h1, ps, h2, h3, q⟩ := h
  refine ⟨ds, S1, e, ?_⟩
  simpa [h1, h2, h3] using q
def b_tape : FS := sSeq (sAsg (eLc (iSeq (eVar 0)) (gNm 3) (tYs) (eCall fAbs (aCons (eCall fInt (aCons (eVar 3) (aNil))) (aNil))) [3]) (gNm 1)) (sSeq (sAsg (eC (.int 7)) (gNm 2)) (sSeq (sFor (iSeq (eVar 1)) (gNm 3) (sAsg (eBin oMod (eCall fInt (aCons (eBin oAdd (eBin oMul (eVar 2) (eC (.int 31))) (eVar 3)) (aNil))) (eC (.int 2147483647))) (gNm 2))) (sRet (eDic (aPairs [(eC (.str "cells"), eVar 1), (eC (.str "at"), eC (.int 0)), (eC (.str "left"), eC (.int 0)), (eC (.str "seed"), eVar 2), (eC (.str "salt"), eC (.int 0))])))))
def f_tape : FF := fnF 4 1 b_tape
def absI (i : Int) : Int := if i < 0 then -i else i
theorem absI_nn (i : Int) : 0 ≤ absI i := by unfold absI; split <;> omega
theorem tape_ok {ns : List Int} (hl : ns.length ≤ 63) : W (f_tape [.ref 0] [.ro (ns.map D.int)]) fun d S' => ∃ n m, d = .ref n ∧ Tape S' n m := by
  have g0 : getL [.ro (ns.map D.int)] 0 = some (ns.map D.int) := getL_ro rfl
  refine w_fn rfl ?_
  show W (b_tape [some (.ref 0), none, none, none] _) _
  unfold b_tape
  simp only [w_seq, w_asg]
  refine w_lcm (ds := ns.map D.int) (fun d => match d with | .int i => .int (absI i) | d => d) (fun _ => true) ?_ ?_ (by simp [cap]; omega) ?_
  · refine w_iseqL ((w_var rfl).mpr ⟨0, _, rfl, g0, Ap.refl _, Nat.le_refl _, fun S2 a i => ?_⟩)
    unfold ItD.lst
    simp [getL_ap g0 a]
  · intro d hd S2 a
    obtain ⟨i, _, rfl⟩ := List.mem_map.mp hd
    simp only [w_gnm, w_yes, w_call, w_acons, w_anil, wipeE, List.set_cons_succ, List.set_cons_zero]
    refine ⟨trivial, Ap.refl _, fun _ => ?_⟩
    refine (w_var rfl).mpr ?_
    simp only [w_int, w_abs]
    exact ⟨rfl, Ap.refl _⟩
  · intro n S1 a1 ln g1
    rw [filter_yes, List.map_map] at g1
    have g1 : S1[n]? = some (.lst ((ns.map absI).map D.int)) := by
      rw [g1, List.map_map]
      rfl
    simp only [w_gnm, List.set_cons_succ, List.set_cons_zero, QS_nx, w_seq, w_asg, w_c]
    rw [w_for]
    refine w_iseqL ((w_var rfl).mpr ⟨n, _, rfl, getL_of g1, ?_⟩)
    refine for_lst (n := n) (ds := (ns.map absI).map D.int) (fun i env S => ∃ (s : Int) (y : Option D), env = [some (.ref 0), some (.ref n), some (.int s), y] ∧ 0 ≤ s ∧ s < 2147483647 ∧ S = S1) (fun i env S ⟨_, _, _, _, _, e⟩ => by rw [e]; exact getL_of g1) ?_ ?_ ⟨7, none, rfl, by decide, by decide, rfl⟩
    · rintro i d env S hd ⟨s, y, rfl, h1, h2, rfl⟩
      obtain ⟨z, _, rfl⟩ := List.mem_map.mp (List.mem_of_getElem? hd)
      simp only [w_gnm, List.set_cons_succ, List.set_cons_zero, w_asg, w_bin, w_call, w_acons, w_anil]
      refine (w_var rfl).mpr ?_
      rw [w_c, w_mul (okMul_r (by decide) (by decide))]
      refine (w_var rfl).mpr ?_
      simp only [w_add, w_int, w_c, w_mod (show (0 : Int) < 2147483647 by decide), w_gnm, List.set_cons_succ, List.set_cons_zero, QL_nx]
      exact ⟨_, _, rfl, Int.emod_nonneg _ (by decide), Int.emod_lt_of_pos _ (by decide), trivial⟩
    · rintro env S ⟨s, y, rfl, h1, h2, rfl⟩
      rw [QS_nx, w_ret]
      refine w_dic ?_
      unfold aPairs aPairs aPairs aPairs aPairs aPairs
      simp only [w_acons, w_anil, w_c]
      refine (w_var rfl).mpr ?_
      refine (w_var rfl).mpr ?_
      have ne : n ≠ S.length := by
        have := lt_of_at g1
        omega
      refine ⟨new_at _ _, _, rfl, (by show 5 ≤ 15; decide), ?_⟩
      rw [QF_rt]
      refine ⟨S.length, n, rfl, ns.map absI, 0, 0, s, 0, set_at (new_at _ _), ?_, ?_, by decide, by decide, h1, h2, by decide⟩
      · rw [List.getElem?_set_ne ne.symm, List.getElem?_append_left (lt_of_at g1)]
        exact g1
      · intro x hx
        obtain ⟨z, _, rfl⟩ := List.mem_map.mp hx
        exact absI_nn z
end FL
/-! FL15: more of the values: slots, while, lists of optional numbers. -/
namespace FL
open PySem L2
section
variable {env : Env} {S : Sto} {Q : D → Sto → Prop} {QS' : Out → Sto → Prop} {QA : List D → Sto → Prop} {QT : Bool → Sto → Prop} {QE : Env → Sto → Prop}
theorem w_ev (i : Nat) : W (eVar i env S) Q ↔ match env[i]? with
    | some (some d) => Q d S
    | _ => False := by
  unfold eVar
  cases h : env[i]? with
  | none => simp
  | some x => cases x <;> simp
theorem w_gtp2 (gs : FGs) (a b : D) : W (gTp 2 gs (.tup [a, b]) env S) QE ↔ W (gs [a, b] env S) QE := w_gtp rfl
theorem w_gtp3 (gs : FGs) (a b c : D) : W (gTp 3 gs (.tup [a, b, c]) env S) QE ↔ W (gs [a, b, c] env S) QE := w_gtp rfl
theorem w_gtp2p (gs : FGs) (a b : D) : W (gTp 2 gs (.pr [a, b]) env S) QE ↔ W (gs [a, b] env S) QE := w_gtpp rfl
theorem w_ixT0 (a : D) (r : List D) : W (oIx (.tup (a :: r)) (.int 0) S) Q ↔ Q a S := w_ixT (atI_nat (k := 0) rfl)
theorem w_ixT1 (a b : D) (r : List D) : W (oIx (.tup (a :: b :: r)) (.int 1) S) Q ↔ Q b S := w_ixT (atI_nat (k := 1) rfl)
theorem w_ixT2 (a b c : D) (r : List D) : W (oIx (.tup (a :: b :: c :: r)) (.int 2) S) Q ↔ Q c S := w_ixT (atI_nat (k := 2) rfl)
theorem w_ch (fa : FE) (t : FC2) : W (eCh fa t env S) Q ↔ W (fa env S) fun x S1 => W (t x env S1) Q := by unfold eCh; simp
theorem w_chL (r : F2) (fb : FE) (x : D) : W (chL r fb x env S) Q ↔ W (fb env S) fun y S1 => W (r x y S1) Q := by unfold chL; simp
theorem w_chK (r : F2) (fb : FE) (t : FC2) (x : D) : W (chK r fb t x env S) Q ↔ W (fb env S) fun y S1 => W (r x y S1) fun k S2 => match k with
    | .bl b => if b = true then W (t y env S2) Q else Q (.bl false) S2
    | _ => False := by
  unfold chK
  rw [W_th]
  have key : ∀ (y : D) (S1 : Sto), W (th (r x y S1) fun k S2 => match k with
      | .bl true => t y env S2
      | .bl false => some (.bl false, S2)
      | _ => none) Q ↔ W (r x y S1) fun k S2 => match k with
      | .bl b => if b = true then W (t y env S2) Q else Q (.bl false) S2
      | _ => False := by
    intro y S1
    rw [W_th]
    constructor <;>
    · rintro ⟨k, S2, e, h⟩
      refine ⟨k, S2, e, ?_⟩
      cases k with
      | bl b => cases b <;> simpa using h
      | _ => simp at h
  constructor
  · rintro ⟨y, S1, e, h⟩
    exact ⟨y, S1, e, (key y S1).mp h⟩
  · rintro ⟨y, S1, e, h⟩
    exact ⟨y, S1, e, (key y S1).mpr h⟩
theorem w_par2 (i j : Nat) (fr : FA) : W (sPar [i, j] fr env S) QS' ↔ W (fr env S) fun ds S1 => match ds with
    | [a, b] => QS' (.nx ((env.set i (some a)).set j (some b))) S1
    | _ => False := by
  rw [w_par]
  constructor
  · rintro ⟨ds, S1, e, h, q⟩
    match ds, h, q with
    | [a, b], _, q => exact ⟨_, S1, e, q⟩
  · rintro ⟨ds, S1, e, h⟩
    refine ⟨ds, S1, e, ?_⟩
    match ds, h with
    | [a, b], q => exact ⟨rfl, q⟩
theorem w_par3 (i j l : Nat) (fr : FA) : W (sPar [i, j, l] fr env S) QS' ↔ W (fr env S) fun ds S1 => match ds with
    | [a, b, c] => QS' (.nx (((env.set i (some a)).set j (some b)).set l (some c))) S1
    | _ => False := by
  rw [w_par]
  constructor
  · rintro ⟨ds, S1, e, h, q⟩
    match ds, h, q with
    | [a, b, c], _, q => exact ⟨_, S1, e, q⟩
  · rintro ⟨ds, S1, e, h⟩
    refine ⟨ds, S1, e, ?_⟩
    match ds, h with
    | [a, b, c], q => exact ⟨rfl, q⟩
theorem w_app {n : Nat} {us : List D} {d : D} (h : S[n]? = some (.lst us)) (hz : us.length < cap) : W (mAppend (.ref n) [d] S) Q ↔ Q .non (S.set n (.lst (us ++ [d]))) := by
  unfold mAppend
  simp [h, hz]
theorem w_popI {n k : Nat} {us : List D} {d : D} (h : S[n]? = some (.lst us)) (hk : us[k]? = some d) (hz : k < 1000000) : W (mPop (.ref n) [.int k] S) Q ↔ Q d (S.set n (.lst (us.eraseIdx k))) := by
  have hl := (List.getElem?_eq_some_iff.mp hk).1
  have e : seqIndex? (k : Int) us.length = some k := by
    have := ixN_seq (n := us.length) (i := k) (j := k) (by unfold ixN; rw [if_pos (by omega), if_pos (by omega)]; simp)
    exact this.1
  unfold mPop
  have z1 : (-1000000 : Int) ≤ (k : Int) := by omega
  have z2 : (k : Int) < 1000000 := by omega
  simp [h, e, hk, z1, z2]
theorem w_cat {n m : Nat} {xs ys : List D} (h1 : S[n]? = some (.lst xs)) (h2 : S[m]? = some (.lst ys)) (hz : xs.length + ys.length ≤ cap) : W (oAdd (.ref n) (.ref m) S) Q ↔ W (some (D.ref S.length, S ++ [.lst (xs ++ ys)])) Q := by
  unfold oAdd
  simp only [h1, h2, hz, if_true]
/-- optional numbers -/
def od : Option Int → D
  | none => .non
  | some i => .int i
theorem inD_od : ∀ xs : List (Option Int), inD .non (xs.map od) = decide (none ∈ xs)
  | [] => rfl
  | none :: xs => by simp [inD, od, eqD]
  | some i :: xs => by
    have := inD_od xs
    unfold inD at this ⊢
    rw [List.map_cons, List.any_cons, this]
    simp [od, eqD]
theorem flat_od (xs : List (Option Int)) : (xs.map od).all flatD = true := by
  rw [List.all_eq_true]
  intro d hd
  obtain ⟨x, _, rfl⟩ := List.mem_map.mp hd
  cases x <;> rfl
theorem w_inN {n : Nat} {xs : List (Option Int)} (h : getL S n = some (xs.map od)) : W (oIn .non (.ref n) S) Q ↔ Q (.bl (decide (none ∈ xs))) S := by
  have e : oInB .non (.ref n) S = some (decide (none ∈ xs)) := by
    unfold oInB
    simp only [h]
    rw [if_pos (by rw [flat_od]; rfl), inD_od]
  unfold oIn
  rw [e]
  simp
theorem w_ninN {n : Nat} {xs : List (Option Int)} (h : getL S n = some (xs.map od)) : W (oNotIn .non (.ref n) S) Q ↔ Q (.bl (!decide (none ∈ xs))) S := by
  have e : oInB .non (.ref n) S = some (decide (none ∈ xs)) := by
    unfold oInB
    simp only [h]
    rw [if_pos (by rw [flat_od]; rfl), inD_od]
  unfold oNotIn
  rw [e]
  simp
def odP : Option Int → PyData
  | none => .none
  | some i => .int i
theorem odPs : ∀ xs : List (Option Int), dPys (xs.map od) = xs.map odP
  | [] => rfl
  | x :: xs => by
    show dPy (od x) :: dPys (xs.map od) = _
    rw [odPs xs]
    cases x <;> rfl
theorem od_nr : ∀ xs : List (Option Int), noRefs (xs.map od) = true
  | [] => rfl
  | x :: xs => by
    show (noRef (od x) && noRefs (xs.map od)) = true
    rw [od_nr xs]
    cases x <;> rfl
theorem toPy_od {n : Nat} {xs : List (Option Int)} (h : getL S n = some (xs.map od)) : toPy S (.ref n) = some (.list (xs.map odP)) := by
  rw [toPy_lst h (od_nr xs), odPs]
theorem sh_od (xs : List (Option Int)) : Sh (.list (xs.map odP)) := sh_list fun p hp => by
  obtain ⟨x, _, rfl⟩ := List.mem_map.mp hp
  cases x
  · exact ⟨sh_non.1, Nat.le_trans (Nat.le_of_eq (show PyData.depth .none = 0 by simp [PyData.depth])) (by decide)⟩
  · exact ⟨(sh_int _).1, Nat.le_trans (Nat.le_of_eq (show PyData.depth (.int _) = 0 by simp [PyData.depth])) (by decide)⟩
theorem sh_odP (x : Option Int) : Sh (odP x) := by
  cases x
  · exact sh_non
  · exact sh_int _
theorem toPy_odP (x : Option Int) : toPy S (od x) = some (odP x) := by cases x <;> rfl
/-- a comprehension without tests, element by element -/
theorem w_lcg {fi : FI} {g : FG} {tt : FT} {te : FE} {vs : List Nat} {ds : List D} (v : Nat → D)
    (hi : W (fi env S) fun it S1 => Ap S S1 ∧ ds.length ≤ it.len ∧ ∀ S2, Ap S1 S2 → ∀ i, it.it S2 i = some ds[i]?)
    (hb : ∀ i d, ds[i]? = some d → ∀ S2, Ap S S2 → W (g d (wipeE env vs) S2) fun e1 S3 => W (tt e1 S3) fun k S4 => k = true ∧ Ap S2 S4 ∧ W (te e1 S4) fun y S5 => y = v i ∧ Ap S4 S5)
    (hl : ds.length ≤ cap)
    (hq : ∀ n S', Ap S S' → S.length ≤ n → S'[n]? = some (.lst ((List.range ds.length).map v)) → Q (.ref n) S') : W (eLc fi g tt te vs env S) Q := by
  refine w_lc ?_
  obtain ⟨it, S1, e, a1, hlen, hit⟩ := hi
  refine ⟨it, S1, e, ?_⟩
  refine Exists.elim (lc_inv (it := it) (ds := ds) (g := g) (tt := tt) (te := te) (n := S1.length) (env := wipeE env vs) (S := S1 ++ [.lst []]) (fun i acc S' => Ap S1 S' ∧ acc = (List.range i).map v)
    (fun i acc S' h _ => hit S' h.1 i) hlen (fun i d acc S' hd hI hn => ?_) ⟨Ap.app _ _, rfl⟩ (new_at _ _)) (fun S2 hh => ?_)
  · obtain ⟨aS, ea⟩ := hI
    have hi' := (List.getElem?_eq_some_iff.mp hd).1
    obtain ⟨e1, S3, q1, k, S4, q2, rfl, a4, h⟩ := hb i d hd S' (a1.trans aS)
    refine ⟨e1, S3, q1, _, S4, q2, ?_⟩
    refine iteT ?_
    obtain ⟨y, S5, q3, rfl, a5⟩ := h
    refine ⟨_, S5, q3, a5 _ _ (a4 _ _ hn), by rw [ea]; simp; omega, (aS.trans (a4.trans a5)).set (Nat.le_refl _), ?_⟩
    rw [ea, List.range_succ, List.map_append]
    rfl
  · obtain ⟨acc, e2, e3, a2, e4⟩ := hh
    rw [e4] at e3
    exact ⟨S2, e2, hq _ _ (a1.trans a2) a1.len e3⟩
theorem range_map {α : Type} (xs : List α) (w : α → D) (v : Nat → D) (h : ∀ i x, xs[i]? = some x → v i = w x) : (List.range xs.length).map v = xs.map w := by
  apply List.ext_getElem?
  intro i
  rw [List.getElem?_map, List.getElem?_map]
  by_cases hi : i < xs.length
  · rw [List.getElem?_range hi, List.getElem?_eq_getElem hi]
    exact congrArg some (h i _ (List.getElem?_eq_getElem hi))
  · rw [List.getElem?_eq_none (by simpa using hi), List.getElem?_eq_none (by omega)]
    rfl
/-- over a list that stands for xs -/
theorem w_lcx {α : Type} {f : α → D} {xs : List α} {fi : FI} {g : FG} {tt : FT} {te : FE} {vs : List Nat} (v : α → D)
    (hi : W (fi env S) fun it S1 => Ap S S1 ∧ ∃ m, it = .lst m xs.length ∧ getL S1 m = some (xs.map f))
    (hb : ∀ x ∈ xs, ∀ S2, Ap S S2 → W (g (f x) (wipeE env vs) S2) fun e1 S3 => W (tt e1 S3) fun k S4 => k = true ∧ Ap S2 S4 ∧ W (te e1 S4) fun y S5 => y = v x ∧ Ap S4 S5)
    (hl : xs.length ≤ cap)
    (hq : ∀ n S', Ap S S' → S.length ≤ n → S'[n]? = some (.lst (xs.map v)) → Q (.ref n) S') : W (eLc fi g tt te vs env S) Q := by
  refine w_lcg (ds := xs.map f) (fun i => match xs[i]? with | some x => v x | none => .non) ?_ ?_ (by simpa using hl) ?_
  · obtain ⟨it, S1, e, a, m, rfl, gl⟩ := hi
    refine ⟨_, S1, e, a, by simp [ItD.lst], fun S2 a2 i => ?_⟩
    unfold ItD.lst
    simp [getL_ap gl a2]
  · intro i d hd S2 a2
    rw [List.getElem?_map] at hd
    obtain ⟨x, hx, rfl⟩ := Option.map_eq_some_iff.mp hd
    have := hb x (List.mem_of_getElem? hx) S2 a2
    rw [hx]
    exact this
  · intro n S' a l h
    refine hq n S' a l ?_
    rw [h, List.length_map, range_map xs v]
    intro i x hx
    rw [hx]
/-- over a range -/
theorem w_lcr {n : Nat} {lo : Int} {fi : FI} {g : FG} {tt : FT} {te : FE} {vs : List Nat} (v : Nat → D)
    (hi : W (fi env S) fun it S1 => it = .fix (rngD lo n) ∧ S1 = S)
    (hb : ∀ k, k < n → ∀ S2, Ap S S2 → W (g (.int (lo + k)) (wipeE env vs) S2) fun e1 S3 => W (tt e1 S3) fun b S4 => b = true ∧ Ap S2 S4 ∧ W (te e1 S4) fun y S5 => y = v k ∧ Ap S4 S5)
    (hl : n ≤ cap)
    (hq : ∀ m S', Ap S S' → S.length ≤ m → S'[m]? = some (.lst ((List.range n).map v)) → Q (.ref m) S') : W (eLc fi g tt te vs env S) Q := by
  refine w_lcg (ds := rngD lo n) v ?_ ?_ (by rw [rng_len]; exact hl) ?_
  · obtain ⟨it, S1, e, rfl, rfl⟩ := hi
    exact ⟨_, _, e, Ap.refl _, Nat.le_refl _, fun S2 a i => rfl⟩
  · intro i d hd S2 a2
    obtain ⟨rfl, h⟩ := rng_get hd
    exact hb i h S2 a2
  · rw [rng_len]
    exact hq
/-- while, by a number that falls -/
theorem w_while {t : FT} {b : FS} (Inv : Nat → Env → Sto → Prop) (step : ∀ m env S, Inv m env S → W (t env S) fun k S1 => if k = true then W (b env S1) (QL (fun e S2 => ∃ m', m' < m ∧ Inv m' e S2) QS') else QS' (.nx env) S1) {m : Nat} (hm : m < 1000000) (h0 : Inv m env S) : W (sWhile t b env S) QS' := by
  have key : ∀ (n m : Nat) (env : Env) (S : Sto), m < n → Inv m env S → W (whileN t b n env S) QS' := by
    intro n
    induction n with
    | zero => intro m env S h; omega
    | succ n ih =>
      intro m env S h hI
      unfold whileN
      rw [W_th]
      obtain ⟨k, S1, e, q⟩ := step m env S hI
      refine ⟨k, S1, e, ?_⟩
      cases k with
      | false => simpa using q
      | true =>
        rw [if_pos rfl] at q
        obtain ⟨o, S2, e2, q⟩ := q
        show W (if true = true then _ else _) _
        rw [if_pos rfl, W_th]
        refine ⟨o, S2, e2, ?_⟩
        cases o with
        | nx e => obtain ⟨m', h1, h2⟩ := q; exact ih m' e S2 (by omega) h2
        | ct e => obtain ⟨m', h1, h2⟩ := q; exact ih m' e S2 (by omega) h2
        | bk e => simpa using q
        | rt d => simpa using q
  exact key fuel m env S hm h0
end
end FL
namespace FL
open PySem L2
theorem it_zip {n m : Nat} {us ws : List D} {S2 : Sto} (h1 : getL S2 n = some us) (h2 : getL S2 m = some ws) (k i : Nat) : (ItD.zip n m k).it S2 i = some (((us.zip ws).map fun p => D.pr [p.1, p.2])[i]?) := by
  unfold ItD.zip
  simp only [h1, h2, List.getElem?_map, List.zip_eq_zipWith, List.getElem?_zipWith]
  cases us[i]? <;> cases ws[i]? <;> rfl
theorem w_zip {env : Env} {S : Sto} {fr : FA} {QI : ItD → Sto → Prop} (h : W (fr env S) fun ds S1 => ∃ n m us ws, ds = [.ref n, .ref m] ∧ getL S1 n = some us ∧ getL S1 m = some ws ∧ QI (.zip n m (min us.length ws.length)) S1) : W (iZip fr env S) QI := by
  unfold iZip
  rw [W_th]
  obtain ⟨ds, S1, e, n, m, us, ws, rfl, h1, h2, q⟩ := h
  refine ⟨_, S1, e, ?_⟩
  simp only [h1, h2]
  simpa using q
section
variable {env : Env} {S : Sto} {Q : D → Sto → Prop}
/-- a comprehension whose elements draw from the tape -/
theorem w_lct {tp tm : Nat} {fi : FI} {g : FG} {tt : FT} {te : FE} {vs : List Nat} {ds : List D} (P : D → D → Prop) (hT : Tape S tp tm)
    (hi : W (fi env S) fun it S1 => Kn tp S S1 ∧ S.length ≤ S1.length ∧ Tape S1 tp tm ∧ ds.length ≤ it.len ∧ ∀ S2, Kn tp S1 S2 → ∀ i, it.it S2 i = some ds[i]?)
    (hb : ∀ d ∈ ds, ∀ S2, Kn tp S S2 → Tape S2 tp tm → S.length ≤ S2.length → W (g d (wipeE env vs) S2) fun e1 S3 => W (tt e1 S3) fun k S4 => k = true ∧ Kn tp S2 S4 ∧ W (te e1 S4) fun y S5 => P d y ∧ Kn tp S4 S5 ∧ Tape S5 tp tm ∧ S2.length ≤ S5.length)
    (hl : ds.length ≤ cap)
    (hq : ∀ (n : Nat) (S' : Sto) (ys : List D), Kn tp S S' → Tape S' tp tm → S.length ≤ n → n < S'.length → ys.length = ds.length → (∀ (j : Nat) (x y : D), ds[j]? = some x → ys[j]? = some y → P x y) → S'[n]? = some (.lst ys) → Q (.ref n) S') : W (eLc fi g tt te vs env S) Q := by
  refine w_lc ?_
  obtain ⟨it, S1, e, a1, l1, T1, hlen, hit⟩ := hi
  refine ⟨it, S1, e, ?_⟩
  have t1 := T1.lt
  have t2 := T1.ltm
  refine Exists.elim (lc_inv (it := it) (ds := ds) (g := g) (tt := tt) (te := te) (n := S1.length) (env := wipeE env vs) (S := S1 ++ [.lst []]) (fun i acc S' => Kn tp S1 S' ∧ Tape S' tp tm ∧ S1.length < S'.length ∧ acc.length = i ∧ ∀ (j : Nat) (x y : D), ds[j]? = some x → acc[j]? = some y → P x y)
    (fun i acc S' h _ => hit S' h.1 i) hlen (fun i d acc S' hd hI hn => ?_) ⟨(Ap.app _ _).kn tp, T1.ap (Ap.app _ _), by simp, rfl, fun j x y _ (h : ([] : List D)[j]? = some y) => by simp at h⟩ (new_at _ _)) (fun S2 hh => ?_)
  · obtain ⟨aS, TS, lS, ea, eP⟩ := hI
    have hi' := (List.getElem?_eq_some_iff.mp hd).1
    obtain ⟨e1, S3, q1, k, S4, q2, rfl, a4, h⟩ := hb d (List.mem_of_getElem? hd) S' (a1.trans aS) TS (by omega)
    refine ⟨e1, S3, q1, _, S4, q2, ?_⟩
    refine iteT ?_
    obtain ⟨y, S5, q3, hP, a5, T5, l5⟩ := h
    refine ⟨_, S5, q3, a5 _ _ (by omega) (a4 _ _ (by omega) hn), by omega, (aS.trans (a4.trans a5)).setO (Nat.le_refl _), T5.set (by omega) (by omega), by rw [List.length_set]; omega, by simp [ea], ?_⟩
    intro j x y' hx hy
    by_cases hj : j < acc.length
    · rw [List.getElem?_append_left hj] at hy
      exact eP j x y' hx hy
    · have hj2 : j = acc.length := by
        have := (List.getElem?_eq_some_iff.mp hy).1
        simp at this
        omega
      subst hj2
      rw [List.getElem?_append_right (Nat.le_refl _), Nat.sub_self] at hy
      cases hy
      rw [ea, hd] at hx
      cases hx
      exact hP
  · obtain ⟨acc, e2, e3, a2, T2, l2, e4, eP⟩ := hh
    exact ⟨S2, e2, hq _ _ acc (a1.trans a2) T2 l1 l2 e4 eP e3⟩
/-- an index that is drawn -/
theorem w_ixr {n : Nat} {ds : List D} {r : Int} (h : getL S n = some ds) (h0 : 0 ≤ r) (h1 : r < ds.length) (q : ∀ d ∈ ds, Q d S) : W (oIx (.ref n) (.int r) S) Q := by
  obtain ⟨j, rfl⟩ : ∃ j : Nat, r = j := ⟨r.toNat, by omega⟩
  have hj : j < ds.length := by omega
  rw [w_ixL h (FL.atI_nat (List.getElem?_eq_getElem hj))]
  exact q _ (List.getElem_mem hj)
end
end FL
/-! FL16: sorted(set(list of ints)). -/
namespace FL
open PySem PySem.Spec PyProof.Rows L2
/-- a set that has just been made -/
def void (w : World) : Obj := { cls := .type "set", dict := none, data := .set #[] 0 (.fresh 0 0 (!w.params.followText "set-order")) }
section
variable {P : Program} {w : World} {A : Around} {E : Value → Shared → Prop} {s : Shared}
/-- what set(list) leaves behind -/
def Left (w : World) (s : Shared) (ns : List Int) (s2 : Shared) : Prop :=
  ∃ h2 k c, s2 = { s with heap := h2, toks := k } ∧ SetR w h2 s.heap.objs.size (fun j => decide (j ∈ ns)) c ∧ c ≤ ns.length ∧
    ∀ b u, s.heap.get? b = some u → h2.get? b = some u
theorem void_setR {h : Heap} {a : Addr} {ns : List Int} (g : h.get? a = some (void w)) : SetR w h a (fun j => decide (j ∈ ns.take 0)) 0 := setR_new_at g
/-- the items go in, one by one -/
theorem fill_list {l : Addr} {items : Array Value} (ns : List Int) (free : A.handled = none) {h0 : Heap} (e0 : h0 = s.heap.push (void w)) (isl : h0.IsList l items) (lt : l < s.heap.objs.size) (are : IntsAre items.toList ns) (few : ns.length + 1 < scanBound)
    {Rr : Result → Shared → Prop} (done : ∀ s2, Left w s ns s2 → Rr (.ok (.ret .none)) s2) :
    codeAny (model P w) A (.builtin "set.update.loop" ⟨[.ref s.heap.objs.size, .ref h0.objs.size], []⟩) Rr { s with heap := h0.push { cls := .type "list_iterator", data := .fields #[.ref l, .int 0 0] } } := by
  subst e0
  have nlen : items.size = ns.length := by
    rw [← IntsAre.length are, Array.length_toList]
  have sz : (s.heap.push (void w)).objs.size = s.heap.objs.size + 1 := Heap.size_push ..
  have apart : l ≠ (s.heap.push (void w)).objs.size := fun z => Nat.ne_of_lt (Nat.lt_succ_of_lt lt) (z.trans sz)
  have outside : s.heap.objs.size ∉ [(s.heap.push (void w)).objs.size, l] := by
    intro z
    rcases List.mem_cons.mp z with z | z
    · exact Nat.ne_of_lt (Nat.lt_succ_self _) (Eq.trans z sz)
    · exact Nat.ne_of_gt lt (List.mem_singleton.mp z)
  have value : ∀ (i : Nat) (v : Value), items[i]? = some v → ∃ k t, ns[i]? = some k ∧ v = .int k t := by
    intro i v hv
    have il : i < ns.length := nlen ▸ (Array.getElem?_eq_some_iff.mp hv).1
    obtain ⟨t, et⟩ := IntsAre.int_at are i v (by rw [Array.getElem?_toList]; exact hv)
    have gd : ns.getD i 0 = ns[i] := by
      rw [List.getD_eq_getElem?_getD, List.getElem?_eq_getElem il, Option.getD_some]
    exact ⟨ns[i], t, List.getElem?_eq_getElem il, by rw [et, gd]⟩
  have there : ((s.heap.push (void w)).push { cls := .type "list_iterator", data := .fields #[.ref l, .int 0 0] }).get? s.heap.objs.size = some (void w) := Heap.get?_push_of_some _ (Heap.get?_push_size _ rfl)
  refine set_update_ints (Walks.list (A := A.in1) (by simpa using free) _ l apart items).toS s.heap.objs.size outside ns nlen few value items.size 0 _ (by omega) (Nat.zero_le _) ⟨⟨_, Heap.get?_push_size _ rfl, rfl, rfl⟩, isl.push _⟩ ⟨0, Nat.le_refl 0, void_setR there⟩ ?_
  intro s2 c mv cl set2
  refine done s2 ⟨s2.heap, s2.toks, c, ?_, set2, by omega, fun b u g => ?_⟩
  · obtain ⟨x1, x2, x3, x4, x5⟩ := s2
    have q1 : x2 = s.gens := mv.gens
    have q2 : x3 = s.drawn := mv.drawn
    have q3 : x5 = s.os := mv.os
    rw [q1, q2, q3]
  · have bl : b < s.heap.objs.size := Heap.lt_size g
    refine mv.heap b u (fun z => ?_) (Heap.get?_push_of_some _ (Heap.get?_push_of_some _ g))
    rcases List.mem_cons.mp z with z | z
    · exact Nat.ne_of_lt bl z
    · exact Nat.ne_of_lt (Nat.lt_succ_of_lt bl) (Eq.trans (List.mem_singleton.mp z) sz)
set_option maxRecDepth 100000 in
set_option maxHeartbeats 6400000 in
/-- set(l), l a list of ints -/
theorem call_set_lst {l : Addr} {items : Array Value} (ns : List Int) (free : A.handled = none) (isl : s.heap.IsList l items) (are : IntsAre items.toList ns) (few : ns.length + 1 < scanBound) {Q : Value → Shared → Prop}
    (next : ∀ s2, Left w s ns s2 → Q (.ref s.heap.objs.size) s2) : wpAny (model P w) A (call (.type "set") [.ref l]) Q E s := by
  obtain ⟨c0, rest, order⟩ := F.called_set.mro
  have p1 := F.called_set.made
  have p2 := F.called_set.sub
  have p3 := F.called_set.notType
  have p4 := F.called_set.canCreate
  have p5 := F.typeCall_set_1 (.ref l)
  have lt : l < s.heap.objs.size := by
    obtain ⟨ob, g, _⟩ := isl
    exact Heap.lt_size g
  -- type.__call__
  refine wpAny_call (codeAny_of_tree (?_ : wpAny _ _ (callAny (.type "set") _) _ _ _))
  refine wpAny_pure (And.intro (Code.quiet_builtin _ (by decide +kernel)) (codeAny_builtin F.entry_type_call ?_))
  rw [show Around.under A _ = _ from Around.under_plain (weight_type_call_type "set" [.ref l] []) rfl]
  repeat (any_goals (first | wp_step | assumption))
  -- set.__new__
  refine codeAny_mono (code_set_led1 (.ref l) (E := E) (Q₁ := fun v s1 => v = .ref s.heap.objs.size ∧ s1 = { s with heap := s.heap.push (void w) }) ⟨rfl, rfl⟩) fun got s1 mid => ?_
  match got, mid with
  | .error e, mid => exact mid
  | .ok (.ret v), ⟨ev, es⟩ =>
    subst ev es
    have here : (s.heap.push (void w)).get? s.heap.objs.size = some (void w) := Heap.get?_push_size _ rfl
    have ty : Shared.TypeIs { s with heap := s.heap.push (void w) } (.ref s.heap.objs.size) "set" := ⟨_, here, rfl⟩
    have p6 := F.called_set.init.lookup
    have p7 := F.called_set.init.bind (.ref s.heap.objs.size)
    repeat (any_goals (first | wp_step | assumption))
    -- set.__init__
    refine codeAny_mono (codeAny_call_builtin (R := wants (fun v s2 => v = .none ∧ Left w s ns s2) E) F.called_set.init.plain F.entry_set_init (check_set_init_1 ty ?_)) fun got2 s2 mid2 => ?_
    · have isl2 : (s.heap.push (void w)).IsList l items := isl.push _
      obtain ⟨ob, g, cl, m, dt⟩ := isl
      obtain ⟨oc, od_, odt, osl⟩ := ob
      simp only at cl dt
      subst cl dt
      have g2 : (s.heap.push (void w)).get? l = some { cls := .type "list", dict := od_, data := .seq items m, slots := osl } := Heap.get?_push_of_some _ g
      have q1 := F.sub_list_set
      have q2 := F.sub_list_frozenset
      have q3 : (Value.type "list" == Value.type "dict") = false := by decide
      unfold Builtin.«set.__init__» noKeywords
      unfold Builtin.Frozenset.updateFrom
      generalize walker : pyIter = it
      wp_walk
      subst walker
      refine wpAny_pyIter_list isl2 (wpAny_bind (wpAny_runValue ?_))
      refine fill_list ns (by simp [free]) rfl isl2 lt are few fun s2 left => ?_
      show wpAny _ _ _ _ _ _
      exact wpAny_pure (show wpAny _ _ (ret Value.none) _ _ s2 from wpAny_pure ⟨rfl, left⟩)
    · match got2, mid2 with
      | .error e, mid2 => exact mid2
      | .ok (.ret v), ⟨ev, left⟩ =>
        subst ev
        repeat (any_goals (first | wp_step | assumption))
        exact next s2 left
end
end FL
/-! FL17: sorted(set(list of ints)) as a rule; what it computes. -/
namespace FL
open PySem PySem.Spec PyProof.Rows L2
def insU (x : Int) : List Int → List Int
  | [] => [x]
  | y :: r => if x < y then x :: y :: r else if x = y then y :: r else y :: insU x r
def sortU (ns : List Int) : List Int := ns.foldr insU []
theorem mem_insU (x z : Int) : ∀ l : List Int, z ∈ insU x l ↔ z = x ∨ z ∈ l
  | [] => by simp [insU]
  | y :: r => by
    unfold insU
    by_cases h : x < y
    · rw [if_pos h]; simp
    · rw [if_neg h]
      by_cases e : x = y
      · rw [if_pos e, e]; simp
      · rw [if_neg e]
        simp only [List.mem_cons, mem_insU x z r]
        constructor
        · rintro (h | h | h)
          · exact .inr (.inl h)
          · exact .inl h
          · exact .inr (.inr h)
        · rintro (h | h | h)
          · exact .inr (.inl h)
          · exact .inl h
          · exact .inr (.inr h)
theorem insU_sorted (x : Int) : ∀ l : List Int, l.Pairwise (· < ·) → (insU x l).Pairwise (· < ·)
  | [], _ => by simp [insU]
  | y :: r, h => by
    rw [List.pairwise_cons] at h
    unfold insU
    by_cases h1 : x < y
    · rw [if_pos h1, List.pairwise_cons, List.pairwise_cons]
      refine ⟨fun z hz => ?_, h⟩
      rcases List.mem_cons.mp hz with rfl | hz
      · exact h1
      · exact Int.lt_trans h1 (h.1 z hz)
    · rw [if_neg h1]
      by_cases e : x = y
      · rw [if_pos e, List.pairwise_cons]
        exact h
      · rw [if_neg e, List.pairwise_cons]
        refine ⟨fun z hz => ?_, insU_sorted x r h.2⟩
        rcases (mem_insU x z r).mp hz with rfl | hz
        · omega
        · exact h.1 z hz
theorem mem_sortU (z : Int) : ∀ ns : List Int, z ∈ sortU ns ↔ z ∈ ns
  | [] => Iff.rfl
  | x :: ns => by
    show z ∈ insU x (sortU ns) ↔ _
    rw [mem_insU, mem_sortU z ns, List.mem_cons]
theorem sortU_sorted : ∀ ns : List Int, (sortU ns).Pairwise (· < ·)
  | [] => List.Pairwise.nil
  | x :: ns => insU_sorted x _ (sortU_sorted ns)
theorem strict_uniq : ∀ {l m : List Int}, l.Pairwise (· < ·) → m.Pairwise (· < ·) → (∀ z, z ∈ l ↔ z ∈ m) → l = m
  | [], [], _, _, _ => rfl
  | [], y :: m, _, _, h => absurd ((h y).mpr List.mem_cons_self) (by simp)
  | x :: l, [], _, _, h => absurd ((h x).mp List.mem_cons_self) (by simp)
  | x :: l, y :: m, hl, hm, h => by
    rw [List.pairwise_cons] at hl hm
    have exy : x = y := by
      rcases List.mem_cons.mp ((h x).mp List.mem_cons_self) with e | e
      · exact e
      · rcases List.mem_cons.mp ((h y).mpr List.mem_cons_self) with e2 | e2
        · exact e2.symm
        · have := hl.1 y e2
          have := hm.1 x e
          omega
    subst exy
    have : l = m := strict_uniq hl.2 hm.2 fun z => by
      constructor
      · intro hz
        rcases List.mem_cons.mp ((h z).mp (List.mem_cons_of_mem _ hz)) with e | e
        · have := hl.1 z hz
          omega
        · exact e
      · intro hz
        rcases List.mem_cons.mp ((h z).mpr (List.mem_cons_of_mem _ hz)) with e | e
        · have := hm.1 z hz
          omega
        · exact e
    rw [this]
/-- set(xs), xs a list of ints -/
def rSetL (X : Cx) : List V → Hp → VK → Prop := fun vs H Q => ∃ (a : Addr) (ns : List Int), vs = [V.ref a] ∧ SqL X.K H a (ns.map V.int) ∧ ns.length ≤ 1000 ∧ ∀ (p : Addr) (m : Nat), H p = none → m ≤ ns.length → Q (.ref p) (upd H p (SetO X.w p (fun j => decide (j ∈ ns)) m))
def eSortSet (fe : FE) : FE := fun env S => th (fe env S) fun d S1 => match d with
  | .ref n => match (getL S1 n).bind intsD with
    | some ns => if ns.length < 64 then some (.ref S1.length, S1 ++ [.lst ((sortU ns).map D.int)]) else none
    | none => none
  | _ => none
section
variable {c : FC} {X : Cx} {e : Expr} {fe : FE} {p p2 pos pos2 : Pos}
theorem cr_setL (hc : X.calm = true) : CallR X (.type "set") (rSetL X) := by
  intro pins s σ H vs us Q I r h
  obtain ⟨a, ns, rfl, hs, hl, q⟩ := h
  obtain ⟨its, rv, isl, _⟩ := I.list hs
  rw [Vals.ref1 r]
  refine call_set_lst ns (I.ok.hd hc) isl.isList (by simpa using ints_of_vals rv) (by unfold scanBound; omega) fun s2 left => ?_
  obtain ⟨h2, k, m, rfl, R, ml, kp⟩ := left
  exact ⟨.ref _, upd H s.heap.objs.size (SetO X.w s.heap.objs.size (fun j => decide (j ∈ ns)) m), I.laid (t' := k) (fun b u e => kp b u e) (Nat.le_refl _) (setO_new R), rfl, q _ m (I.hok.fresh (Nat.le_refl _)) ml⟩
theorem q_sortSet (hK : c.K = X.K) (hc : X.calm = true) (hg : Gl X "sorted") (hm : X.mg "sorted" = none) (hg2 : Gl X "set") (hm2 : X.mg "set" = none) (h : PE X e (tE c fe))
    (st : starEach [e] X.env = (false, eval e X.env) :: starEach [] X.env := by rfl)
    (st2 : starEach [.Call (.Name "set" p2) [e] [] pos2] X.env = (false, eval (.Call (.Name "set" p2) [e] [] pos2) X.env) :: starEach [] X.env := by rfl) :
    PE X (.Call (.Name "sorted" p) [.Call (.Name "set" p2) [e] [] pos2] [] pos) (tE c (eSortSet fe)) := by
  refine PE.w (pe_callB (cr_sortedSet hc) hg hm PyProof.Rows.boot_sorted (pa_cons (pe_callTy (cr_setL hc) hg2 hm2 PyProof.Rows.boot_set (pa_cons h pa_nil st) (he := st)) pa_nil st2) (he := st2)) fun σ H Q h => ?_
  obtain ⟨μ, env, S, d, S', he, hs, hf, ha⟩ := h
  obtain ⟨x, S1, h1, hf⟩ := th_inv hf
  refine ⟨μ, env, S, x, S1, he, hs, h1, fun μ1 H1 v e1 k1 r1 => ?_⟩
  cases x with
  | ref n =>
    obtain ⟨a, ha1, rfl⟩ := r1
    simp only at hf
    split at hf
    · rename_i ns g1
      split at hf
      · rename_i hz
        cases hf
        obtain ⟨ds, g2, g3⟩ := Option.bind_eq_some_iff.mp g1
        obtain ⟨a', xs, g4, q1, rr⟩ := getL_sq k1 g2
        rw [ha1] at g4
        cases g4
        rw [intsD_rep g3 rr] at q1
        refine ⟨a, ns, rfl, by rw [← hK]; exact q1, by omega, fun s m hp ml => ?_⟩
        refine ⟨s, _, m, rfl, upd_same, by omega, fun ms p3 o1 o2 o3 hp3 => ?_⟩
        have e : ms = sortU ns := strict_uniq o1 (sortU_sorted ns) fun z => by rw [o2 z, mem_sortU, decide_eq_true_eq]
        rw [e]
        have x1 : Ext c μ1 H1 μ1 (upd H1 s (SetO X.w s (fun j => decide (j ∈ ns)) m)) := Ext.upd (.inl hp)
        obtain ⟨y1, y2, y3⟩ := lst_new (k1.same hp) (ints_rep (sortU ns)) hp3
        exact ha _ _ _ ((e1.trans x1).trans y1) y2 y3
      · cases hf
    · cases hf
  | _ => cases hf
theorem w_sortSet {env : FL.Env} {S : Sto} {Q : D → Sto → Prop} (h : W (fe env S) fun d S1 => ∃ (n : Nat) (ns : List Int), d = .ref n ∧ getL S1 n = some (ns.map D.int) ∧ ns.length < 64 ∧ W (some (D.ref S1.length, S1 ++ [.lst ((sortU ns).map D.int)])) Q) : W (eSortSet fe env S) Q := by
  unfold eSortSet
  rw [W_th]
  obtain ⟨d, S1, e, n, ns, rfl, h1, h2, q⟩ := h
  refine ⟨_, S1, e, ?_⟩
  simpa [h1, intsD_map, h2] using q
end
end FL
/-! FL18: values of and, strings, tuples; comprehensions of two clauses. -/
namespace FL
open PySem L2
theorem W_pure {r : Option (D × Sto)} {v : D} {S : Sto} (h : W r fun d S' => d = v ∧ S' = S) {Q : D → Sto → Prop} : W r Q ↔ Q v S := by
  obtain ⟨d, S', e, rfl, rfl⟩ := h
  rw [e, W_some]
section
variable {env : FL.Env} {S : Sto} {Q : D → Sto → Prop}
theorem w_eAnd (fa fb : FE) : W (eAnd fa fb env S) Q ↔ W (fa env S) fun x S1 => match tru x S1 with
    | some b => if b = true then W (fb env S1) Q else Q x S1
    | none => False := by
  unfold eAnd
  rw [W_th]
  have key : ∀ (x : D) (S1 : Sto), W (match tru x S1 with
      | some true => fb env S1
      | some false => some (x, S1)
      | none => none) Q ↔ match tru x S1 with
      | some b => if b = true then W (fb env S1) Q else Q x S1
      | none => False := by
    intro x S1
    cases tru x S1 with
    | none => simp
    | some b => cases b <;> simp
  constructor
  · rintro ⟨x, S1, e, h⟩
    exact ⟨x, S1, e, (key x S1).mp h⟩
  · rintro ⟨x, S1, e, h⟩
    exact ⟨x, S1, e, (key x S1).mpr h⟩
theorem w_tTru {fe : FE} {QT : Bool → Sto → Prop} : W (tTru fe env S) QT ↔ W (fe env S) fun d S1 => match tru d S1 with
    | some b => QT b S1
    | none => False := by
  unfold tTru
  rw [W_th]
  have key : ∀ (x : D) (S1 : Sto), W ((tru x S1).map fun b => (b, S1)) QT ↔ match tru x S1 with
      | some b => QT b S1
      | none => False := by
    intro x S1
    cases tru x S1 <;> simp
  constructor
  · rintro ⟨x, S1, e, h⟩
    exact ⟨x, S1, e, (key x S1).mp h⟩
  · rintro ⟨x, S1, e, h⟩
    exact ⟨x, S1, e, (key x S1).mpr h⟩
theorem tru_bl (b : Bool) (S : Sto) : tru (.bl b) S = some b := rfl
theorem w_addT {xs ys : List D} (h : xs.length + ys.length ≤ cap) : W (oAdd (.tup xs) (.tup ys) S) Q ↔ Q (.tup (xs ++ ys)) S := by
  unfold oAdd
  simp [h]
theorem sh_str {x : Str} (h : PyData.strOk x = true) : Sh (.str x) := ⟨by rw [PyData.canLay0]; exact h, by simp [PyData.depth]⟩
theorem w_eqStr {x y : Str} (hx : PyData.strOk x = true) (hy : PyData.strOk y = true) : W (oEq (.str x) (.str y) S) Q ↔ Q (.bl (x == y)) S := by
  rw [w_eqP (p := .str x) (q := .str y) rfl rfl (sh_str hx) (sh_str hy)]
  rw [PyData.eqv]
theorem w_pow {i j : Int} (h : (decide (0 ≤ j) && decide (j ≤ 1000) && decide (i.natAbs < 18446744073709551616)) = true) : W (oPow (.int i) (.int j) S) Q ↔ Q (.int (i ^ j.toNat)) S := by
  unfold oPow
  simp only [h, if_true, W_some]
theorem dPys_ints : ∀ ns : List Int, dPys (ns.map D.int) = ns.map PyData.int
  | [] => rfl
  | n :: ns => by
    show dPy (.int n) :: dPys (ns.map D.int) = _
    rw [dPys_ints ns]
    rfl
theorem nr_ints : ∀ ns : List Int, noRefs (ns.map D.int) = true
  | [] => rfl
  | n :: ns => by
    show (noRef (.int n) && noRefs (ns.map D.int)) = true
    rw [nr_ints ns]
    rfl
theorem toPy_ints {n : Nat} {ns : List Int} (h : getL S n = some (ns.map D.int)) : toPy S (.ref n) = some (.list (ns.map PyData.int)) := by rw [toPy_lst h (nr_ints ns), dPys_ints]
theorem d_int (i : Int) : (PyData.int i).canLay0 = true ∧ (PyData.int i).depth ≤ 10 := ⟨(sh_int i).1, Nat.le_trans (Nat.le_of_eq (show PyData.depth (.int i) = 0 by simp [PyData.depth])) (by decide)⟩
theorem sh_ints (ns : List Int) : Sh (.list (ns.map PyData.int)) := sh_list fun p hp => by
  obtain ⟨i, _, rfl⟩ := List.mem_map.mp hp
  exact d_int i
theorem sh_pair (i j : Int) : Sh (.tuple [.int i, .int j]) := sh_tuple fun p hp => by
  simp only [List.mem_cons, List.not_mem_nil, or_false] at hp
  rcases hp with rfl | rfl <;> exact d_int _
theorem w_neT {i j : Int} : W (oNe (.tup [.int i, .int j]) (.tup [.int i, .int j]) S) Q ↔ Q (.bl false) S := w_neS (p := .tuple [.int i, .int j]) rfl rfl (sh_pair i j)
/-- a comprehension that starts from a list -/
theorem lc_invA {it : ItD} {ds : List D} {g : FG} {tt : FT} {te : FE} {n : Nat} {env : FL.Env} (Inv : Nat → List D → Sto → Prop) (acc0 : List D)
    (hit : ∀ i acc S, Inv i acc S → S[n]? = some (.lst acc) → it.it S i = some ds[i]?) (hlen : ds.length ≤ it.len)
    (step : ∀ i d acc S, ds[i]? = some d → Inv i acc S → S[n]? = some (.lst acc) → W (g d env S) fun e1 S1 => W (tt e1 S1) fun k S2 =>
      if k = true then W (te e1 S2) fun y S3 => S3[n]? = some (.lst acc) ∧ acc.length < cap ∧ Inv (i + 1) (acc ++ [y]) (S3.set n (.lst (acc ++ [y]))) else S2[n]? = some (.lst acc) ∧ Inv (i + 1) acc S2)
    {S : Sto} (h0 : Inv 0 acc0 S) (hn : S[n]? = some (.lst acc0)) : ∃ S' acc, lcI it g tt te n env (it.len + 1) 0 S = some S' ∧ S'[n]? = some (.lst acc) ∧ Inv ds.length acc S' := by
  have key : ∀ (m i : Nat) (acc : List D) (S : Sto), ds.length < i + m → i ≤ ds.length → Inv i acc S → S[n]? = some (.lst acc) → ∃ S' acc', lcI it g tt te n env m i S = some S' ∧ S'[n]? = some (.lst acc') ∧ Inv ds.length acc' S' := by
    intro m
    induction m with
    | zero => intro i acc S h1 h2; omega
    | succ m ih =>
      intro i acc S h1 h2 hI hn
      unfold lcI
      rw [hit i acc S hI hn]
      by_cases hz : i < ds.length
      · rw [List.getElem?_eq_getElem hz]
        obtain ⟨e1, S1, q1, k, S2, q2, h⟩ := step i _ acc S (List.getElem?_eq_getElem hz) hI hn
        simp only [q1, th_some, q2]
        cases k with
        | true =>
          rw [if_pos rfl] at h ⊢
          obtain ⟨y, S3, q3, h1', h2', h3'⟩ := h
          simp only [q3, th_some, h1', if_pos h2']
          exact ih (i + 1) _ _ (by omega) (by omega) h3' (set_at h1')
        | false =>
          rw [if_neg Bool.false_ne_true] at h ⊢
          exact ih (i + 1) acc S2 (by omega) (by omega) h.2 h.1
      · have e : i = ds.length := by omega
        subst e
        rw [List.getElem?_eq_none (Nat.le_refl _)]
        exact ⟨S, acc, rfl, hn, hI⟩
  exact key _ 0 acc0 S (by omega) (Nat.zero_le _) h0 hn
theorem w_lc2m {fi : FI} {g : FG} {tt : FT} {fi1 : FI} {g1 : FG} {tt1 : FT} {te : FE} {vs vs1 : List Nat} {us ws : List D} (p : D → Bool) (v : D → D → D)
    (hi : W (fi env S) fun it S1 => Ap S S1 ∧ us.length ≤ it.len ∧ ∀ S2, Ap S1 S2 → ∀ i, it.it S2 i = some us[i]?)
    (hb : ∀ a ∈ us, ∀ S2, Ap S S2 → W (g a (wipeE env vs) S2) fun e1 S3 => W (tt e1 S3) fun k S4 => k = p a ∧ Ap S2 S4 ∧ (p a = true → W (fi1 e1 S4) fun it1 S5 => Ap S4 S5 ∧ ws.length ≤ it1.len ∧ (∀ S6, Ap S S6 → ∀ j, it1.it S6 j = some ws[j]?) ∧
      ∀ b ∈ ws, ∀ S6, Ap S S6 → W (g1 b (wipeE e1 vs1) S6) fun e2 S7 => W (tt1 e2 S7) fun k2 S8 => k2 = true ∧ Ap S6 S8 ∧ W (te e2 S8) fun y S9 => y = v a b ∧ Ap S8 S9))
    (hl : us.length * ws.length < cap)
    (hq : ∀ n S', Ap S S' → S.length ≤ n → S'[n]? = some (.lst ((us.filter p).flatMap fun a => ws.map (v a))) → Q (.ref n) S') : W (eLc2 fi g tt fi1 g1 tt1 te vs vs1 env S) Q := by
  unfold eLc2
  rw [W_th]
  obtain ⟨it, S1, e, a1, hlen, hit⟩ := hi
  refine ⟨it, S1, e, ?_⟩
  have key : ∀ (m i : Nat) (S' : Sto) (acc : List D), us.length < i + m → i ≤ us.length → Ap S1 S' → S'[S1.length]? = some (.lst acc) → acc = ((us.take i).filter p).flatMap (fun a => ws.map (v a)) → acc.length ≤ i * ws.length →
      ∃ S2, lc2I it g tt fi1 g1 tt1 te vs1 S1.length (wipeE env vs) m i S' = some S2 ∧ Ap S1 S2 ∧ S2[S1.length]? = some (.lst ((us.filter p).flatMap fun a => ws.map (v a))) := by
    intro m
    induction m with
    | zero => intro i S' acc h1 h2; omega
    | succ m ih =>
      intro i S' acc h1 h2 aS hn ea la
      unfold lc2I
      rw [hit S' aS i]
      by_cases hz : i < us.length
      · have hd := List.getElem?_eq_getElem hz
        rw [hd]
        obtain ⟨e1, S3, q1, k, S4, q2, rfl, a4, h⟩ := hb us[i] (List.getElem_mem hz) S' (a1.trans aS)
        simp only [q1, th_some, q2]
        have tk : us.take (i + 1) = us.take i ++ [us[i]] := by rw [List.take_add_one, hd]; rfl
        have mul1 : (i + 1) * ws.length = i * ws.length + ws.length := Nat.succ_mul i ws.length
        cases hp : p us[i] with
        | true =>
          rw [if_pos rfl]
          obtain ⟨it1, S5, q5, a5, l5, hit1, hb1⟩ := h hp
          simp only [q5, th_some]
          obtain ⟨S6, acc6, r1, r2, r3, r4⟩ := lc_invA (it := it1) (ds := ws) (g := g1) (tt := tt1) (te := te) (n := S1.length) (env := wipeE e1 vs1) (fun j ac S7 => Ap S1 S7 ∧ ac = acc ++ (ws.take j).map (v us[i])) acc
            (fun j ac S7 hI _ => hit1 S7 (a1.trans hI.1) j) l5 (fun j b ac S7 hbj hI hn7 => by
              obtain ⟨aI, eI⟩ := hI
              obtain ⟨e2, S8, t1, k2, S9, t2, rfl, a9, y, S10, t3, rfl, a10⟩ := hb1 b (List.mem_of_getElem? hbj) S7 (a1.trans aI)
              refine ⟨e2, S8, t1, true, S9, t2, iteT ⟨_, S10, t3, a10 _ _ (a9 _ _ hn7), ?_, (aI.trans (a9.trans a10)).set (Nat.le_refl _), ?_⟩⟩
              · have hj := (List.getElem?_eq_some_iff.mp hbj).1
                rw [eI, List.length_append, List.length_map, List.length_take]
                have : i * ws.length + ws.length ≤ us.length * ws.length := by
                  rw [← mul1]
                  exact Nat.mul_le_mul_right _ hz
                omega
              · rw [eI, List.take_add_one, hbj, List.map_append, List.append_assoc]
                rfl) ⟨aS.trans (a4.trans a5), by simp⟩ ((a4.trans a5) _ _ hn)
          simp only [r1]
          rw [List.take_length] at r4
          refine ih (i + 1) S6 acc6 (by omega) (by omega) r3 r2 ?_ ?_
          · rw [r4, tk, List.filter_append, List.flatMap_append, ea]
            simp [hp]
          · rw [r4, List.length_append, List.length_map]
            omega
        | false =>
          rw [if_neg Bool.false_ne_true]
          refine ih (i + 1) S4 acc (by omega) (by omega) (aS.trans a4) (a4 _ _ hn) ?_ (by omega)
          rw [tk, List.filter_append, List.flatMap_append, ea]
          simp [hp]
      · have e : i = us.length := by omega
        subst e
        rw [List.getElem?_eq_none (Nat.le_refl _)]
        refine ⟨S', rfl, aS, ?_⟩
        rw [hn, ea, List.take_length]
  obtain ⟨S2, r1, r2, r3⟩ := key (it.len + 1) 0 (S1 ++ [.lst []]) [] (by omega) (Nat.zero_le _) (Ap.app _ _) (new_at _ _) rfl (Nat.zero_le _)
  have := hq _ _ (a1.trans r2) a1.len r3
  simpa [r1] using this
end
end FL
/-! FL19: comprehensions over lists of numbers. -/
namespace FL
open PySem L2
section
variable {env : FL.Env} {S : Sto} {Q : D → Sto → Prop}
def onI (v : Int → Int) : D → D
  | .int x => .int (v x)
  | d => d
def onP (p : Int → Bool) : D → Bool
  | .int x => p x
  | _ => false
theorem filter_ints (p : Int → Bool) : ∀ ns : List Int, (ns.map D.int).filter (onP p) = (ns.filter p).map D.int
  | [] => rfl
  | n :: ns => by
    rw [List.map_cons, List.filter_cons, List.filter_cons, filter_ints p ns]
    show (if p n = true then _ else _) = _
    split <;> rfl
theorem map_onI (v : Int → Int) : ∀ ns : List Int, (ns.map D.int).map (onI v) = (ns.map v).map D.int
  | [] => rfl
  | n :: ns => by
    rw [List.map_cons, List.map_cons, List.map_cons, List.map_cons, map_onI v ns]
    rfl
theorem w_lci {fi : FI} {g : FG} {tt : FT} {te : FE} {vs : List Nat} {ns : List Int} (v : Int → Int) (p : Int → Bool)
    (hi : W (fi env S) fun it S1 => Ap S S1 ∧ ns.length ≤ it.len ∧ ∀ S2, Ap S1 S2 → ∀ i, it.it S2 i = some (ns.map D.int)[i]?)
    (hb : ∀ x ∈ ns, ∀ S2, Ap S S2 → W (g (.int x) (wipeE env vs) S2) fun e1 S3 => W (tt e1 S3) fun k S4 => k = p x ∧ Ap S2 S4 ∧ (p x = true → W (te e1 S4) fun y S5 => y = .int (v x) ∧ Ap S4 S5))
    (hl : ns.length ≤ cap)
    (hq : ∀ n S', Ap S S' → S.length ≤ n → S'[n]? = some (.lst (((ns.filter p).map v).map D.int)) → Q (.ref n) S') : W (eLc fi g tt te vs env S) Q := by
  refine w_lcm (ds := ns.map D.int) (onI v) (onP p) ?_ (fun d hd S2 a => ?_) (by simpa using hl) (fun n S' a l h => hq n S' a l ?_)
  · obtain ⟨it, S1, e, h1, h2, h3⟩ := hi
    exact ⟨it, S1, e, h1, by simpa using h2, h3⟩
  · obtain ⟨x, hx, rfl⟩ := List.mem_map.mp hd
    exact hb x hx S2 a
  · rw [h, filter_ints, map_onI]
theorem w_lc2i {fi : FI} {g : FG} {tt : FT} {fi1 : FI} {g1 : FG} {tt1 : FT} {te : FE} {vs vs1 : List Nat} {ns ms : List Int} (p : Int → Bool) (v : Int → Int → Int)
    (hi : W (fi env S) fun it S1 => Ap S S1 ∧ ns.length ≤ it.len ∧ ∀ S2, Ap S1 S2 → ∀ i, it.it S2 i = some (ns.map D.int)[i]?)
    (hb : ∀ a ∈ ns, ∀ S2, Ap S S2 → W (g (.int a) (wipeE env vs) S2) fun e1 S3 => W (tt e1 S3) fun k S4 => k = p a ∧ Ap S2 S4 ∧ (p a = true → W (fi1 e1 S4) fun it1 S5 => Ap S4 S5 ∧ ms.length ≤ it1.len ∧ (∀ S6, Ap S S6 → ∀ j, it1.it S6 j = some (ms.map D.int)[j]?) ∧
      ∀ b ∈ ms, ∀ S6, Ap S S6 → W (g1 (.int b) (wipeE e1 vs1) S6) fun e2 S7 => W (tt1 e2 S7) fun k2 S8 => k2 = true ∧ Ap S6 S8 ∧ W (te e2 S8) fun y S9 => y = .int (v a b) ∧ Ap S8 S9))
    (hl : ns.length * ms.length < cap)
    (hq : ∀ n S', Ap S S' → S.length ≤ n → S'[n]? = some (.lst (((ns.filter p).flatMap fun a => ms.map (v a)).map D.int)) → Q (.ref n) S') : W (eLc2 fi g tt fi1 g1 tt1 te vs vs1 env S) Q := by
  refine w_lc2m (us := ns.map D.int) (ws := ms.map D.int) (onP p) (fun a b => match a with | .int x => onI (v x) b | _ => .non) ?_ (fun d hd S2 a => ?_) (by simpa using hl) (fun n S' a l h => hq n S' a l ?_)
  · obtain ⟨it, S1, e, h1, h2, h3⟩ := hi
    exact ⟨it, S1, e, h1, by simpa using h2, h3⟩
  · obtain ⟨x, hx, rfl⟩ := List.mem_map.mp hd
    refine (hb x hx S2 a).mono fun e1 S3 h => h.mono fun k S4 ⟨h1, h2, h3⟩ => ⟨h1, h2, fun hp => (h3 hp).mono fun it1 S5 ⟨k1, k2, k3, k4⟩ => ⟨k1, by simpa using k2, k3, fun b hb S6 a6 => ?_⟩⟩
    obtain ⟨y, hy, rfl⟩ := List.mem_map.mp hb
    exact k4 y hy S6 a6
  · rw [h, filter_ints, List.flatMap_map, List.map_flatMap]
    have e : (fun a => (ms.map D.int).map (onI (v a))) = fun a => (ms.map (v a)).map D.int := funext fun a => map_onI (v a) ms
    exact congrArg (fun f => some (O.lst (List.flatMap f (ns.filter p)))) e
/-- a list of numbers that stays, as what is walked -/
theorem hit_lst {n : Nat} {ns : List Int} {S1 : Sto} (h : getL S1 n = some (ns.map D.int)) (k : Nat) : ∀ S2, Ap S1 S2 → ∀ i, (ItD.lst n k).it S2 i = some (ns.map D.int)[i]? := by
  intro S2 a i
  unfold ItD.lst
  simp [getL_ap h a]
end
end FL
/-! FL20: classes by their names; a new instance; what is never read. -/
namespace FL
open PySem PySem.Spec PyProof.Rows L2
/-- the class that the module calls x -/
def ctK (K : PySem.W.Frag) : Str → Addr := fun x => match PySem.W.nsIn K mainGlobals x with
  | some (some (.ref C)) => C
  | _ => (0 : Nat)
theorem ctK_of {K : PySem.W.Frag} {x : Str} {C : Addr} (a : PySem.W.nsIn K mainGlobals x = some (some (.ref C))) : ctK K x = C := by
  unfold ctK
  rw [a]
theorem lenP {n : Nat} {fr : FA} (h : ∀ (env : FL.Env) (S : Sto) (ds : List D) (S' : Sto), fr env S = some (ds, S') → ds.length = n) : ∀ (env : FL.Env) (S : Sto) (ds : List D) (S' : Sto), fr env S = some (ds, S') → ds.length + 1 = n + 1 := fun env S ds S' q => by rw [h env S ds S' q]
/-- what is never read -/
def eNever : FE := fun _ _ => none
section
variable {c : FC} {X : Cx} {k : Nat} {x : Str} {ps : List Str} {F : FF} {e o : Expr} {es : List Expr} {fr : FA} {fo : FE} {p pos apos : Pos}
theorem q_enever : PE X e (tE c eNever) := ⟨fun pins s σ H Q I h => by
  obtain ⟨μ, env, S, d, S', he, hs, hf, ha⟩ := h
  cases hf⟩
theorem q_makeP {C : Str} {np : Nat} (hK : c.K = X.K) (h : Ip c X.prog X.w X.mg X.base k C ps F) (hr : Room (k + 1) X.A) (hg : Gl X C) (ha : PA X (e :: es) (tA c fr)) (hl : ∀ (env : FL.Env) (S : Sto) (ds : List D) (S' : Sto), fr env S = some (ds, S') → ds.length = np) (hp : np + 1 = ps.length := by rfl)
    (hdb : (C == ("__debug__" : Str)) = false := by decide) (he : starEach (e :: es) X.env = (false, eval e X.env) :: starEach es X.env := by rfl) (hpl : (backTo pos (starEach es X.env)).any (·.1) = false := by rfl) :
    PE X (.Call (.Name C p) (e :: es) [] pos) (tE c (eMake C F fr)) := by
  obtain ⟨f, fd, h1, h2, h3, h4⟩ := h.ex
  rw [hK] at h1 h3 h4
  exact q_make (n := ps.length) (E := fun _ _ _ => False) (pe_make h3 h1 hr hg h2 h4 .nil pass0 ha hdb he hpl) fun env S ds S' q => by rw [hl env S ds S' q, hp]
end
end FL
/-! FL21: sorted(d.items()), d a dict from numbers to numbers. -/
namespace FL
open PySem PySem.Spec PyProof.Rows L2
abbrev entI (e : Int × Int) : Key × V := (Sum.inl e.1, V.int e.2)
abbrev pairT (e : Int × Int) : HO := .tup [.int e.1, .int e.2]
/-- x stands after y or beside it -/
abbrev later (x y : Int × Int) : Prop := SrtO.lexB y x = false
def rSortItI : List V → Hp → VK → Prop := fun vs H Q => ∃ (p a : Addr) (ks : List (Int × Int)), vs = [.ref p] ∧ H p = some (DX.itemsO p a) ∧ Rd H a (.dK (ks.map entI)) ∧
  ∀ (H' : Hp) (l : Addr) (zs : List (Addr × Int × Int)), (∀ b o, H b = some o → H' b = some o) → H l = none → (zs.map (·.2)).Perm ks → (zs.map (·.2)).Pairwise later → H' l = some (.lst (zs.map fun z => V.ref z.1)) → (∀ z ∈ zs, ∃ o : Obj, H' z.1 = some (.frz o (pairT z.2)) ∧ o.dict = none) → Q (.ref l) H'
def adr : Value → Addr
  | .ref a => a
  | _ => (0 : Nat)
open Classical in
/-- the two numbers of the pair at v -/
noncomputable def two (h : Heap) (v : Value) : Int × Int := if p : ∃ q : Int × Int, Srt.IsPair h v q.1 q.2 then p.choose else (0, 0)
theorem two_of {h : Heap} {v : Value} {q : Int × Int} (p : Srt.IsPair h v q.1 q.2) : two h v = q := by
  have ex : ∃ q : Int × Int, Srt.IsPair h v q.1 q.2 := ⟨q, p⟩
  have sp := ex.choose_spec
  unfold two
  rw [dif_pos ex]
  obtain ⟨a, o, t, u, n, e, ho, hc, hd⟩ := p
  obtain ⟨a', o', t', u', n', e', ho', hc', hd'⟩ := sp
  rw [e] at e'
  cases e'
  rw [ho] at ho'
  cases ho'
  rw [hd] at hd'
  injection hd' with h1 h2
  have h3 := congrArg Array.toList h1
  simp only [List.cons.injEq, Value.int.injEq] at h3
  exact Prod.ext h3.1.1.symm h3.2.1.1.symm
theorem pairs_get {P : Program} {w : World} : ∀ {es : List DictEntry} {kvs : List (Key × Value)} {j : Nat} {e : DictEntry}, Pairs (mixKind P w) es kvs → es[j]? = some e → ∃ kv, kvs[j]? = some kv ∧ keyIs kv.1 e.key = true ∧ e.val = kv.2
  | _, _, j, e, .nil, h => by simp at h
  | _, _, 0, e, .cons h1 h2 _, h => by
    simp only [List.getElem?_cons_zero, Option.some.injEq] at h
    subst h
    exact ⟨_, rfl, h1, h2⟩
  | _, _, j + 1, e, .cons _ _ t, h => by
    simp only [List.getElem?_cons_succ] at h
    obtain ⟨kv, e1, e2⟩ := pairs_get (j := j) t h
    exact ⟨kv, by simpa using e1, e2⟩
section
variable {X : Cx}
/-- what already stands is tracked -/
theorem takeF {pins : List (Addr × Obj)} {σ : L2.St} {H0 : Hp} {s : Shared} {h' : Heap} {tk : Nat} {P : Addr → HO → Prop} (I0 : Inv X pins σ H0 s) : ∀ (L : List Addr) (H1 : Hp), Inv X pins σ H1 { s with heap := h', toks := tk } → L.Nodup →
    (∀ a ∈ L, s.heap.objs.size ≤ a ∧ H1 a = none ∧ ∃ u, P a u ∧ ∀ H2, ObjOk X.prog X.w H2 h' a u) → ∃ H2, Inv X pins σ H2 { s with heap := h', toks := tk } ∧ (∀ b o, H1 b = some o → H2 b = some o) ∧ ∀ a ∈ L, ∃ u, P a u ∧ H2 a = some u
  | [], H1, I1, _, _ => ⟨H1, I1, fun _ _ e => e, fun _ h => by cases h⟩
  | a :: L, H1, I1, hn, h => by
    obtain ⟨low, free, u, hP, good⟩ := h a List.mem_cons_self
    rw [List.nodup_cons] at hn
    have I2 : Inv X pins σ (upd H1 a u) { s with heap := h', toks := tk } := I1.take (h' := h') (t' := tk) (fun b ob _ e => e) (I0.fpOk low free) (good _)
    obtain ⟨H2, I3, g, q⟩ := takeF I0 L (upd H1 a u) I2 hn.2 fun b hb => by
      obtain ⟨x1, x2, x3⟩ := h b (List.mem_cons_of_mem _ hb)
      have ne : b ≠ a := fun z => hn.1 (z ▸ hb)
      exact ⟨x1, by rw [upd_ne ne]; exact x2, x3⟩
    refine ⟨H2, I3, fun b o e => g b o (by rw [upd_ne (ne_of_none e free)]; exact e), fun b hb => ?_⟩
    rcases List.mem_cons.mp hb with rfl | hb
    · exact ⟨u, hP, g _ _ upd_same⟩
    · exact q b hb
theorem cr_sortedItI (hc : X.calm = true) : CallR X (.builtin "sorted") rSortItI := by
  intro pins s σ H xs us Q I r h
  obtain ⟨p, a, ks, rfl, hp, ha, q⟩ := h
  obtain rfl := Vals.ref1 r
  have view : s.heap.IsItemsView p a := (show ObjOk X.prog X.w H s.heap p (DX.itemsO p a) from I.hok p _ hp).1
  obtain ⟨zl, _, vs, rel, ob, es, ep, hob0, hex, hdat, _, prs, _⟩ := dk_rd I.hok ha
  have l1 : ks.length = vs.length := by
    have := Paired.length rel
    rwa [List.length_map] at this
  have l2 : es.size = vs.length := by
    have := prs.length
    rwa [Array.length_toList] at this
  rw [List.length_map] at zl
  refine DT.sortedI (es := es) (ep := ep) (I.ok.hd hc) view ⟨ob, hob0, hex, hdat⟩ (by omega) fun h' tk as hk hlt hl hG => ?_
  have lak : as.length = ks.length := by omega
  have nd : as.Nodup := hG.rise.imp fun h => Nat.ne_of_lt h
  -- what stands at the j-th new pair
  have pr : ∀ (j : Nat) (b : Addr), as[j]? = some b → ∃ (e : Int × Int) (t u : Tok), ks[j]? = some e ∧ h'.get? b = some { cls := .type "tuple", data := .seq #[.int e.1 t, .int e.2 u] } := by
    intro j b hj
    obtain ⟨en, g1, g2⟩ := hG.pairs j b hj
    obtain ⟨kv, g3, g4, g5⟩ := pairs_get (j := j) prs (by rw [Array.getElem?_toList]; exact g1)
    obtain ⟨kv0, g6, g7, g8⟩ := DX.pget rel g3
    rw [List.getElem?_map] at g6
    obtain ⟨e, g9, rfl⟩ := Option.map_eq_some_iff.mp g6
    obtain ⟨u, g10⟩ := (show ∃ u, kv.2 = Value.int e.2 u from g8)
    have g7 : Sum.inl e.1 = kv.1 := g7
    rw [← g7] at g4
    rcases keyIs_shape g4 with ⟨i, t, ek, ev⟩ | ⟨x, t, ek, ev⟩
    · cases ek
      exact ⟨e, t, u, g9, by rw [g2, ev, g5, g10]⟩
    · cases ek
  have at2 : (h'.push { cls := .type "list", data := .seq (as.map Value.ref).toArray }).get? h'.objs.size = some (seqObj "list" (as.map Value.ref).toArray 0) := Heap.get?_push_size _ rfl
  have up2 : ∀ b o, h'.get? b = some o → (h'.push { cls := .type "list", data := .seq (as.map Value.ref).toArray }).get? b = some o := fun b o e => Heap.get?_push_of_some _ e
  have off : ∀ b o, h'.get? b = some o → b ≠ h'.objs.size := fun b o e => Nat.ne_of_lt (Heap.lt_size e)
  generalize h'.push { cls := .type "list", data := .seq (as.map Value.ref).toArray } = h2 at at2 up2 ⊢
  have ip : ∀ (j : Nat) (b : Addr), as[j]? = some b → ∃ e, ks[j]? = some e ∧ Srt.IsPair h2 (.ref b) e.1 e.2 := by
    intro j b hj
    obtain ⟨e, t, u, g1, g2⟩ := pr j b hj
    exact ⟨e, g1, b, _, t, u, 0, rfl, up2 _ _ g2, rfl, rfl⟩
  have tw : ∀ (j : Nat) (b : Addr) (e : Int × Int), as[j]? = some b → ks[j]? = some e → two h2 (.ref b) = e := by
    intro j b e h1 h2'
    obtain ⟨e', g1, g2⟩ := ip j b h1
    rw [h2'] at g1
    cases g1
    exact two_of g2
  have each : ∀ v ∈ as.map Value.ref, ∃ (j : Nat) (b : Addr) (e : Int × Int), v = .ref b ∧ as[j]? = some b ∧ ks[j]? = some e := by
    intro v hv
    obtain ⟨b, hb, rfl⟩ := List.mem_map.mp hv
    obtain ⟨j, hj⟩ := List.mem_iff_getElem?.mp hb
    obtain ⟨e, g, _⟩ := ip j b hj
    exact ⟨j, b, e, rfl, hj, g⟩
  have lz : (as.map Value.ref).length ≤ sizeLine := by rw [List.length_map]; omega
  refine wpAny_call_entry PyProof.Rows.slot_list_sort ⟨_, at2, rfl⟩ PyProof.Rows.entry_list_sort (SrtO.list_sort_ord (s := { s with heap := h2, toks := tk }) (SrtO.swo_lex (two h2)) at2 lz
    (fun n2 => SrtO.pairs_sortableO (s := { s with heap := h2, toks := tk }) (k := two h2) (by omega) (fun v hv => ?_) fun o e ec => ?_) fun out o1 o2 => ⟨.none, rfl, ?_⟩) (PyProof.Rows.args_list_sort _)
  · obtain ⟨j, b, e, rfl, g1, g2⟩ := each v hv
    obtain ⟨e', g3, g4⟩ := ip j b g1
    rw [g2] at g3
    cases g3
    rw [tw j b e g1 g2]
    exact g4
  · have z : some o = some (seqObj "list" (as.map Value.ref).toArray 0) := e.symm.trans at2
    cases z
    exact absurd (Value.type.inj ec) (by decide)
  · show EP X pins σ Q (.ref h'.objs.size) { s with heap := sortedHeap h2 h'.objs.size (as.map Value.ref) out.toArray, toks := tk }
    have oref : ∀ v ∈ out, ∃ (j : Nat) (b : Addr) (e : Int × Int), v = .ref b ∧ as[j]? = some b ∧ ks[j]? = some e := fun v hv => each v (o2.perm.mem_iff.mp hv)
    have kof : (as.map Value.ref).map (two h2) = ks := by
      apply List.ext_getElem?
      intro j
      rw [List.map_map, List.getElem?_map]
      cases hj : as[j]? with
      | none =>
        have := List.getElem?_eq_none_iff.mp hj
        rw [List.getElem?_eq_none (by omega)]
        rfl
      | some b =>
        obtain ⟨e, g1, _⟩ := ip j b hj
        rw [g1]
        exact congrArg some (tw j b e hj g1)
    -- the sorted pairs with their places
    have z1 : (out.map fun v => (adr v, two h2 v)).map (·.2) = out.map (two h2) := by rw [List.map_map]; rfl
    have z2 : ((out.map fun v => (adr v, two h2 v)).map (·.2)).Perm ks := by
      rw [z1, ← kof]
      exact o2.perm.map _
    have z3 : ((out.map fun v => (adr v, two h2 v)).map (·.2)).Pairwise later := by
      rw [z1, List.pairwise_map]
      exact o1
    have z4 : ((out.map fun v => (adr v, two h2 v)).map fun z => Value.ref z.1) = out := by
      rw [List.map_map]
      conv => rhs; rw [← List.map_id out]
      refine List.map_congr_left fun v hv => ?_
      obtain ⟨j, b, e, rfl, _⟩ := oref v hv
      rfl
    have z5 : ∀ z ∈ (out.map fun v => (adr v, two h2 v)), ∃ j : Nat, as[j]? = some z.1 ∧ ks[j]? = some z.2 := by
      intro z hz
      obtain ⟨v, hv, rfl⟩ := List.mem_map.mp hz
      obtain ⟨j, b, e, rfl, g1, g2⟩ := oref v hv
      exact ⟨j, g1, by rw [g2]; exact congrArg some (tw j b e g1 g2).symm⟩
    generalize (out.map fun v => (adr v, two h2 v)) = zs at z2 z3 z4 z5
    clear z1
    -- behind the sort
    have f1 : ∀ b o, b ≠ h'.objs.size → h2.get? b = some o → (sortedHeap h2 h'.objs.size (as.map Value.ref) out.toArray).get? b = some o := fun b o hb e => (sortedHeap_old hb (Heap.lt_size e)).trans e
    have f2 : ∀ b o, s.heap.get? b = some o → (sortedHeap h2 h'.objs.size (as.map Value.ref) out.toArray).get? b = some o := fun b o e => f1 b o (off _ _ (hk b o e)) (up2 b o (hk b o e))
    obtain ⟨ee, he⟩ := sortedHeap_at (vs := as.map Value.ref) (out := out.toArray) at2
    have J1 : Inv X pins σ H { s with heap := sortedHeap h2 h'.objs.size (as.map Value.ref) out.toArray, toks := tk } := I.kept (t' := tk) f2
    have n0 : H h'.objs.size = none := I.hok.fresh (Nat.le_of_lt hlt)
    have zlen : (zs.map fun z => V.ref z.1).length ≤ sizeLine := by
      have := z2.length_eq
      rw [List.length_map] at this ⊢
      omega
    have rv : Vals (zs.map fun z => V.ref z.1) out := by
      rw [← z4]
      exact vals_maps (fun z : Addr × Int × Int => V.ref z.1) (fun z => Value.ref z.1) zs fun _ _ => rfl
    have J2 : Inv X pins σ (upd H h'.objs.size (.lst (zs.map fun z => V.ref z.1))) { s with heap := sortedHeap h2 h'.objs.size (as.map Value.ref) out.toArray, toks := tk } :=
      J1.take (h' := sortedHeap h2 h'.objs.size (as.map Value.ref) out.toArray) (t' := tk) (fun b o _ e => e) (I.fpOk (Nat.le_of_lt hlt) n0) ⟨zlen, out, ee, rv, by simpa using he⟩
    obtain ⟨H2, J3, gr, tk2⟩ := takeF (P := fun b u => ∃ (j : Nat) (e : Int × Int) (ob : Obj), as[j]? = some b ∧ ks[j]? = some e ∧ u = .frz ob (pairT e) ∧ ob.dict = none) I as _ J2 nd fun b hb => by
      obtain ⟨j, hj⟩ := List.mem_iff_getElem?.mp hb
      obtain ⟨e, t, u, g1, g2⟩ := pr j b hj
      have low : s.heap.objs.size ≤ b := Nat.le_of_lt (hG.above b hb)
      refine ⟨low, ?_, _, ⟨j, e, _, hj, g1, rfl, rfl⟩, fun H3 => ⟨f1 _ _ (off _ _ g2) (up2 _ _ g2), by rw [sizeLine_eq]; show 2 ≤ 16777216; omega, [.int e.1 t, .int e.2 u], .cons ⟨t, rfl⟩ (.cons ⟨u, rfl⟩ .nil), ⟨_, f1 _ _ (off _ _ g2) (up2 _ _ g2), rfl, 0, rfl⟩⟩⟩
      rw [upd_ne (off _ _ g2)]
      exact I.hok.fresh low
    refine ⟨.ref h'.objs.size, H2, J3, rfl, q H2 h'.objs.size zs (fun b o e => gr b o (by rw [upd_ne (ne_of_none e n0)]; exact e)) n0 z2 z3 (gr _ _ upd_same) fun z hz => ?_⟩
    obtain ⟨i, i1, i2⟩ := z5 z hz
    obtain ⟨us, ⟨j, e, ob2, j1, j2, eu, hd2⟩, hH⟩ := tk2 z.1 (List.mem_of_getElem? i1)
    have eij : i = j := (List.getElem?_inj (List.getElem?_eq_some_iff.mp i1).1 nd).mp (i1.trans j1.symm)
    subst eij
    rw [i2] at j2
    cases j2
    rw [eu] at hH
    exact ⟨ob2, hH, hd2⟩
end
end FL
/-! FL22: sorted(d.items()) by data. -/
namespace FL
open PySem PySem.Spec PyProof.Rows L2
theorem grow_ext {c : FC} {μ : List Addr} {H H' : Hp} {l : Addr} (g : ∀ b o, H b = some o → H' b = some o) : Ext c μ H (μ ++ [l]) H' :=
  ⟨fun n a e => by
    rw [List.getElem?_append_left (List.getElem?_eq_some_iff.mp e).1]
    exact e, fun a xs h => h.imp (fun h => h.imp (fun h => g _ _ h) fun ⟨o, h⟩ => ⟨o, g _ _ h⟩) id, fun a o u h => g _ _ h⟩
theorem grow_lst {c : FC} {μ : List Addr} {S : Sto} {H H' : Hp} {l : Addr} {ds : List D} {xs : List V} (hs : StoOk c μ S H) (g : ∀ b o, H b = some o → H' b = some o) (hn : H l = none) (hl : H' l = some (.lst xs)) (r : Reps c (μ ++ [l]) H' ds xs) :
    StoOk c (μ ++ [l]) (S ++ [.lst ds]) H' ∧ Rep c (μ ++ [l]) H' (.ref S.length) (.ref l) := by
  have at_ : (μ ++ [l])[S.length]? = some l := by
    rw [← hs.len, List.getElem?_append_right (Nat.le_refl _), Nat.sub_self]
    rfl
  have old : ∀ n a, n < S.length → ((μ ++ [l])[n]? = some a ↔ μ[n]? = some a) := fun n a hn => by rw [List.getElem?_append_left (by rw [hs.len]; exact hn)]
  have key : ∀ n a o', S[n]? = some o' → own o' = true → μ[n]? = some a → a ≠ l := fun n a o' e ow e1 z => by
    obtain ⟨b, e2, rr⟩ := hs.stands n o' e
    rw [e1] at e2
    cases e2
    obtain ⟨u, q⟩ := rr.tracked ow
    rw [z, hn] at q
    cases q
  have split : ∀ (m : Nat) (o : O), (S ++ [O.lst ds])[m]? = some o → (m < S.length ∧ S[m]? = some o) ∨ (m = S.length ∧ o = .lst ds) := fun m o e => by
    by_cases hm : m < S.length
    · rw [List.getElem?_append_left hm] at e
      exact .inl ⟨hm, e⟩
    · have hlt := (List.getElem?_eq_some_iff.mp e).1
      rw [List.length_append] at hlt
      have em : m = S.length := by
        have : m < S.length + 1 := hlt
        omega
      subst em
      rw [List.getElem?_append_right (Nat.le_refl _), Nat.sub_self] at e
      exact .inr ⟨rfl, (Option.some.inj e).symm⟩
  refine ⟨⟨by simp [hs.len], fun n o e => ?_, fun n m a o1 o2 e1 e2 w1 w2 a1 a2 => ?_⟩, l, at_, rfl⟩
  · rcases split n o e with ⟨hn', e⟩ | ⟨rfl, rfl⟩
    · obtain ⟨a, e1, rr⟩ := hs.stands n o e
      exact ⟨a, (old n a hn').mpr e1, rr.mono (grow_ext g) fun u q => g _ _ q⟩
    · exact ⟨l, at_, xs, hl, r⟩
  · rcases split n o1 e1 with ⟨h1, e1⟩ | ⟨rfl, rfl⟩
    · rcases split m o2 e2 with ⟨h2, e2⟩ | ⟨rfl, rfl⟩
      · exact hs.inj n m a o1 o2 e1 e2 w1 w2 ((old n a h1).mp a1) ((old m a h2).mp a2)
      · rw [at_] at a2
        cases a2
        exact absurd rfl (key n l o1 e1 w1 ((old n l h1).mp a1))
    · rcases split m o2 e2 with ⟨h2, e2⟩ | ⟨rfl, rfl⟩
      · rw [at_] at a1
        cases a1
        exact absurd rfl (key m l o2 e2 w2 ((old m l h2).mp a2))
      · rfl
/-! ### pairs in order -/
def insP (x : Int × Int) : List (Int × Int) → List (Int × Int)
  | [] => [x]
  | y :: r => if SrtO.lexB x y = true then x :: y :: r else y :: insP x r
def sortP (l : List (Int × Int)) : List (Int × Int) := l.foldr insP []
theorem insP_perm (x : Int × Int) : ∀ l, (insP x l).Perm (x :: l)
  | [] => List.Perm.refl _
  | y :: r => by
    unfold insP
    split
    · exact List.Perm.refl _
    · exact ((insP_perm x r).cons y).trans (List.Perm.swap x y r)
theorem sortP_perm : ∀ l, (sortP l).Perm l
  | [] => List.Perm.refl _
  | x :: l => (insP_perm x _).trans ((sortP_perm l).cons x)
theorem later_iff {x y : Int × Int} : later x y ↔ ¬ (y.1 < x.1 ∨ (y.1 = x.1 ∧ y.2 < x.2)) := SrtO.lexB_no
theorem insP_sorted (x : Int × Int) : ∀ l, l.Pairwise later → (insP x l).Pairwise later
  | [], _ => List.pairwise_singleton _ _
  | y :: r, h => by
    rw [List.pairwise_cons] at h
    unfold insP
    cases e : SrtO.lexB x y with
    | true =>
      rw [if_pos rfl, List.pairwise_cons, List.pairwise_cons]
      have e' := SrtO.lexB_iff.mp e
      refine ⟨fun z hz => ?_, h⟩
      rcases List.mem_cons.mp hz with rfl | hz
      · rw [later_iff]
        omega
      · have := later_iff.mp (h.1 z hz)
        rw [later_iff]
        omega
    | false =>
      rw [if_neg Bool.false_ne_true, List.pairwise_cons]
      refine ⟨fun z hz => ?_, insP_sorted x r h.2⟩
      rcases List.mem_cons.mp ((insP_perm x r).mem_iff.mp hz) with rfl | hz
      · exact e
      · exact h.1 z hz
theorem sortP_sorted : ∀ l, (sortP l).Pairwise later
  | [] => List.Pairwise.nil
  | x :: l => insP_sorted x _ (sortP_sorted l)
theorem later_anti {x y : Int × Int} (h1 : later x y) (h2 : later y x) : x = y := by
  have a := later_iff.mp h1
  have b := later_iff.mp h2
  exact Prod.ext (by omega) (by omega)
theorem sortedP_uniq : ∀ {l m : List (Int × Int)}, l.Perm m → l.Pairwise later → m.Pairwise later → l = m
  | [], m, p, _, _ => (List.nil_perm.mp p).symm
  | x :: l, [], p, _, _ => by simpa using p.length_eq
  | x :: l, y :: m, p, hl, hm => by
    rw [List.pairwise_cons] at hl hm
    have exy : x = y := by
      rcases List.mem_cons.mp (p.mem_iff.mp List.mem_cons_self) with e | e
      · exact e
      · rcases List.mem_cons.mp (p.mem_iff.mpr List.mem_cons_self) with e2 | e2
        · exact e2.symm
        · exact later_anti (hl.1 y e2) (hm.1 x e)
    subst exy
    rw [sortedP_uniq p.cons_inv hl.2 hm.2]
/-! ### the rule -/
def intKV : List (Key × D) → Option (List (Int × Int))
  | [] => some []
  | (.inl k, .int v) :: r => (intKV r).map fun l => (k, v) :: l
  | _ :: _ => none
abbrev pD (e : Int × Int) : D := .tup [.int e.1, .int e.2]
theorem intKV_rep {c : FC} {μ : List Addr} {H : Hp} : ∀ {kvs : List (Key × D)} {ks : List (Int × Int)} {ys : List (Key × V)}, intKV kvs = some ks → RepKV c μ H kvs ys → ys = ks.map entI
  | [], ks, ys, h, r => by
    cases h
    exact r.inv0
  | (.inl k, .int v) :: rest, ks, ys, h, r => by
    obtain ⟨l, e1, rfl⟩ := Option.map_eq_some_iff.mp h
    obtain ⟨w, ys', rfl, rw1, r2⟩ := r.inv
    obtain rfl := (show w = .int v from rw1)
    rw [intKV_rep e1 r2]
    rfl
def eSortItems (fe : FE) : FE := fun env S => th (fe env S) fun d S1 => match d with
  | .ref n => match S1[n]? with
    | some (.dic kvs) => match intKV kvs with
      | some ks => if ks.length ≤ cap then some (.ref S1.length, S1 ++ [.lst ((sortP ks).map pD)]) else none
      | none => none
    | _ => none
  | _ => none
section
variable {c : FC} {X : Cx} {e : Expr} {fe : FE} {p apos cpos pos : Pos}
def rItemsI : V → List V → Hp → VK → Prop := fun x xs H Q => ∃ (a : Addr) (kvs : List (Key × V)), x = .ref a ∧ xs = [] ∧ H a = some (.dK kvs) ∧ ∀ q, H q = none → Q (.ref q) (upd H q (DX.itemsO q a))
theorem mt_itemsI : MtR X "dict.items" rItemsI := by
  intro pins s σ H x xs v us Q I rx rxs h
  obtain ⟨a, kvs, rfl, rfl, ha, q⟩ := h
  cases rx
  cases rxs
  obtain ⟨_, big, vs, _, ob, es, ep, g1, g2, g3, _⟩ := dk_of I.hok ha
  have free : H s.heap.objs.size = none := I.hok.fresh (Nat.le_refl _)
  refine DT.callItems (es := es) (ep := ep) big ⟨ob, g1, g2, g3⟩ ⟨.ref s.heap.objs.size, upd H s.heap.objs.size (DX.itemsO s.heap.objs.size a), ?_, rfl, q _ free⟩
  exact I.laid (t' := s.toks) (fun b u e => Heap.get?_push_of_some _ e) (Nat.le_refl _) (DX.itemsO_ok (Heap.get?_push_size _ rfl))
theorem pairs_rep {μ : List Addr} {H : Hp} : ∀ (zs : List (Addr × Int × Int)), (∀ z ∈ zs, ∃ o : Obj, H z.1 = some (.frz o (pairT z.2)) ∧ o.dict = none) → Reps c μ H ((zs.map (·.2)).map pD) (zs.map fun z => V.ref z.1)
  | [], _ => rfl
  | z :: zs, h => ⟨_, _, rfl, ⟨z.1, [.int z.2.1, .int z.2.2], rfl, .inl (h z List.mem_cons_self), _, _, rfl, rfl, _, _, rfl, rfl, rfl⟩, pairs_rep zs fun y hy => h y (List.mem_cons_of_mem _ hy)⟩
theorem q_sortItems (hK : c.K = X.K) (hc : X.calm = true) (hu : X.A.units + 64 < cLine) (hg : Gl X "sorted") (hm : X.mg "sorted" = none) (h : PE X e (tE c fe))
    (hb : attributeBase e "items" X.env (eval e X.env) = eval e X.env := by rfl) (hline : (apos.endLine == cpos.line) = true := by rfl)
    (st : starEach [.Call (.Attribute e "items" apos) [] [] cpos] X.env = (false, eval (.Call (.Attribute e "items" apos) [] [] cpos) X.env) :: starEach [] X.env := by rfl) :
    PE X (.Call (.Name "sorted" p) [.Call (.Attribute e "items" apos) [] [] cpos] [] pos) (tE c (eSortItems fe)) := by
  refine PE.w (pe_callB (cr_sortedItI hc) hg hm PyProof.Rows.boot_sorted (pa_cons (pe_bm0 PySem.F.plainAttrs_dict PySem.F.slot_dict_items PySem.F.type_dict_items mt_itemsI h hb hline) pa_nil st) (he := st)) fun σ H Q h => ?_
  obtain ⟨μ, env, S, d, S', he, hs, hf, ha⟩ := h
  obtain ⟨x, S1, h1, hf⟩ := th_inv hf
  refine ⟨μ, env, S, x, S1, he, hs, h1, fun μ1 H1 v e1 k1 r1 => ?_⟩
  cases x with
  | ref n =>
    obtain ⟨a, ha1, rfl⟩ := r1
    simp only at hf
    split at hf
    · rename_i kvs g1
      split at hf
      · rename_i ks g2
        split at hf
        · rename_i hz
          cases hf
          obtain ⟨a', g4, ys, q1, rr⟩ := k1.stands _ _ g1
          rw [ha1] at g4
          cases g4
          rw [intKV_rep g2 rr] at q1
          refine ⟨.inr (.inr (.inl ⟨rfl, .inl ⟨_, q1⟩⟩)), a, _, rfl, rfl, q1, fun w hw => ?_⟩
          have x1 : Ext c μ1 H1 μ1 (upd H1 w (DX.itemsO w a)) := Ext.upd (.inl hw)
          refine ⟨w, a, ks, rfl, upd_same, .inl (by rw [upd_ne (ne_of_none q1 hw)]; exact q1), fun H2 l zs g n0 o1 o2 hl hp => ?_⟩
          have ez : zs.map (·.2) = sortP ks := sortedP_uniq (o1.trans (sortP_perm ks).symm) o2 (sortP_sorted ks)
          have rp := pairs_rep (c := c) (μ := μ1 ++ [l]) (H := H2) zs hp
          rw [ez] at rp
          obtain ⟨y1, y2⟩ := grow_lst (k1.same hw) g n0 hl rp
          exact ha _ _ _ ((e1.trans x1).trans (grow_ext g)) y1 y2
        · cases hf
      · cases hf
    · cases hf
  | _ => cases hf
theorem w_sortItems {env : FL.Env} {S : Sto} {Q : D → Sto → Prop} (h : W (fe env S) fun d S1 => ∃ n kvs ks, d = .ref n ∧ S1[n]? = some (.dic kvs) ∧ intKV kvs = some ks ∧ ks.length ≤ cap ∧ W (some (D.ref S1.length, S1 ++ [.lst ((sortP ks).map pD)])) Q) : W (eSortItems fe env S) Q := by
  unfold eSortItems
  rw [W_th]
  obtain ⟨d, S1, e, n, kvs, ks, rfl, h1, h2, h3, q⟩ := h
  refine ⟨_, S1, e, ?_⟩
  simpa [h1, h2, h3] using q
end
end FL
/-! FL23: dict(tuple of pairs), dict(dict). -/
namespace FL
open PySem PySem.Spec PyProof.Rows L2
theorem pick {α : Type} {P : Nat → α → Prop} : ∀ n : Nat, (∀ j, j < n → ∃ x, P j x) → ∃ l : List α, l.length = n ∧ ∀ (j : Nat) (x : α), l[j]? = some x → P j x
  | 0, _ => ⟨[], rfl, fun j x h => by simp at h⟩
  | n + 1, h => by
    obtain ⟨l, e, q⟩ := pick n fun j hj => h j (by omega)
    obtain ⟨x, hx⟩ := h n (Nat.lt_succ_self n)
    refine ⟨l ++ [x], by simp [e], fun j y hy => ?_⟩
    by_cases hj : j < l.length
    · rw [List.getElem?_append_left hj] at hy
      exact q j y hy
    · have hlt := (List.getElem?_eq_some_iff.mp hy).1
      rw [List.length_append] at hlt
      have hl : j < l.length + 1 := hlt
      have ej : j = l.length := by omega
      subst ej
      rw [List.getElem?_append_right (Nat.le_refl _), Nat.sub_self] at hy
      cases hy
      rw [e]
      exact hx
section
variable {X : Cx}
theorem plainT {pins : List (Addr × Obj)} {σ : L2.St} {H : Hp} {s : Shared} {a : Addr} {xs : List V} (I : Inv X pins σ H s) (h : TupP X.K H a xs) : ∃ its : List Value, Vals xs its ∧ PlainSeq "tuple" s.heap a its.toArray ∧ xs.length ≤ sizeLine := by
  rcases h with ⟨o, h, hd⟩ | ⟨o, its, n, hk, hc, hd, hs, hz, r⟩
  · obtain ⟨g, z, its, r, ob, g2, hc, n, hdat⟩ := (show ObjOk X.prog X.w H s.heap a (.frz o (.tup xs)) from I.hok a _ h)
    rw [g] at g2
    cases g2
    exact ⟨its, r, ⟨o, n, g, hc, hd, hdat⟩, z⟩
  · have e := r.length
    have e2 : its.toList.length = its.size := Array.length_toList
    exact ⟨its.toList, r, ⟨o, n, I.kIn a o hk, hc, hd, by simpa using hs⟩, by omega⟩
def rDictT (K : PySem.W.Frag) : List V → Hp → VK → Prop := fun vs H Q => ∃ (a : Addr) (ps : List Addr) (kvs : List (Key × V)), vs = [V.ref a] ∧ TupP K H a (ps.map V.ref) ∧ Paired (fun p kv => SqT K H p [kV kv.1, kv.2]) ps kvs ∧
  ∀ p, H p = none → Q (.ref p) (upd H p (.dK (mergeK [] kvs)))
theorem call_dictT (hc : X.calm = true) : CallR X (.type "dict") (rDictT X.K) := by
  intro pins s σ H vs us Q I r h
  obtain ⟨a, ps, kvs, rfl, hT, hp, q⟩ := h
  rw [Vals.ref1 r]
  obtain ⟨its, rv, pl, hz⟩ := plainT I hT
  have ei := refs_at rv
  subst ei
  rw [List.length_map] at hz
  obtain ⟨prs, rel, hl, hpr⟩ := L2.pairs_of I hp
  obtain ⟨uvs, lu, hu⟩ := pick (P := fun j (x : Value × Value) => ∃ (q : Key × Value) (b : Addr), prs[j]? = some q ∧ ps[j]? = some b ∧ x.2 = q.2 ∧ keyIs q.1 x.1 = true ∧ IsTup s.heap b #[x.1, x.2]) prs.length fun j hj => by
    obtain ⟨b, u, e1, e2, e3⟩ := hpr j _ (List.getElem?_eq_getElem hj)
    exact ⟨(u, (prs[j]).2), _, b, List.getElem?_eq_getElem hj, e1, rfl, e3, e2⟩
  have items : PairItems s.heap (ps.map Value.ref).toArray (fun j => ps.getD j (0 : Nat)) uvs := by
    refine ⟨by simp [lu, hl], fun j k v e => ?_⟩
    obtain ⟨q', b, e1, e2, e3, e4, e5⟩ := hu j (k, v) e
    have eb : ps.getD j (0 : Nat) = b := by rw [List.getD_eq_getElem?_getD, e2]; rfl
    refine ⟨by simp [e2], .inl ?_⟩
    show s.heap.IsTuple (ps.getD j (0 : Nat)) _
    rw [eb]
    exact e5
  refine PySem.call_dict_pairs (knd := mixKind X.prog X.w) (kvs := prs) (PairArg.tuple a (ps.map Value.ref).toArray (fun j => ps.getD j (0 : Nat)) uvs) (I.ok.hd hc) ⟨pl, items⟩ ?_ (by rw [lu, hl]; exact hz) fun h2 tk hd2 k => ?_
  · exact ⟨lu.symm, fun i key v e => by
      obtain ⟨q', b, e1, e2, e3, e4, e5⟩ := hu i (key, v) e
      have e6 : v = q'.2 := e3
      subst e6
      exact ⟨q'.1, e1, e4⟩⟩
  · have big : (s.heap.objs.size == sysModules) = false := beq_eq_false_iff_ne.mpr (Nat.ne_of_gt I.big)
    have len : (mergeK [] kvs).length ≤ sizeLine := by
      have z := length_mergeK kvs []
      have z2 := rel.length
      rw [List.length_nil] at z
      omega
    exact ⟨.ref s.heap.objs.size, upd H s.heap.objs.size (.dK (mergeK [] kvs)), I.laid (t' := tk) (fun b u e => k b u (by simp) e) (Nat.le_refl _) ⟨len, big, merged [] prs, KV.merge rel .nil, hd2⟩, rfl, q _ (I.hok.fresh (Nat.le_refl _))⟩
end
end FL
/-! FL24: dict(tuple of pairs), dict(dict) on data. -/
namespace FL
open PySem PySem.Spec PyProof.Rows L2
def prsT : List D → Option (List (Key × D))
  | [] => some []
  | .tup [k, v] :: r => (keyD k).bind fun k' => (prsT r).map fun ps => (k', v) :: ps
  | _ => none
def fDict : FF := fun ds S => match ds with
  | [.tup ps] => (prsT ps).map fun kvs => (.ref S.length, S ++ [.dic (mergeG [] kvs)])
  | [.ref n] => (getD S n).map fun kvs => (.ref S.length, S ++ [.dic kvs])
  | _ => none
section
variable {X : Cx} {c : FC}
theorem prsT_rep {μ : List Addr} {H : Hp} : ∀ {ds : List D} {xs : List V} {kvs : List (Key × D)}, Reps c μ H ds xs → prsT ds = some kvs → ∃ (as : List Addr) (ys : List (Key × V)), xs = as.map V.ref ∧ RepKV c μ H kvs ys ∧ Paired (fun p kv => SqT c.K H p [kV kv.1, kv.2]) as ys := by
  intro ds
  induction ds with
  | nil =>
    intro xs kvs r h
    cases h
    have e : xs = [] := r
    subst e
    exact ⟨[], [], rfl, RepKV.nil, .nil⟩
  | cons d ds ih =>
    intro xs kvs r h
    obtain ⟨v, vs, rfl, r1, r2⟩ := r
    unfold prsT at h
    split at h
    · rename_i e
      cases e
    · rename_i k w r' e
      injection e with e1 e2
      subst e1
      subst e2
      obtain ⟨k', hk, h⟩ := Option.bind_eq_some_iff.mp h
      obtain ⟨ps, hp, e⟩ := Option.map_eq_some_iff.mp h
      subst e
      obtain ⟨as, ys, e3, q, pp⟩ := ih r2 hp
      subst e3
      obtain ⟨a, zs, rfl, t, v1, l1, rfl, rk, v2, l2, rfl, rv, e4⟩ := r1
      have e5 : l2 = [] := e4
      subst e5
      have ek := keyD_rep rk hk
      subst ek
      exact ⟨a :: as, (k', v2) :: ys, rfl, RepKV.cons rv q, .cons t.sq pp⟩
    · cases h
theorem dic_newG {μ : List Addr} {S : Sto} {H : Hp} {kvs : List (Key × D)} {ys : List (Key × V)} {p : Addr} (hs : StoOk c μ S H) (r : RepKV c μ H kvs ys) (hp : H p = none) :
    Ext c μ H (μ ++ [p]) (upd H p (.dK ys)) ∧ StoOk c (μ ++ [p]) (S ++ [.dic kvs]) (upd H p (.dK ys)) ∧ Rep c (μ ++ [p]) (upd H p (.dK ys)) (.ref S.length) (.ref p) := by
  have e : Ext c μ H (μ ++ [p]) (upd H p (.dK ys)) := Ext.new hp
  refine ⟨e, hs.alloc hp ⟨ys, upd_same, r.1, Reps.mono e _ _ r.2⟩, p, ?_, rfl⟩
  rw [← hs.len]
  simp
theorem cDict (hK : c.K = X.K) (hc : X.calm = true) : CallR X (.type "dict") (rA c fDict) := by
  refine CallR.w ((call_dictT hc).or call_dictD) fun xs H Q h => ?_
  obtain ⟨μ, S, ds, d, S', hs, rs, hf, ha⟩ := h
  unfold fDict at hf
  split at hf
  · obtain ⟨kvs, g, e⟩ := Option.map_eq_some_iff.mp hf
    cases e
    obtain ⟨v, rfl, a, ys, rfl, q, rr⟩ := rs.one_inv
    obtain ⟨as, zs, rfl, q2, pp⟩ := prsT_rep rr g
    refine .inl ⟨a, as, zs, rfl, by rw [← hK]; exact q, by rw [← hK]; exact pp, fun p hp => ?_⟩
    obtain ⟨x1, x2, x3⟩ := dic_newG hs (RepKV.merge q2 RepKV.nil) hp
    exact ha _ _ _ x1 x2 x3
  · obtain ⟨v, rfl, a, ha1, rfl⟩ := rs.one_inv
    obtain ⟨kvs, g, e⟩ := Option.map_eq_some_iff.mp hf
    cases e
    obtain ⟨a', ys, g1, q1, rr⟩ := getD_rd hs g
    rw [ha1] at g1
    cases g1
    refine .inr ⟨a, ys, rfl, q1, fun p hp => ?_⟩
    obtain ⟨x1, x2, x3⟩ := dic_newG hs rr hp
    exact ha _ _ _ x1 x2 x3
  · cases hf
end
end FL
/-! FL25: enumerate over a tuple. -/
namespace FL
open PySem PySem.Spec PyProof.Rows L2
open AutoSeq1 (wpAny_loadPart')
abbrev itOf (t : Addr) : Obj := { cls := .type "tuple_iterator", data := .fields #[.ref t, .int 0 0] }
abbrev enOf (i : Addr) : Obj := { cls := .type "enumerate", data := .fields #[.none, .bool false, .ref i, rawInt 0, .none, .none] }
theorem enum_newT (t : Addr) (us : Array Value) (k : Nat) (dd : Option Addr) (sls : Array (Option Value)) :
    Meets (Builtin.«enumerate.__new__» ⟨[.type "enumerate", .ref t], []⟩) (fun _ R s => s.heap.get? t = some { cls := .type "tuple", dict := dd, data := .seq us k, slots := sls } ∧
      R (.ok (.ret (.ref (s.heap.push (itOf t)).objs.size))) { s with heap := (s.heap.push (itOf t)).push (enOf s.heap.objs.size) }) :=
  .of_wp fun prog w A R s h => by
    obtain ⟨hp, gg, dr, tk, os⟩ := s
    obtain ⟨ht, h⟩ := h
    have subE := sub_enumerate
    have hI : Heap.IsTuple (Shared.heap ⟨hp, gg, dr, tk, os⟩) t us := ⟨_, ht, rfl, k, rfl⟩
    wp_walk using wpAny_loadPart' ht
    refine wpAny_stack_any fun st => wpAny_pure ?_
    split
    · rename_i c _ _ _ _ _
      cases (c == Value.type "enumerate")
      · wp_walk using wpAny_loadPart' ht, wpAny_pyIter_tuple hI
        exact ⟨_, rfl, h⟩
      · wp_walk using wpAny_loadPart' ht, wpAny_pyIter_tuple hI
        exact ⟨_, rfl, h⟩
    · wp_walk using wpAny_loadPart' ht, wpAny_pyIter_tuple hI
      exact ⟨_, rfl, h⟩
theorem call_enumT {prog : Program} {w : World} {A : Around} {E : Value → Shared → Prop} {s : Shared} {t : Addr} {us : Array Value} {Q : Value → Shared → Prop} (hT : s.heap.IsTuple t us)
    (h : ∀ g, IsEnum g (s.heap.objs.size + 1) s.heap.objs.size 0 .none → g.IsTupleIter s.heap.objs.size t 0 → (∀ b o, s.heap.get? b = some o → g.get? b = some o) → Q (.ref (s.heap.objs.size + 1)) { s with heap := g }) :
    wpAny (model prog w) A (call (.type "enumerate") [.ref t]) Q E s := by
  obtain ⟨⟨cc, dd, dat, sls⟩, ht, e1, k, e2⟩ := hT
  cases (show cc = .type "tuple" from e1)
  cases (show dat = .seq us k from e2)
  have sz : (s.heap.push (itOf t)).objs.size = s.heap.objs.size + 1 := Heap.size_push ..
  refine callType_new F.called_enumerate (by decide) (F.typeCall_enumerate_1 _) (F.newCall_enumerate_1 _) (fun ob => F.args_object_init_2 ob _) F.entry_enumerate_new (enum_newT t us k dd sls) ⟨ht, ?_⟩
  show _ ∧ _
  rw [sz]
  have q : IsEnum ((s.heap.push (itOf t)).push (enOf s.heap.objs.size)) (s.heap.objs.size + 1) s.heap.objs.size 0 .none := by
    have z := Heap.get?_push_size (s.heap.push (itOf t)) (o := enOf s.heap.objs.size) rfl
    rw [sz] at z
    exact z
  exact ⟨⟨_, q, rfl⟩, h _ q ⟨_, Heap.get?_push_of_some _ (Heap.get?_push_size _ rfl), rfl, rfl⟩ fun b o x => Heap.get?_push_of_some _ (Heap.get?_push_of_some _ x)⟩
/-- the tuple at a, each item in a new pair -/
def IteT (K : PySem.W.Frag) (a : Addr) : It :=
  ⟨fun i H => ∃ (xs : List V) (x : V), SqT K H a xs ∧ xs[i]? = some x, fun i H v H' => ∃ T x, v = .ref T ∧ H T = none ∧ H' = upd H T (.tup [.int (i : Nat), x]) ∧ ∀ xs, SqT K H a xs → xs[i]? = some x, fun i H => ∃ xs : List V, SqT K H a xs ∧ xs.length ≤ i⟩
theorem turn_enumT {P : Program} {w : World} {K : PySem.W.Frag} {elts : List Expr} {kk : Nat} {tpos : Pos} (a e it : Addr) :
    Turn P w K (.Tuple elts kk tpos) (IteT K a) [e, it] e (fun i h => (∃ old, IsEnum h e it ((i : Nat) : Int) old) ∧ h.IsTupleIter it a i ∧ e ≠ it ∧ a ≠ it ∧ a ≠ e) where
  mem := by simp
  obj := by
    intro i h st b hb
    obtain ⟨⟨old, he⟩, ⟨o, ho, hc, hd⟩, _⟩ := st
    have hb' : b = e ∨ b = it := by simpa using hb
    rcases hb' with rfl | rfl
    · exact ⟨_, he, fun v q => nomatch q⟩
    · exact ⟨o, ho, fun v q => by rw [hd] at q; cases q⟩
  keep := by
    intro i h h' st k
    obtain ⟨⟨old, he⟩, hi, r⟩ := st
    exact ⟨⟨old, k e (by simp) _ he⟩, hi.at fun o q => k it (by simp) o q, r⟩
  item := by
    intro X hP hw hK hc i pins s σ H E I hf st hg
    subst hP hw hK
    obtain ⟨⟨old, he⟩, hit, hne, hat, hae⟩ := st
    obtain ⟨xs, x, hq, hx⟩ := hg
    obtain ⟨its, rv, p, hz⟩ := I.tuple hq
    obtain ⟨u, hu, ru⟩ := rv.get hx
    have lt1 : e < s.heap.objs.size := Heap.lt_size he
    have lt2 : it < s.heap.objs.size := by obtain ⟨_, q, _⟩ := hit; exact Heap.lt_size q
    have hlt : i < its.toArray.size := by
      have z := (List.getElem?_eq_some_iff.mp hu).1
      simpa using z
    refine wpAny_pyNext_enum_itemD (Draws.tuple (A := X.A.in1) (show X.A.in1.handled = none from I.ok.hd hc) it a hat its.toArray) he ⟨hit, p⟩ hlt hne (by simp [hne, Ne.symm hae]) fun y h1 tk hy ho st1 hT hsz hk => ?_
    have ey : y = u := by
      have z : its[i]? = some y := by simpa using hy
      exact Option.some.inj (z.symm.trans hu)
    subst ey
    refine ⟨_, rfl, wpAny_letOwnedTupleGo_enum (s := { s with heap := h1, toks := tk + 1 }) ho fun h2 he2 sb => ?_⟩
    have gT : h2.get? s.heap.objs.size = some { cls := .type "tuple", data := .seq #[.int i tk, y] } := (sb.2 _ (Nat.ne_of_gt lt1)).trans hT
    have new : ObjOk X.prog X.w (upd H s.heap.objs.size (.tup [.int (i : Nat), x])) h2 s.heap.objs.size (.tup [.int (i : Nat), x]) :=
      ⟨by show 2 ≤ sizeLine; decide, [.int i tk, y], .cons ⟨_, rfl⟩ (.cons ru .nil), ⟨_, gT, rfl, _, rfl⟩⟩
    have I1 : Inv X pins σ (upd H s.heap.objs.size (.tup [.int (i : Nat), x])) { s with heap := h2, toks := tk + 1 } :=
      I.turnedNew (ch := [e, it]) (fun b ob hb q => (sb.2 b (fun z => hb (by simp [z]))).trans (hk b ob (fun z => hb (by simp [z])) (fun z => hb (by simp [z])) q)) hf (Nat.le_refl _) new
    refine ⟨.ref s.heap.objs.size, _, I1, rfl, ⟨_, x, rfl, I.hok.fresh (Nat.le_refl _), rfl, fun ys hy => by rw [I.tuple_inj hy hq]; exact hx⟩, ⟨⟨y, ?_⟩, st1.1.at fun o q => (sb.2 it (Ne.symm hne)).trans q, hne, hat, hae⟩, fun b hb => ?_⟩
    · have z : ((i + 1 : Nat) : Int) = (i : Int) + 1 := by omega
      rw [z]
      exact he2
    · have hb' : b < s.heap.objs.size := by
        have q : b = e ∨ b = it := by simpa using hb
        rcases q with rfl | rfl
        · exact lt1
        · exact lt2
      rw [upd_ne (Nat.ne_of_lt hb')]
      exact (hf b hb).1
  done := by
    intro X hP hw hK hc i pins s σ H E I hf st hg
    subst hP hw hK
    obtain ⟨⟨old, he⟩, hit, hne, hat, hae⟩ := st
    obtain ⟨xs, hq, hx⟩ := hg
    obtain ⟨its, rv, p, hz⟩ := I.tuple hq
    obtain ⟨f0, f1, f2, f3, f4, f5⟩ := hf it (by simp)
    have hl := rv.length
    have hT : s.TypeIs (.ref e) "enumerate" := ⟨_, he, rfl⟩
    unfold pyNext
    refine wpAny_bind (wpAny_attempt (wpAny_callSpecial?_slot (name := Str.ofString "__next__") hT F.slot_enumerate_next (wpAny_call_entry F.slot_enumerate_next hT F.entry_enumerate_next ?_ (F.args_enumerate_next_1 _))))
    show wpAny _ _ (field (.ref e) 2 >>= _) _ _ _
    refine wpAny_bind (wpAny_field he rfl (x := .ref it) rfl ?_)
    refine wpAny_bind (wpAny_nextOf_tuple_end (I.ok.hd hc) hit p (by simp; omega) fun g y ek hy => ?_)
    obtain ⟨o, ho, hcl⟩ := hy
    refine wpAny_bind (wpAny_isInstance (T := "StopIteration") (b := true) ⟨o, ho, hcl⟩ isSubtype_stop ?_)
    exact wpAny_pure ⟨rfl, I.turned (t' := s.toks) (fun b o hb q => ek b o hb q) f0 f1 f3 f4 f5⟩
  self := fun A i s Q E st h => let ⟨⟨_, he⟩, _⟩ := st; wpAny_pyIter_enum he h
def iEnumTA (K : PySem.W.Frag) (ta : TA) : TI := fun σ H R => ta σ H fun vs H1 => ∃ a xs, vs = [.ref a] ∧ SqT K H1 a xs ∧ R (IteT K a) H1
theorem pi_enumT {X : Cx} {e : Expr} {ta : TA} {p pos tpos : Pos} {elts : List Expr} {kk : Nat} (hg : Gl X "enumerate") (hm : X.mg "enumerate" = none) (ha : PA X [e] ta) (hs : starEach [e] X.env = [(false, eval e X.env)] := by rfl) :
    PI X (.Tuple elts kk tpos) (.Call (.Name "enumerate" p) [e] [] pos) (iEnumTA X.K ta) := by
  refine ⟨fun pins s σ H R I h => ?_⟩
  refine Call_ (ld_blt I hg hm boot_enumerate (PyProof.Rows.callWith_type1 (thn (ha.run pos pins s σ H _ I h) fun us s1 ⟨vs, H1, I1, r1, q1⟩ => ?_) hs rfl))
  obtain ⟨a, xs, rfl, hq, q⟩ := q1
  obtain ⟨u, rfl, rx⟩ := vals1 r1
  cases rx
  obtain ⟨its, rv, p', hz⟩ := I1.tuple hq
  have lta : a < s1.heap.objs.size := by obtain ⟨_, z, _⟩ := p'; exact Heap.lt_size z
  refine call_enumT p' fun g he hit hk => wpAny_pyIter_enum he ?_
  have I2 : Inv X pins σ H1 { s1 with heap := g } := I1.kept (t' := s1.toks) hk
  refine ⟨s1.heap.objs.size + 1, [s1.heap.objs.size + 1, s1.heap.objs.size], _, _, H1, rfl, I2, turn_enumT a (s1.heap.objs.size + 1) s1.heap.objs.size, ⟨⟨.none, he⟩, hit, Nat.succ_ne_self _, Nat.ne_of_lt lta, Nat.ne_of_lt (Nat.lt_succ_of_lt lta)⟩, fun b hb => ?_, q⟩
  have le : s1.heap.objs.size ≤ b := by
    have hb' : b = s1.heap.objs.size + 1 ∨ b = s1.heap.objs.size := by simpa using hb
    rcases hb' with rfl | rfl
    · exact Nat.le_succ _
    · exact Nat.le_refl _
  exact I1.fpOk le (I1.hok.fresh le)
/-! on data -/
def enumD (i : Nat) (d : D) : D := .pr [.int (i : Nat), d]
def iEnumT (fr : FA) : FI := fun env S => th (fr env S) fun ds S1 => match ds with
  | [.tup us] => some (.fix (us.mapIdx enumD), S1)
  | _ => none
theorem q_ienumT {X : Cx} {c : FC} {e : Expr} {fr : FA} (hK : c.K = X.K) {elts : List Expr} {kk : Nat} {tpos p pos : Pos} (hg : Gl X "enumerate") (hm : X.mg "enumerate" = none) (ha : PA X [e] (tA c fr)) (hs : starEach [e] X.env = [(false, eval e X.env)] := by rfl) :
    PI X (.Tuple elts kk tpos) (.Call (.Name "enumerate" p) [e] [] pos) (tI c (iEnumT fr)) := by
  refine PI.w (pi_enumT hg hm ha hs) fun σ H R h => ?_
  obtain ⟨μ, env, S, it, S', he, hs, hf, ha⟩ := h
  obtain ⟨ds, S1, h1, hf⟩ := th_inv hf
  refine ⟨μ, env, S, ds, S1, he, hs, h1, fun μ1 H1 vs e1 k1 r1 => ?_⟩
  split at hf
  · rename_i us
    cases hf
    obtain ⟨v, rfl, a, xs, rfl, q, r⟩ := r1.one_inv
    refine ⟨a, xs, rfl, by rw [← hK]; exact q.sq, ha _ _ _ e1 k1 ?_⟩
    intro μ2 H2 S2 e2 k2 i
    have q2 : SqT c.K H2 a xs := e2.tup a xs q.sq
    have r2 := Reps.mono e2 _ _ r
    refine ⟨fun g => ?_, fun d g => ?_⟩
    · refine ⟨xs, by rw [← hK]; exact q2, ?_⟩
      have g' : (us.mapIdx enumD)[i]? = none := Option.some.inj g
      rw [r2.len]
      simpa using g'
    · have g' : (us.mapIdx enumD)[i]? = some d := Option.some.inj g
      rw [List.getElem?_mapIdx] at g'
      obtain ⟨d', g7, g8⟩ := Option.map_eq_some_iff.mp g'
      obtain ⟨v, g9, rv⟩ := r2.get g7
      refine ⟨⟨xs, v, by rw [← hK]; exact q2, g9⟩, fun x H' y => ?_⟩
      obtain ⟨T, x', rfl, hT, rfl, fv⟩ := y
      have ex : x' = v := Option.some.inj ((fv xs (by rw [← hK]; exact q2)).symm.trans g9)
      subst ex
      subst g8
      obtain ⟨x1, x2, x3⟩ := pr_new (ds := [.int i, d']) (vs := [.int i, x']) k2 ⟨_, _, rfl, rfl, _, _, rfl, rv, rfl⟩ hT
      exact ⟨μ2, x1, x2, x3⟩
  · cases hf
end FL
/-! FL26: tuple * int. -/
namespace FL
open PySem PySem.Spec PyProof.Rows L2
open AutoSeq1 (wpAny_loadPart')
theorem tuple_mul_one (l : Addr) (us : Array Value) (n : Nat) (dd : Option Addr) (sls : Array (Option Value)) (t : Tok) :
    Meets (Builtin.«tuple.__mul__» ⟨[.ref l, .int 1 t], []⟩) (fun _ R s => s.heap.get? l = some { cls := .type "tuple", dict := dd, data := .seq us n, slots := sls } ∧ R (.ok (.ret (Value.ref l))) s) :=
  .of_wp fun prog w A R s h => by
    obtain ⟨hp, gg, dr, tk, os⟩ := s
    obtain ⟨hl, h⟩ := h
    have f1 := AutoSeq1.idx_int
    wp_walk using wpAny_loadPart' hl
    exact ⟨_, rfl, h⟩
def rRepF (K : PySem.W.Frag) : R2 := fun x y H Q => ∃ a k xs, x = .ref a ∧ y = .int k ∧ SqT K H a xs ∧ xs ≠ [] ∧ 1 ≤ k ∧ k ≤ 1000 ∧ xs.length ≤ 1000 ∧ (k = 1 → Q (.ref a) H) ∧ (k ≠ 1 → NewT H (List.replicate k.toNat xs).flatten Q)
section
variable {X : Cx}
theorem op_repF : OpR X (binaryOp .Mult) (rRepF X.K) := by
  intro pins s σ H x y v u Q I rx ry h
  obtain ⟨a, k, xs, rfl, rfl, hT, hne, h1, h2, hz, q1, q2⟩ := h
  cases rx
  obtain ⟨t, rfl⟩ := ry
  obtain ⟨us, r, ⟨⟨cc, dd, dat, sls⟩, ho, e1, n, e2⟩, hs⟩ := I.tuple hT
  cases (show cc = .type "tuple" from e1)
  cases (show dat = .seq us.toArray n from e2)
  have len : us.length = xs.length := r.length.symm
  have pos : 0 < xs.length := List.length_pos_iff.mpr hne
  have emp : us.toArray.isEmpty = false := by
    cases us with
    | nil => exact absurd len.symm (Nat.ne_of_gt pos)
    | cons _ _ => rfl
  have sz : us.toArray.size = xs.length := by rw [List.size_toArray, len]
  refine wpAny_binaryOp_repeat_ref (T := "tuple") (U := "int") (by decide) ⟨_, ho, rfl⟩ (fun s' => typeIs_int s' k t) noFill_tuple_mul F.fills_int_mul F.slot_int_rmul repeat_tuple F.slot_int_index.lookup
    (call_meets F.slot_int_rmul (typeIs_int s k t) F.entry_int_rmul (F.args_int_rmul_2 _ _) (int_rmul_tuple k t a us.toArray n dd sls) ⟨ho, rfl, ⟨_, ho, rfl⟩, ?_⟩)
  by_cases hk : k = 1
  · subst hk
    exact call_meets F.slot_tuple_mul ⟨_, ho, rfl⟩ F.entry_tuple_mul (F.args_tuple_mul_2 _ _) (tuple_mul_one a us.toArray n dd sls t) ⟨ho, .ref a, H, I, rfl, q1 rfl⟩
  · have fl : (List.replicate k.toNat us).flatten.length ≤ sizeLine := by
      rw [PyProof.Rows.lm_len_rep_flat, len, sizeLine_eq]
      have z : k.toNat * xs.length ≤ 1000 * 1000 := Nat.mul_le_mul (by omega) hz
      omega
    have fl2 : (List.replicate k.toNat xs).flatten.length ≤ sizeLine := by
      rw [PyProof.Rows.lm_len_rep_flat, sizeLine_eq]
      have z : k.toNat * xs.length ≤ 1000 * 1000 := Nat.mul_le_mul (by omega) hz
      omega
    have big : ((us.toArray.size : Nat) : Int) * k ≤ 1000000 := by
      rw [sz]
      have z : ((xs.length : Nat) : Int) * k ≤ 1000 * k := Int.mul_le_mul_of_nonneg_right (by omega) (by omega)
      omega
    refine call_meets F.slot_tuple_mul ⟨_, ho, rfl⟩ F.entry_tuple_mul (F.args_tuple_mul_2 _ _) (tuple_mulW a us.toArray n dd sls k t ?_ ?_ ?_ (by omega) ?_ (by rw [size_rep, List.size_toArray]; exact fl)) ⟨ho, ?_⟩
    · rw [decide_eq_false (by omega), decide_eq_false (by omega)] <;> rfl
    · rw [emp, Bool.false_or]
      exact beq_eq_false_iff_ne.mpr hk
    · rw [emp, Bool.or_false]
      exact decide_eq_false (by omega)
    · unfold Builtin.Tuple.tupleTooMany
      rw [sizeLine_eq]
      exact decide_eq_false (by omega)
    · rw [size_rep]
      exact (q2 hk).go I fl2 (r.rep k.toNat)
end
def oMul2 : F2 := fun x y S => match x, y with
  | .tup us, .int k => if us ≠ [] ∧ 1 ≤ k ∧ k ≤ 1000 ∧ us.length ≤ 1000 then some (.tup (List.replicate k.toNat us).flatten, S) else none
  | _, _ => oMul x y S
section
variable {X : Cx} {c : FC}
theorem dMul2 (hK : c.K = X.K) : OpR X (binaryOp .Mult) (r2 c oMul2) := by
  refine OpR.w (op_repF.or (dMul (c := c))) fun x y H Q h => ?_
  obtain ⟨μ, S, dx, dy, d, S', hs, rx, ry, hf, ha⟩ := h
  unfold oMul2 at hf
  split at hf
  · rename_i us k
    split at hf
    · rename_i hz
      cases hf
      obtain ⟨z1, z2, z3, z4⟩ := hz
      obtain ⟨a, xs, rfl, q, r⟩ := rx
      obtain rfl := (show y = .int _ from ry)
      have hl := r.len
      refine .inl ⟨a, k, xs, rfl, rfl, by rw [← hK]; exact q.sq, fun e => z1 ?_, z2, z3, by omega, fun e => ?_, fun e p o hp hd => ?_⟩
      · rw [e] at hl
        exact List.eq_nil_of_length_eq_zero hl.symm
      · subst e
        have e2 : (List.replicate (1 : Int).toNat us).flatten = us := by simp
        exact ha.now hs (by rw [e2]; exact ⟨a, xs, rfl, q, r⟩)
      · obtain ⟨x1, x2, x3⟩ := tup_new hs (r.rep k.toNat) hp hd
        exact ha _ _ _ x1 x2 x3
    · cases hf
  · exact .inr ⟨μ, S, dx, dy, d, S', hs, rx, ry, hf, ha⟩
end
end FL
/-! FL27: values of dicts from ints to ints, of pairs, of enumerate over a tuple, of fields. -/
namespace FL
open PySem L2
section
variable {env : FL.Env} {S : Sto} {Q : D → Sto → Prop}
def kvI (p : Int × Int) : Key × D := (.inl p.1, .int p.2)
theorem intKV_kvI : ∀ k : List (Int × Int), intKV (k.map kvI) = some k
  | [] => rfl
  | p :: k => by
    show (intKV (k.map kvI)).map _ = _
    rw [intKV_kvI k]
    rfl
theorem prsT_pD : ∀ k : List (Int × Int), prsT (k.map pD) = some (k.map kvI)
  | [] => rfl
  | p :: k => by
    show (keyD (.int p.1)).bind (fun k' => (prsT (k.map pD)).map _) = _
    rw [prsT_pD k]
    rfl
theorem putG_new {kvs : List (Key × D)} {k : Key} {v : D} (h : k ∉ kvs.map (·.1)) : putG kvs k v = kvs ++ [(k, v)] := by
  unfold putG
  rw [if_neg]
  intro z
  rw [List.any_eq_true] at z
  obtain ⟨p, hp, e⟩ := z
  exact h (by rw [← of_decide_eq_true e]; exact List.mem_map.mpr ⟨p, hp, rfl⟩)
theorem putG_kvI {k : List (Int × Int)} {x a : Int} (h : x ∉ k.map (·.1)) : putG (k.map kvI) (.inl x) (.int a) = (k ++ [(x, a)]).map kvI := by
  rw [putG_new, List.map_append]
  · rfl
  · rw [List.map_map]
    intro z
    obtain ⟨p, hp, e⟩ := List.mem_map.mp z
    have e' : (Sum.inl p.1 : Key) = .inl x := e
    injection e' with e'
    exact h (by rw [← e']; exact List.mem_map.mpr ⟨p, hp, rfl⟩)
theorem merge_kvI : ∀ {more k : List (Int × Int)}, ((k ++ more).map (·.1)).Nodup → mergeG (k.map kvI) (more.map kvI) = (k ++ more).map kvI
  | [], k, _ => by rw [List.append_nil]; rfl
  | p :: more, k, h => by
    show mergeG (putG (k.map kvI) (.inl p.1) (.int p.2)) (more.map kvI) = _
    have e : k ++ p :: more = (k ++ [p]) ++ more := by simp
    rw [putG_kvI, merge_kvI, ← e]
    · show (((k ++ [p]) ++ more).map (·.1)).Nodup
      rw [← e]
      exact h
    · rw [List.map_append, List.nodup_append] at h
      intro z
      exact h.2.2 _ z _ List.mem_cons_self rfl
theorem valG_kvI (x : Int) : ∀ k : List (Int × Int), valG (k.map kvI) (.inl x) = ((k.find? fun p => decide (p.1 = x)).map (·.2)).map D.int
  | [] => rfl
  | p :: k => by
    have ih := valG_kvI x k
    unfold valG at ih ⊢
    rw [List.map_cons, List.find?_cons, List.find?_cons]
    by_cases e : p.1 = x
    · subst e
      rw [decide_eq_true rfl, show decide ((kvI p).1 = Sum.inl p.1) = true from decide_eq_true rfl]
      rfl
    · rw [decide_eq_false e, show decide ((kvI p).1 = Sum.inl x) = false from decide_eq_false fun z => e (by injection z)]
      exact ih
theorem w_dictT {k : List (Int × Int)} (h : (k.map (·.1)).Nodup) : W (fDict [.tup (k.map pD)] S) Q ↔ W (some (D.ref S.length, S ++ [.dic (k.map kvI)])) Q := by
  have e : fDict [.tup (k.map pD)] S = some (D.ref S.length, S ++ [.dic (k.map kvI)]) := by
    show (prsT (k.map pD)).map _ = _
    rw [prsT_pD]
    have z := merge_kvI (k := []) (more := k) h
    rw [List.nil_append] at z
    show some (_, S ++ [O.dic (mergeG [] (k.map kvI))]) = _
    rw [show ([] : List (Key × D)) = ([] : List (Int × Int)).map kvI from rfl, z]
  rw [e]
theorem w_tupR {n : Nat} {ds : List D} (h : getL S n = some ds) : W (fTuple [.ref n] S) Q ↔ Q (.tup ds) S := by
  unfold fTuple
  simp [h]
theorem w_tupT {ds : List D} : W (fTuple [.tup ds] S) Q ↔ Q (.tup ds) S := by
  unfold fTuple
  simp
theorem w_enumT {fr : FA} {QI : ItD → Sto → Prop} (h : W (fr env S) fun ds S1 => ∃ us, ds = [.tup us] ∧ QI (.fix (us.mapIdx enumD)) S1) : W (iEnumT fr env S) QI := by
  obtain ⟨ds, S1, e, us, rfl, q⟩ := h
  exact ⟨_, S1, by unfold iEnumT; rw [e]; rfl, q⟩
theorem w_fld {ks : List Str} {fa : FE} {f : Str} : W (eFld ks fa f env S) Q ↔ W (fa env S) fun x S1 => ∃ n k fs d, x = .ref n ∧ S1[n]? = some (.ins k fs) ∧ k ∈ ks ∧ fs.lookup f = some d ∧ Q d S1 := by
  constructor
  · rintro ⟨d, S2, e, q⟩
    unfold eFld at e
    obtain ⟨x, S1, e1, e⟩ := th_inv e
    split at e
    · split at e
      · rename_i k fs g
        split at e
        · obtain ⟨d', e2, e3⟩ := Option.map_eq_some_iff.mp e
          cases e3
          exact ⟨_, _, e1, _, k, fs, d, rfl, g, by assumption, e2, q⟩
        · cases e
      · cases e
    · cases e
  · rintro ⟨x, S1, e, n, k, fs, d, rfl, g, hk, hl, q⟩
    refine ⟨d, S1, ?_, q⟩
    unfold eFld
    rw [e]
    simp [th, g, hk, hl]
end
end FL
/-! FL28: d.get(k, x), d[k] = v, fields set, methods, by values. -/
namespace FL
open PySem L2
section
variable {env : FL.Env} {S : Sto} {Q : D → Sto → Prop} {QE : FL.Env → Sto → Prop}
theorem getD_of {n : Nat} {kvs : List (Key × D)} (h : S[n]? = some (.dic kvs)) : getD S n = some kvs := by unfold getD; simp [h]
theorem w_get2 {fo fk fx : FE} (h : W (fo env S) fun o S1 => ∃ n kvs, o = .ref n ∧ S1[n]? = some (.dic kvs) ∧ W (fk env S1) fun k S2 => ∃ x : Int, k = .int x ∧ W (fx env S2) fun z S3 => ∃ ks : List (Int × Int), S3[n]? = some (.dic (ks.map kvI)) ∧ ∀ d, d = (((ks.find? fun p => decide (p.1 = x)).map (·.2)).map D.int).getD z → Q d S3) : W (eGet2 fo fk fx env S) Q := by
  obtain ⟨o, S1, e1, n, kvs, rfl, g1, k, S2, e2, x, rfl, z, S3, e3, ks, g3, q⟩ := h
  unfold eGet2
  refine (W_th ..).mpr ⟨_, _, e1, (W_th ..).mpr ⟨_, _, e2, (W_th ..).mpr ⟨_, _, e3, ?_⟩⟩⟩
  simp only [getD_of g1, getD_of g3, keyD]
  rw [valG_kvI]
  cases e : (ks.find? fun p => decide (p.1 = x)).map (·.2) with
  | none =>
    refine ⟨_, _, rfl, q _ ?_⟩
    rw [e]
    rfl
  | some v =>
    refine ⟨_, _, rfl, q _ ?_⟩
    rw [e]
    rfl
theorem w_setI {fo fi : FE} {n : Nat} {ks : List (Int × Int)} {x a : Int} (h1 : fo env S = some (.ref n, S)) (h2 : fi env S = some (.int x, S)) (h : S[n]? = some (.dic (ks.map kvI))) (hz : ks.length < cap) (hx : x ∉ ks.map (·.1)) :
    W (gIx fo fi (.int a) env S) QE ↔ QE env (S.set n (.dic ((ks ++ [(x, a)]).map kvI))) := by
  unfold gIx
  simp [h1, h2, h, keyD, hz, th, putG_kvI hx]
theorem w_gfd {ks : List Str} {fo : FE} {f : Str} {d : D} {n : Nat} {k : Str} {fs : List (Str × D)} (h1 : fo env S = some (.ref n, S)) (h : S[n]? = some (.ins k fs)) (hk : k ∈ ks) (hz : fs.length < 900) :
    W (gFd ks fo f d env S) QE ↔ QE env (S.set n (.ins k (putF f d fs))) := by
  unfold gFd
  simp [h1, h, hk, hz, th]
theorem w_meth {k m : Str} {F : FF} {fo : FE} {fr : FA} (h : W (fo env S) fun x S1 => ∃ n fs, x = .ref n ∧ S1[n]? = some (.ins k fs) ∧ fs.lookup m = none ∧ W (fr env S1) fun ds S2 => W (F (.ref n :: ds) S2) Q) : W (eMeth k m F fo fr env S) Q := by
  obtain ⟨x, S1, e1, n, fs, rfl, g, hl, q⟩ := h
  unfold eMeth
  rw [W_th]
  refine ⟨_, _, e1, ?_⟩
  simp only [g, hl, and_self, if_true]
  rw [W_th]
  exact q
theorem w_make {k : Str} {F : FF} {fr : FA} (h : W (fr env S) fun ds S1 => W (F (.ref S1.length :: ds) (S1 ++ [.ins k []])) fun v S2 => v = .non ∧ Q (.ref S1.length) S2) : W (eMake k F fr env S) Q := by
  unfold eMake
  obtain ⟨ds, S1, e, v, S2, e2, rfl, q⟩ := h
  exact (W_th ..).mpr ⟨_, _, e, (W_th ..).mpr ⟨_, _, e2, _, _, rfl, q⟩⟩
end
theorem fm_succ {α β : Type} (F : α → Option β) {k : List α} {i : Nat} {p : α} (h : k[i]? = some p) : (k.take (i + 1)).filterMap F = (k.take i).filterMap F ++ (F p).toList := by
  rw [List.take_succ, h, List.filterMap_append]
  show _ ++ List.filterMap F [p] = _
  rw [List.filterMap_cons]
  cases F p <;> rfl
theorem fm_key {F : Int × Int → Option (Int × Int)} (hF : ∀ p q, F p = some q → q.1 = p.1) {k : List (Int × Int)} (nd : (k.map (·.1)).Nodup) {i : Nat} {p : Int × Int} (h : k[i]? = some p) : p.1 ∉ ((k.take i).filterMap F).map (·.1) := by
  intro z
  obtain ⟨q, hq, e⟩ := List.mem_map.mp z
  obtain ⟨r, hr, e2⟩ := List.mem_filterMap.mp hq
  obtain ⟨j, hj⟩ := List.mem_iff_getElem?.mp hr
  rw [List.getElem?_take] at hj
  split at hj
  · have e3 := hF _ _ e2
    have a : (k.map (·.1))[i]? = some p.1 := by rw [List.getElem?_map, h]; rfl
    have b : (k.map (·.1))[j]? = some p.1 := by rw [List.getElem?_map, hj]; show some r.1 = _; rw [← e3, e]
    have c := (List.getElem?_inj (List.getElem?_eq_some_iff.mp a).1 nd).mp (a.trans b.symm)
    omega
  · cases hj
end FL
/-! FL29: equality of data without references; comprehensions whose elements are new objects. -/
namespace FL
open PySem L2
/-- data without references, of depth at most n, texts that can be laid -/
def okD : Nat → D → Bool
  | _, .non => true
  | _, .bl _ => true
  | _, .int _ => true
  | _, .str x => PyData.strOk x
  | n + 1, .tup ds => ds.all (okD n)
  | _, _ => false
theorem okD_sd : ∀ (n : Nat) (d : D), okD n d = true → noRef d = true ∧ (dPy d).canLay0 = true ∧ (dPy d).depth ≤ n := by
  intro n
  induction n with
  | zero =>
    intro d h
    cases d with
    | non => exact ⟨rfl, sh_non.1, by show PyData.depth .none ≤ 0; simp [PyData.depth]⟩
    | bl b => exact ⟨rfl, (sh_bl b).1, by show PyData.depth (.bool b) ≤ 0; simp [PyData.depth]⟩
    | int b => exact ⟨rfl, (sh_int b).1, by show PyData.depth (.int b) ≤ 0; simp [PyData.depth]⟩
    | str x => exact ⟨rfl, by show PyData.canLay0 (.str x) = true; rw [PyData.canLay0]; exact h, by show PyData.depth (.str x) ≤ 0; simp [PyData.depth]⟩
    | tup ds => simp [okD] at h
    | ref m => simp [okD] at h
    | pr ds => simp [okD] at h
  | succ n ih =>
    intro d h
    cases d with
    | non => exact ⟨rfl, sh_non.1, by show PyData.depth .none ≤ _; simp [PyData.depth]⟩
    | bl b => exact ⟨rfl, (sh_bl b).1, by show PyData.depth (.bool b) ≤ _; simp [PyData.depth]⟩
    | int b => exact ⟨rfl, (sh_int b).1, by show PyData.depth (.int b) ≤ _; simp [PyData.depth]⟩
    | str x => exact ⟨rfl, by show PyData.canLay0 (.str x) = true; rw [PyData.canLay0]; exact h, by show PyData.depth (.str x) ≤ _; simp [PyData.depth]⟩
    | ref m => simp [okD] at h
    | pr ds => simp [okD] at h
    | tup ds =>
      have h' : ∀ d ∈ ds, okD n d = true := by
        have : ds.all (okD n) = true := h
        rw [List.all_eq_true] at this
        exact this
      clear h
      have key : noRefs ds = true ∧ PyData.canLayAll0 (dPys ds) = true ∧ PyData.depthAll (dPys ds) ≤ n := by
        induction ds with
        | nil => exact ⟨rfl, by simp [dPys, PyData.canLayAll0], by simp [dPys, PyData.depthAll]⟩
        | cons d ds ih2 =>
          obtain ⟨a1, a2, a3⟩ := ih2 fun x hx => h' x (List.mem_cons_of_mem _ hx)
          obtain ⟨b1, b2, b3⟩ := ih d (h' d List.mem_cons_self)
          refine ⟨by show (noRef d && noRefs ds) = true; rw [a1, b1]; rfl, by show PyData.canLayAll0 (dPy d :: dPys ds) = true; rw [PyData.canLayAll0, b2, a2]; rfl, ?_⟩
          show PyData.depthAll (dPy d :: dPys ds) ≤ n
          rw [PyData.depthAll]
          omega
      refine ⟨key.1, by show PyData.canLay0 (.tuple (dPys ds)) = true; rw [PyData.canLay0]; exact key.2.1, ?_⟩
      show PyData.depth (.tuple (dPys ds)) ≤ n + 1
      rw [PyData.depth]
      have := key.2.2
      omega
section
variable {S : Sto} {Q : D → Sto → Prop}
theorem w_neR {x : D} (h : okD 20 x = true) : W (oNe x x S) Q ↔ Q (.bl false) S := by
  obtain ⟨h1, h2, h3⟩ := okD_sd _ _ h
  exact w_neS (toPy_nr h1) (toPy_nr h1) ⟨h2, by omega⟩
theorem w_eqR {x : D} (h : okD 20 x = true) : W (oEq x x S) Q ↔ Q (.bl true) S := by
  obtain ⟨h1, h2, h3⟩ := okD_sd _ _ h
  exact w_eqS (toPy_nr h1) (toPy_nr h1) ⟨h2, by omega⟩
theorem okD_map {α : Type} {f : α → D} {n : Nat} (h : ∀ x, okD n (f x) = true) (l : List α) : okD (n + 1) (.tup (l.map f)) = true := by
  show (l.map f).all (okD n) = true
  rw [List.all_eq_true]
  intro d hd
  obtain ⟨x, _, rfl⟩ := List.mem_map.mp hd
  exact h x
theorem okD_mono {n m : Nat} (h : n ≤ m) : ∀ {d : D}, okD n d = true → okD m d = true := by
  induction n generalizing m with
  | zero =>
    intro d k
    cases d with
    | tup ds => simp [okD] at k
    | ref m => simp [okD] at k
    | pr ds => simp [okD] at k
    | str x => cases m <;> exact k
    | _ => cases m <;> rfl
  | succ n ih =>
    intro d k
    cases m with
    | zero => omega
    | succ m =>
      cases d with
      | tup ds =>
        show ds.all (okD m) = true
        have : ds.all (okD n) = true := k
        rw [List.all_eq_true] at this ⊢
        exact fun x hx => ih (by omega) (this x hx)
      | ref m => simp [okD] at k
      | pr ds => simp [okD] at k
      | str x => exact k
      | _ => rfl
theorem w_eNot {fa : FE} {env : FL.Env} : W (eNot fa env S) Q ↔ W (fa env S) fun x S1 => match tru x S1 with
    | some b => Q (.bl (!b)) S1
    | none => False := by
  unfold eNot
  rw [W_th]
  have key : ∀ (x : D) (S1 : Sto), W (match tru x S1 with
      | some b => some (D.bl (!b), S1)
      | none => none) Q ↔ match tru x S1 with
      | some b => Q (.bl (!b)) S1
      | none => False := by
    intro x S1
    cases tru x S1 <;> simp
  constructor
  · rintro ⟨x, S1, e, h⟩
    exact ⟨x, S1, e, (key x S1).mp h⟩
  · rintro ⟨x, S1, e, h⟩
    exact ⟨x, S1, e, (key x S1).mpr h⟩
/-- what stands at the places from lo on, below hi, stays -/
def Sp (lo hi : Nat) (S S' : Sto) : Prop := ∀ m, lo ≤ m → m < hi → ∀ o, S[m]? = some o → S'[m]? = some o
theorem Ap.sp {S S' : Sto} (h : Ap S S') (lo hi : Nat) : Sp lo hi S S' := fun m _ _ o e => h m o e
/-- a comprehension whose elements are new: the i-th one has its own span of places -/
theorem w_lcq {env : FL.Env} {fi : FI} {g : FG} {tt : FT} {te : FE} {vs : List Nat} {ds : List D} (P : Nat → Nat → Nat → D → Sto → Prop)
    (hP : ∀ lo hi i y S S', Sp lo hi S S' → P lo hi i y S → P lo hi i y S')
    (hi : W (fi env S) fun it S1 => Ap S S1 ∧ ds.length ≤ it.len ∧ ∀ S2, Ap S1 S2 → ∀ i, it.it S2 i = some ds[i]?)
    (hb : ∀ i d, ds[i]? = some d → ∀ S2, Ap S S2 → S.length < S2.length → W (g d (wipeE env vs) S2) fun e1 S3 => W (tt e1 S3) fun k S4 => k = true ∧ Ap S2 S4 ∧ W (te e1 S4) fun y S5 => Ap S4 S5 ∧ P S2.length S5.length i y S5)
    (hl : ds.length ≤ cap)
    (hq : ∀ (n : Nat) (S' : Sto) (ys : List D) (L : Nat → Nat), Ap S S' → S.length ≤ n → S'[n]? = some (.lst ys) → ys.length = ds.length → n < L 0 → (∀ i, L i ≤ L (i + 1)) → L ds.length ≤ S'.length → (∀ i, i < ds.length → ∃ y, ys[i]? = some y ∧ P (L i) (L (i + 1)) i y S') → Q (.ref n) S') : W (eLc fi g tt te vs env S) Q := by
  refine w_lc ?_
  obtain ⟨it, S1, e, a1, hlen, hit⟩ := hi
  refine ⟨it, S1, e, ?_⟩
  refine Exists.elim (lc_inv (it := it) (ds := ds) (g := g) (tt := tt) (te := te) (n := S1.length) (env := wipeE env vs) (S := S1 ++ [.lst []]) (fun i acc S' => Ap S1 S' ∧ S1.length < S'.length ∧ acc.length = i ∧
      ∃ L : Nat → Nat, S1.length < L 0 ∧ (∀ j, L j ≤ L (j + 1)) ∧ (∀ j, i ≤ j → L j = S'.length) ∧ ∀ j, j < i → ∃ y, acc[j]? = some y ∧ P (L j) (L (j + 1)) j y S')
    (fun i acc S' h _ => hit S' h.1 i) hlen (fun i d acc S' hd hI hn => ?_) ⟨Ap.app _ _, by simp, rfl, fun _ => S1.length + 1, Nat.lt_succ_self _, fun _ => Nat.le_refl _, fun j _ => by simp, fun j hj => by omega⟩ (new_at _ _)) (fun S2 hh => ?_)
  · obtain ⟨aS, lS, ea, L, L0, Lm, Le, LP⟩ := hI
    have hi' := (List.getElem?_eq_some_iff.mp hd).1
    obtain ⟨e1, S3, q1, k, S4, q2, rfl, a4, h⟩ := hb i d hd S' (a1.trans aS) (by have := a1.len; omega)
    refine ⟨e1, S3, q1, _, S4, q2, ?_⟩
    refine iteT ?_
    obtain ⟨y, S5, q3, a5, hPy⟩ := h
    have l5 : S'.length ≤ S5.length := (a4.trans a5).len
    have Li : L i = S'.length := Le i (Nat.le_refl _)
    have sp : ∀ lo hi, S1.length < lo → Sp lo hi S5 (S5.set S1.length (.lst (acc ++ [y]))) := fun lo hi h m h1 h2 o e => by
      rw [List.getElem?_set_ne (by omega)]
      exact e
    have Lmono : ∀ j, S1.length < L j := fun j => by
      induction j with
      | zero => exact L0
      | succ j ih => exact Nat.lt_of_lt_of_le ih (Lm j)
    obtain ⟨L', k1, k2⟩ : ∃ L' : Nat → Nat, (∀ j, j ≤ i → L' j = L j) ∧ ∀ j, ¬ j ≤ i → L' j = S5.length := ⟨fun j => if j ≤ i then L j else S5.length, fun j h => if_pos h, fun j h => if_neg h⟩
    refine ⟨_, S5, q3, a5 _ _ (a4 _ _ hn), by omega, (aS.trans (a4.trans a5)).set (Nat.le_refl _), by rw [List.length_set]; omega, by simp [ea], L', ?_, fun j => ?_, fun j hj => ?_, fun j hj => ?_⟩
    · rw [k1 0 (Nat.zero_le _)]
      exact L0
    · by_cases h1 : j + 1 ≤ i
      · rw [k1 _ (by omega), k1 _ h1]
        exact Lm j
      · rw [k2 _ h1]
        by_cases h2 : j ≤ i
        · rw [k1 _ h2]
          have : j = i := by omega
          subst this
          omega
        · rw [k2 _ h2]
          exact Nat.le_refl _
    · rw [k2 _ (by omega), List.length_set]
    · by_cases h1 : j < i
      · obtain ⟨y', hy, hp⟩ := LP j h1
        refine ⟨y', by rw [List.getElem?_append_left (by omega)]; exact hy, ?_⟩
        rw [k1 _ (by omega), k1 _ (by omega)]
        exact hP _ _ _ _ _ _ (sp _ _ (Lmono j)) (hP _ _ _ _ _ _ ((a4.trans a5).sp _ _) hp)
      · have : j = i := by omega
        subst this
        refine ⟨y, by rw [List.getElem?_append_right (by omega), ea, Nat.sub_self]; rfl, ?_⟩
        rw [k1 _ (Nat.le_refl _), k2 _ (by omega), Li]
        exact hP _ _ _ _ _ _ (sp _ _ lS) hPy
  · obtain ⟨acc, e2, e3, a2, l2, e4, L, L0, Lm, Le, LP⟩ := hh
    exact ⟨S2, e2, hq _ _ acc L (a1.trans a2) a1.len e3 e4 L0 Lm (Nat.le_of_eq (Le _ (Nat.le_refl _))) LP⟩
/-- lists that are told by a function of the index -/
def lf (n : Nat) (f : Nat → D) : List D := (List.range n).map f
theorem lf_len (n : Nat) (f : Nat → D) : (lf n f).length = n := by simp [lf]
theorem lf_at {n k : Nat} {f : Nat → D} (h : k < n) : atI (lf n f) (k : Int) = some (f k) := by
  refine FL.atI_nat ?_
  unfold lf
  rw [List.getElem?_map, List.getElem?_range h]
  rfl
theorem lf_set {n k : Nat} {f : Nat → D} {x : D} (h : k < n) : (lf n f).set k x = lf n fun j => if j = k then x else f j := by
  apply List.ext_getElem?
  intro i
  unfold lf
  by_cases e : k = i
  · subst e
    rw [List.getElem?_set_self (by simpa using h), List.getElem?_map, List.getElem?_range h]
    simp
  · rw [List.getElem?_set_ne e, List.getElem?_map, List.getElem?_map]
    by_cases hi : i < n
    · rw [List.getElem?_range hi]
      simp [Ne.symm e]
    · rw [List.getElem?_eq_none (by simpa using hi)]
      rfl
theorem lf_congr {n : Nat} {f g : Nat → D} (h : ∀ k, k < n → f k = g k) : lf n f = lf n g := List.map_congr_left fun k hk => h k (List.mem_range.mp hk)
theorem lf_ixN {n k : Nat} {f : Nat → D} (h : k < n) : ixN (lf n f).length (k : Int) = some k := by
  rw [lf_len]
  unfold ixN
  rw [if_pos (by omega), if_pos (by omega)]
  rfl
theorem lf_of {n : Nat} {ys : List D} {P : Nat → D → Prop} (hl : ys.length = n) (h : ∀ i, i < n → ∃ y, ys[i]? = some y ∧ P i y) : ∃ f : Nat → D, ys = lf n f ∧ ∀ i, i < n → P i (f i) := by
  refine ⟨fun i => ys.getD i .non, ?_, fun i hi => ?_⟩
  · apply List.ext_getElem?
    intro i
    unfold lf
    rw [List.getElem?_map]
    by_cases hi : i < n
    · rw [List.getElem?_range hi, List.getElem?_eq_getElem (by omega)]
      simp [List.getD_eq_getElem?_getD, List.getElem?_eq_getElem (show i < ys.length by omega)]
    · rw [List.getElem?_eq_none (by omega), List.getElem?_eq_none (by simpa using hi)]
      rfl
  · obtain ⟨y, e, p⟩ := h i hi
    show P i (ys.getD i .non)
    rw [List.getD_eq_getElem?_getD, e]
    exact p
end
theorem Tape.kn {S S' : Sto} {n m q : Nat} (h : Tape S n m) (a : Kn q S S') (h1 : n ≠ q) (h2 : m ≠ q) : Tape S' n m := by
  obtain ⟨cells, x1, x2, x3, x4, g1, g2, h3⟩ := h
  exact ⟨cells, x1, x2, x3, x4, a _ _ h1 g1, a _ _ h2 g2, h3⟩
end FL
/-! FL30: sorted(list of pairs of numbers); name = a dict comprehension. -/
namespace FL
open PySem PySem.Spec PyProof.Rows L2
/-- sorted(xs), the i-th of which is the pair ks[i] -/
def rSortPT (K : PySem.W.Frag) : List V → Hp → VK → Prop := fun vs H Q => ∃ (a : Addr) (xs : List V) (ks : List (Int × Int)), vs = [V.ref a] ∧ SqL K H a xs ∧ xs.length = ks.length ∧
  (∀ (i : Nat) (x : V) (k : Int × Int), xs[i]? = some x → ks[i]? = some k → ∃ t, x = V.ref t ∧ SqT K H t [.int k.1, .int k.2]) ∧
  ∀ (zs : List (V × Int × Int)) (p : Addr), zs.Perm (xs.zip ks) → (zs.map (·.2)).Pairwise later → H p = none → Q (.ref p) (upd H p (.lst (zs.map (·.1))))
section
variable {X : Cx}
theorem cr_sortPT : CallR X (.builtin "sorted") (rSortPT X.K) := by
  intro pins s σ H vs us Q I r h
  obtain ⟨a, xs, ks, rfl, hs, hl, hx, q⟩ := h
  obtain ⟨its, rv, hli, hz⟩ := I.list hs
  obtain ⟨u, rfl, ru⟩ := vals1 r
  obtain rfl : u = Value.ref a := ru
  have isref : ∀ x ∈ xs, ∃ t, x = V.ref t := fun x m => by
    obtain ⟨i, hi⟩ := List.mem_iff_getElem?.mp m
    obtain ⟨t, e, _⟩ := hx i x ks[i]! hi (by
      have := (List.getElem?_eq_some_iff.mp hi).1
      rw [List.getElem?_eq_getElem (by omega), getElem!_pos ks i (by omega)])
    exact ⟨t, e⟩
  obtain ⟨e1, e2⟩ := refs_back rv isref
  -- the i-th value is a pair
  have pr : ∀ (i : Nat) (v : Value) (k : Int × Int), its[i]? = some v → ks[i]? = some k → Srt.IsPair s.heap v k.1 k.2 := by
    intro i v k h1 h2
    have h3 : xs[i]? = some (backV v) := by rw [e1, List.getElem?_map, h1]; rfl
    obtain ⟨t, e, ht⟩ := hx i _ k h3 h2
    obtain ⟨t', rfl⟩ := e2 v (List.mem_of_getElem? h1)
    cases e
    obtain ⟨its2, r2, ⟨o, ho, hc, n, hd⟩, _⟩ := I.tuple ht
    obtain ⟨u1, u2, rfl, ri, rj⟩ := vals2 r2
    obtain ⟨t1, rfl⟩ := ri
    obtain ⟨t2, rfl⟩ := rj
    exact ⟨_, o, t1, t2, n, rfl, ho, hc, hd⟩
  have lits : its.length = ks.length := by rw [← rv.length]; exact hl
  have ex : ∀ v ∈ its, ∃ k, Srt.IsPair s.heap v k.1 k.2 ∧ two s.heap v = k := fun v hv => by
    obtain ⟨i, hi⟩ := List.mem_iff_getElem?.mp hv
    have hlt := (List.getElem?_eq_some_iff.mp hi).1
    have p := pr i v ks[i] hi (List.getElem?_eq_getElem (by omega))
    exact ⟨_, p, two_of p⟩
  refine SrtO.sorted_pairsO (k := two s.heap) hli.isList (by rw [← rv.length]; exact hz) (fun v hv => ?_) fun h' d out h1 h2 kp hd hn => ?_
  · obtain ⟨k, p, e⟩ := ex v hv
    rw [e]
    exact p
  · have h3 : ∀ u ∈ out, ∃ a, u = Value.ref a := fun u hu => e2 u (h2.perm.mem_iff.mp hu)
    obtain ⟨n, hn⟩ := hn
    have ez : xs.zip ks = its.map fun v => (backV v, two s.heap v) := by
      apply List.ext_getElem?
      intro i
      rw [List.getElem?_map, List.zip_eq_zipWith, List.getElem?_zipWith, e1, List.getElem?_map]
      by_cases hi : i < its.length
      · have g1 := List.getElem?_eq_getElem hi
        have g2 := List.getElem?_eq_getElem (show i < ks.length by omega)
        rw [g1, g2]
        show some (backV its[i], ks[i]) = some (backV its[i], two s.heap its[i])
        rw [two_of (pr i _ _ g1 g2)]
      · rw [List.getElem?_eq_none (by omega)]
        rfl
    have Q2 := q (out.map fun v => (backV v, two s.heap v)) d (by rw [ez]; exact h2.perm.map _) (by
      rw [List.map_map]
      exact List.pairwise_map.mpr h1) (I.hok.fresh hd)
    rw [List.map_map] at Q2
    refine ⟨.ref d, upd H d (.lst (out.map backV)), I.laid (t' := s.toks) kp hd ⟨?_, out, n, vals_back h3, hn⟩, rfl, Q2⟩
    have : (out.map backV).length = xs.length := by rw [List.length_map, h2.perm.length_eq, rv.length]
    rw [this]
    exact hz
end
def pairsD : List D → Option (List (Int × Int))
  | [] => some []
  | .tup [.int i, .int j] :: r => (pairsD r).map fun l => (i, j) :: l
  | _ :: _ => none
theorem pairsD_map : ∀ k : List (Int × Int), pairsD (k.map pD) = some k
  | [] => rfl
  | p :: k => by
    show (pairsD (k.map pD)).map _ = _
    rw [pairsD_map k]
    rfl
theorem pairsD_some : ∀ {ds : List D} {k : List (Int × Int)}, pairsD ds = some k → ds = k.map pD := by
  intro ds
  induction ds with
  | nil =>
    intro k h
    cases h
    rfl
  | cons d ds ih =>
    intro k h
    unfold pairsD at h
    split at h
    · rename_i e
      cases e
    · rename_i i j r e
      cases e
      obtain ⟨l, h1, rfl⟩ := Option.map_eq_some_iff.mp h
      rw [ih h1]
      rfl
    · cases h
def fSortP : FF := fun ds S => match ds with
  | [.ref n] => match (getL S n).bind pairsD with
    | some ks => some (.ref S.length, S ++ [.lst ((sortP ks).map pD)])
    | none => none
  | _ => none
section
variable {c : FC} {X : Cx}
theorem cSortP (hK : c.K = X.K) : CallR X (.builtin "sorted") (rA c fSortP) := by
  refine CallR.w cr_sortPT fun xs H Q h => ?_
  obtain ⟨μ, S, ds, d, S', hs, rs, hf, ha⟩ := h
  unfold fSortP at hf
  split at hf
  · rename_i n
    split at hf
    · rename_i ks g1
      cases hf
      obtain ⟨us, g2, g3⟩ := Option.bind_eq_some_iff.mp g1
      obtain rfl := pairsD_some g3
      obtain ⟨v, rfl, a, ha1, rfl⟩ := rs.one_inv
      obtain ⟨a', ys, g4, q1, rr⟩ := getL_sq hs g2
      rw [ha1] at g4
      cases g4
      have each : ∀ (i : Nat) (x : V) (k : Int × Int), ys[i]? = some x → ks[i]? = some k → Rep c μ H (pD k) x := fun i x k h1 h2 => by
        obtain ⟨v, h3, h4⟩ := rr.get (i := i) (d := pD k) (by rw [List.getElem?_map, h2]; rfl)
        rw [h1] at h3
        cases h3
        exact h4
      refine ⟨a, ys, ks, rfl, by rw [← hK]; exact q1, by rw [rr.len, List.length_map], fun i x k h1 h2 => ?_, fun zs p hp hs2 hn => ?_⟩
      · obtain ⟨t, xs2, rfl, ht, w1, ws, rfl, r1, w2, ws2, rfl, r2, r3⟩ := each i x k h1 h2
        obtain rfl := (show w1 = V.int k.1 from r1)
        obtain rfl := (show w2 = V.int k.2 from r2)
        obtain rfl := (show ws2 = [] from r3)
        exact ⟨t, rfl, by rw [← hK]; exact ht.sq⟩
      · have ez : zs.map (·.2) = sortP ks := by
          refine sortedP_uniq ?_ hs2 (sortP_sorted ks)
          have : (ys.zip ks).map (·.2) = ks := by
            rw [List.map_snd_zip]
            rw [rr.len, List.length_map]
            exact Nat.le_refl _
          exact ((hp.map (·.2)).trans (by rw [this])).trans (sortP_perm ks).symm
        have rz : ∀ z ∈ zs, Rep c μ H (pD z.2) z.1 := fun z hz => by
          have hm := hp.mem_iff.mp hz
          obtain ⟨i, hi⟩ := List.mem_iff_getElem?.mp hm
          rw [List.zip_eq_zipWith, List.getElem?_zipWith] at hi
          cases e1 : ys[i]? with
          | none => rw [e1] at hi; cases hi
          | some x =>
            cases e2 : ks[i]? with
            | none => rw [e1, e2] at hi; cases hi
            | some k =>
              rw [e1, e2] at hi
              cases hi
              exact each i x k e1 e2
        have rp : ∀ zs : List (V × Int × Int), (∀ z ∈ zs, Rep c μ H (pD z.2) z.1) → Reps c μ H ((zs.map (·.2)).map pD) (zs.map (·.1)) := fun zs => by
          induction zs with
          | nil => exact fun _ => rfl
          | cons z zs ih => exact fun h => ⟨_, _, rfl, h z List.mem_cons_self, ih fun y hy => h y (List.mem_cons_of_mem _ hy)⟩
        have rp := rp zs rz
        rw [ez] at rp
        obtain ⟨y1, y2, y3⟩ := lst_new hs rp hn
        exact ha _ _ _ y1 y2 y3
    · cases hf
  · cases hf
theorem w_sortP {n : Nat} {ks : List (Int × Int)} {S : Sto} {Q : D → Sto → Prop} (h : getL S n = some (ks.map pD)) : W (fSortP [.ref n] S) Q ↔ W (some (D.ref S.length, S ++ [.lst ((sortP ks).map pD)])) Q := by
  unfold fSortP
  simp only [h, Option.bind_some, pairsD_map]
/-! ### name = a dict comprehension -/
theorem sw_trueD {kx vx : Expr} {gs : List Comprehension} {scope : Scope} {pos py : Pos} {y : Str} {l : Nat} {env : PySem.Env} (hk : env.scope.kind = .function) (hy : env.scope.names.lookup y = some .local) (hl : (py.line == pos.line) = true)
    (ha : (scope.names.any fun (n, k) => n == y && (k == .local || k == .cell)) = false) : swapsWith (.DictComp kx vx gs scope pos) (some (.Name y py)) l env = pure true := by
  have ky : env.kindOf y = some .local := hy
  have hb : env.blockKind = .function := by unfold PySem.Env.blockKind; rw [hk]; rfl
  unfold swapsWith
  simp only [hb, ky, ha, Expr.pos, hl]
  rfl
theorem ps_setDc {i : Nat} {y : Str} {py : Pos} {kx vx tg iter : Expr} {ifs : List Expr} {scope : Scope} {own : List (Str × Nat)} {pos spos : Pos} {wi : TI} {g : TG} {tt : TT} {tk tv : TE} (hc : X.calm = true) (hN : X.N.Nodup) (hy : X.N[i]? = some y) (hyl : X.env.scope.names.lookup y = some .local)
    (hsw : swapsWith (.DictComp kx vx [⟨tg, iter, ifs, 0⟩] scope pos) (some (.Name y py)) spos.line X.env = pure true) (hi : PI X tg iter wi) (ok : BlkOk X.N X.env.scope scope own)
    (hg : ∀ (s : Shared) (H : Hp) (C : Addr) (cl : List (Str × Addr)) (fp : List Addr), PG (X.blk s H scope (compEnvC scope cl C X.env) fp) tg g) (ht : ∀ (s : Shared) (H : Hp) (C : Addr) (cl : List (Str × Addr)) (fp : List Addr), PTs (X.blk s H scope (compEnvC scope cl C X.env) fp) ifs tt)
    (hk : ∀ (s : Shared) (H : Hp) (C : Addr) (cl : List (Str × Addr)) (fp : List Addr), PE (X.blk s H scope (compEnvC scope cl C X.env) fp) kx tk)
    (he : ∀ (s : Shared) (H : Hp) (C : Addr) (cl : List (Str × Addr)) (fp : List Addr), PE (X.blk s H scope (compEnvC scope cl C X.env) fp) vx tv) (hs : ∀ x, foldedSetIterable iter X.env x = pure x := by intro _; rfl) :
    PS X (.Assign [.Name y py] (.DictComp kx vx [⟨tg, iter, ifs, 0⟩] scope pos) spos) (tAsg (tDc wi g tt tk tv (own.map (·.2))) (gName i)) := by
  refine ⟨fun pins s σ H D I h => ?_⟩
  rw [exec_Assign_Name_used _ _ _ _ hsw]
  refine wpAny_bind (wpAny_standAt (wpAny_bind ?_))
  show wpAny _ X.A (do let _ ← comprehension (.DictComp kx vx [⟨tg, iter, ifs, 0⟩] scope pos) scope X.env (firstIterPos [⟨tg, iter, ifs, 0⟩] pos) newDict false (eval iter X.env) (some (assign (.Name y py) X.env))) _ _ s
  have h : tDc wi g tt tk tv (own.map (·.2)) σ H (fun x H1 => gName i x σ H1 D.nx) := h
  refine wpAny_bind (thn (dc_core (Qf := fun _ s' => SP X pins D .next s') hc hN I hi ok hg ht hk he hs h fun L C s' m H' I' q hn f => ?_) fun _ s' hq => wpAny_pure (wpAny_pure hq))
  show wpAny _ _ (assign (.Name y py) X.env (.ref L)) _ _ _
  refine wpAny_assign_Name (store_ok2 (v := V.ref L) I' hN hy (.inl hyl) rfl (fun s2 I2 ⟨a, sb, ha⟩ => ?_) (.inr hyl))
  obtain ⟨f0, f1, f2, f3, f4, f5⟩ := f
  have haC : C ≠ a := by
    rcases ha with z | z
    · rw [z]; exact f1
    · exact fun e => f4 y a z e.symm
  refine ⟨m, hn.sameBut sb haC, fun h3 sb3 => ?_⟩
  exact ⟨_, H', I2.turned (t' := s2.toks) (fun b o hb e => (sb3.2 b hb).trans e) f0 f1 f3 f4 f5, q⟩
theorem dc_red {fi : FI} {g : FG} {tt : FT} {tk tv : FE} (vs : List Nat) {σ : L2.St} {H : Hp} {Q : VK} (h : tE c (eDc fi g tt tk tv vs) σ H Q) : tDc (tI c fi) (tG c (some vs) g) (tT c tt) (tE c tk) (tE c tv) vs σ H Q := by
  obtain ⟨μ, env, S, d, S', he, hs, hf0, ha⟩ := h
  obtain ⟨it, S1, h1, hf⟩ := th_inv hf0
  clear hf0
  obtain ⟨Sf, hf, ef⟩ := Option.map_eq_some_iff.mp hf
  cases ef
  refine ⟨μ, env, S, it, S1, he, hs, h1, fun μ1 H1 J e1 k1 ok => ?_⟩
  intro p hp
  obtain ⟨y1, y2⟩ := dic_new k1 hp
  have hn : (μ1 ++ [p])[S1.length]? = some p := by
    rw [← k1.len, List.getElem?_append_right (Nat.le_refl _), Nat.sub_self]
    rfl
  refine ⟨fun i m H2 => ∃ μ2 S2, Ext c (μ1 ++ [p]) (upd H1 p (.dK [])) μ2 H2 ∧ StoOk c μ2 S2 H2 ∧ dcI it g tt tk tv S1.length (wipeE env vs) m i S2 = some S', ⟨it.len + 1, μ1 ++ [p], _, Ext.refl, y2, hf⟩, ?_⟩
  rintro i m H2 ⟨μ2, S2, e2, k2, hw⟩
  have en : EnvOk c μ2 H2 (wipeE env vs) (wipe σ vs) := (((he.mono e1).mono y1).mono e2).wipe vs
  have hn2 := e2.pre _ _ hn
  cases m with
  | zero => cases hw
  | succ m =>
    unfold dcI at hw
    split at hw
    · rename_i d g1
      obtain ⟨go, yl⟩ := (ok μ2 H2 S2 (y1.trans e2) k2 i).2 d g1
      obtain ⟨env3, S3, h3, hw⟩ := th_inv hw
      obtain ⟨k, S4, h4, hw⟩ := th_inv hw
      refine .inr ⟨go, fun H' => ∃ μ2 S2, Ext c (μ1 ++ [p]) (upd H1 p (.dK [])) μ2 H' ∧ StoOk c μ2 S2 H' ∧ dcI it g tt tk tv S1.length (wipeE env vs) m (i + 1) S2 = some S', fun H' q => ⟨m, Nat.lt_succ_self m, q⟩, fun x H' y => ?_⟩
      obtain ⟨μ', x1, x2, x3⟩ := yl x H' y
      refine ⟨μ', _, S2, d, env3, S3, en.mono x1, x2, x3, h3, fun μ3 H3 σ3 e3 k3 r3 w3 => ⟨(w3 vs rfl).trans (q_lc.wipe_wipe σ vs), ?_⟩⟩
      refine ⟨μ3, env3, S3, k, S4, r3, k3, h4, fun μ4 H4 e4 k4 => ?_⟩
      have e24 := e2.trans ((x1.trans e3).trans e4)
      cases k with
      | false =>
        rw [if_neg Bool.false_ne_true] at hw
        refine iteF ?_
        exact ⟨μ4, S4, e24, k4, hw⟩
      | true =>
        rw [if_pos rfl] at hw
        refine iteT ?_
        obtain ⟨y, S5, h5, hw⟩ := th_inv hw
        obtain ⟨z, S6, h6, hw⟩ := th_inv hw
        refine ⟨μ4, env3, S4, y, S5, r3.mono e4, k4, h5, fun μ5 H5 v e5 k5 r5 => ?_⟩
        refine ⟨μ5, env3, S5, z, S6, (r3.mono e4).mono e5, k5, h6, fun μ6 H6 w e6 k6 r6 => ?_⟩
        split at hw
        · rename_i kvs k' g6 g7
          split at hw
          · rename_i hz
            have e26 := (e24.trans e5).trans e6
            have hn5 := e26.pre _ _ hn
            obtain ⟨a', g8, ys, q7, r7⟩ := k6.stands _ _ g6
            rw [hn5] at g8
            cases g8
            obtain ⟨z1, z2⟩ := dic_set k6 g6 hn5 q7 (r7.put (k := k') r6)
            exact ⟨ys, k', keyD_rep r5 g7, q7, by rw [r7.len]; exact cap_lt hz, μ6, _, e26.trans z1, z2, hw⟩
          · cases hw
        · cases hw
    · rename_i g1
      cases hw
      exact .inl ⟨(ok μ2 H2 S' (y1.trans e2) k2 i).1 g1, ha μ2 H2 _ ((e1.trans y1).trans e2) k2 ⟨p, hn2, rfl⟩⟩
    · cases hw
theorem q_setDc {st : Stmt} {i : Nat} {fi : FI} {g : FG} {tt : FT} {tk tv : FE} {vs : List Nat} (h : PS X st (tAsg (tDc (tI c fi) (tG c (some vs) g) (tT c tt) (tE c tk) (tE c tv) vs) (gName i))) : PS X st (tS c (sAsg (eDc fi g tt tk tv vs) (gNm i))) := by
  refine PS.w h fun Dn σ H h => ?_
  refine dc_red vs (Q := fun x H1 => gName i x σ H1 Dn.nx) ?_
  obtain ⟨μ, env, S, o, S', he, hs, hf, ha⟩ := h
  obtain ⟨d, S1, h1, hf⟩ := th_inv hf
  obtain ⟨env1, S2, h2, hf⟩ := th_inv hf
  cases h2
  cases hf
  exact ⟨μ, env, S, d, _, he, hs, h1, fun μ1 H1 v e1 k1 r1 => ha μ1 H1 e1 k1 _ ((he.mono e1).set i r1)⟩
end
end FL
/-! FL31: sorted of a tuple of pairs of numbers. -/
namespace FL
open PySem PySem.Spec PyProof.Rows L2
section
variable {prog : Program} {w : World} {A : Around} {E : Value → Shared → Prop} {s : Shared} {p : Addr} {us : List Value}
/-- the heap when the items of a tuple have been collected -/
def gath (h : Heap) (us : List Value) : Heap := (h.push (seqObj "list" #[] 0)).update h.objs.size (Obj.mapSeq (· ++ us.toArray))
theorem gather {R : List Value → Shared → Prop} (hp : IsTup s.heap p us.toArray) (hz : us.length ≤ sizeLine) (hr : R us { s with heap := gath s.heap us }) : wpAny (model prog w) A (collect (.ref p)) R E s := by
  obtain ⟨ob, at1, ty, ep, dat⟩ := hp
  have at2 := Heap.get?_push_of_some (seqObj "list" #[] 0) at1
  have at3 : (s.heap.push (seqObj "list" #[] 0)).get? s.heap.objs.size = some (seqObj "list" #[] 0) := Heap.get?_push_size _ rfl
  unfold collect
  refine wpAny_bind (wpAny_runValue (codeAny_builtin entry_proto_collect' (wpAny_bind (wpAny_newList (wpAny_pure ⟨Code.quiet_builtin _ (by decide +kernel), codeAny_builtin entry_list_iadd' ?_⟩)))))
  show wpAny _ _ (Builtin.List.listExtendWith (.ref s.heap.objs.size) (.ref p) (.ref s.heap.objs.size)) _ _ { s with heap := s.heap.push (seqObj "list" #[] 0) }
  unfold Builtin.List.listExtendWith
  refine wpAny_bind (wpAny_typeOf (T := "tuple") ⟨ob, at2, ty⟩ ?_)
  rw [if_pos (by rw [show (Value.type "tuple" == Value.type "tuple") = true from by rfl, Bool.or_true])]
  refine wpAny_bind (listItems_at at2 dat (wpAny_bind (listItems_at (xs := #[]) (n := 0) at3 rfl ?_)))
  rw [if_neg (by simp)]
  have fits : (#[] ++ us.toArray).size ≤ sizeLine + 1 := by
    rw [Array.size_append, List.size_toArray]
    show 0 + us.length ≤ _
    omega
  refine wpAny_bind (listUpdate_at (xs := #[]) (n := 0) at3 rfl (wpAny_pure ?_) (Nat.zero_le _) fits)
  refine wpAny_bind (wpAny_load (get?_update_seq at3 _) ?_)
  have eq : ((#[] : Array Value) ++ us.toArray).toList = us := by simp
  show wpAny _ _ (pure ((#[] : Array Value) ++ us.toArray).toList) R E { s with heap := gath s.heap us }
  rw [eq]
  exact wpAny_pure hr
theorem sort_tup {k : Value → Int × Int} {R : Value → Shared → Prop} (hp : IsTup s.heap p us.toArray) (hz : us.length ≤ sizeLine) (pr : ∀ v ∈ us, Srt.IsPair s.heap v (k v).1 (k v).2)
    (hr : ∀ (h' : Heap) (d : Addr) (out : List Value), SrtO.Srtd (fun v u => SrtO.lexB (k v) (k u)) out → SrtO.Stb (fun v u => SrtO.lexB (k v) (k u)) out us → (∀ b o, s.heap.get? b = some o → h'.get? b = some o) → s.heap.objs.size ≤ d → (∃ n, h'.get? d = some (seqObj "list" out.toArray n)) → R (.ref d) { s with heap := h' }) :
    wpAny (model prog w) A (call (.builtin "sorted") [.ref p]) R E s := by
  refine Calls.call_function_entry kind_sorted plain_sorted entry_sorted (args_sorted1 _) ?_
  unfold Builtin.«sorted»
  refine wpAny_bind (m := checkCount "sorted" 1 1 _) (wpAny_pure (wpAny_bind (gather hp hz (wpAny_bind (wpAny_newList ?_ hz)))))
  have len : (gath s.heap us).objs.size = s.heap.objs.size + 1 := (Heap.size_update _ _ _).trans (size_push' _ _)
  have stay : ∀ b o, s.heap.get? b = some o → (gath s.heap us).get? b = some o := fun b o e => by
    unfold gath
    rw [Heap.get?_update_ne _ _ _ _ (Nat.ne_of_lt (Heap.lt_size e))]
    exact Heap.get?_push_of_some _ e
  have now : ((gath s.heap us).push (seqObj "list" us.toArray 0)).get? (s.heap.objs.size + 1) = some (seqObj "list" us.toArray 0) := by
    rw [← len]
    exact Heap.get?_push_size _ rfl
  show wpAny _ _ _ _ _ { s with heap := (gath s.heap us).push (seqObj "list" us.toArray 0) }
  rw [len]
  refine wpAny_bind (wpAny_holding (wpAny_call_entry slot_list_sort ⟨_, now, rfl⟩ entry_list_sort (SrtO.list_sort_ord (s := { s with heap := (gath s.heap us).push (seqObj "list" us.toArray 0) }) (SrtO.swo_lex k) now hz (fun _ => ?_) fun out o1 o2 => ⟨_, rfl, wpAny_pure ⟨_, rfl, ?_⟩⟩) (args_list_sort _)))
  · by_cases z : us = []
    · subst z
      refine fun h' _ => ?_
      exact absurd (by assumption : 2 ≤ ([] : List Value).length) (by decide)
    · refine SrtO.pairs_sortableO (s := { s with heap := (gath s.heap us).push (seqObj "list" us.toArray 0) }) (List.length_pos_iff.mpr z) (fun v hv => (pr v hv).keeps fun b o e _ => Heap.get?_push_of_some _ (stay b o e)) fun o e c => ?_
      have := e.symm.trans now
      cases this
      exact absurd (Value.type.inj c) (by decide)
  · exact hr _ _ out o1 o2 (fun b o e => sortedAll_old e) (Nat.le_succ _) (sortedAll_at s.heap us out.toArray)
end
/-- sorted(t), t a tuple the i-th item of which is the pair ks[i] -/
def rSortPU (K : PySem.W.Frag) : List V → Hp → VK → Prop := fun vs H Q => ∃ (a : Addr) (xs : List V) (ks : List (Int × Int)), vs = [V.ref a] ∧ SqT K H a xs ∧ xs.length = ks.length ∧
  (∀ (i : Nat) (x : V) (k : Int × Int), xs[i]? = some x → ks[i]? = some k → ∃ t, x = V.ref t ∧ SqT K H t [.int k.1, .int k.2]) ∧
  ∀ (zs : List (V × Int × Int)) (p : Addr), zs.Perm (xs.zip ks) → (zs.map (·.2)).Pairwise later → H p = none → Q (.ref p) (upd H p (.lst (zs.map (·.1))))
section
variable {X : Cx}
theorem pairs_back {pins : List (Addr × Obj)} {σ : L2.St} {H : Hp} {s : Shared} {xs : List V} {ks : List (Int × Int)} {its : List Value} (I : Inv X pins σ H s) (rv : Vals xs its) (hl : xs.length = ks.length)
    (hx : ∀ (i : Nat) (x : V) (k : Int × Int), xs[i]? = some x → ks[i]? = some k → ∃ t, x = V.ref t ∧ SqT X.K H t [.int k.1, .int k.2]) :
    (∀ v ∈ its, ∃ a, v = Value.ref a) ∧ xs = its.map backV ∧ (∀ v ∈ its, Srt.IsPair s.heap v (two s.heap v).1 (two s.heap v).2) ∧ xs.zip ks = its.map fun v => (backV v, two s.heap v) := by
  have isref : ∀ x ∈ xs, ∃ t, x = V.ref t := fun x m => by
    obtain ⟨i, hi⟩ := List.mem_iff_getElem?.mp m
    obtain ⟨t, e, _⟩ := hx i x ks[i]! hi (by
      have := (List.getElem?_eq_some_iff.mp hi).1
      rw [List.getElem?_eq_getElem (by omega), getElem!_pos ks i (by omega)])
    exact ⟨t, e⟩
  obtain ⟨e1, e2⟩ := refs_back rv isref
  have lits : its.length = ks.length := by rw [← rv.length]; exact hl
  have pr : ∀ (i : Nat) (v : Value) (k : Int × Int), its[i]? = some v → ks[i]? = some k → Srt.IsPair s.heap v k.1 k.2 := by
    intro i v k h1 h2
    have h3 : xs[i]? = some (backV v) := by rw [e1, List.getElem?_map, h1]; rfl
    obtain ⟨t, e, ht⟩ := hx i _ k h3 h2
    obtain ⟨t', rfl⟩ := e2 v (List.mem_of_getElem? h1)
    cases e
    obtain ⟨its2, r2, ⟨o, ho, hc, n, hd⟩, _⟩ := I.tuple ht
    obtain ⟨u1, u2, rfl, ri, rj⟩ := vals2 r2
    obtain ⟨t1, rfl⟩ := ri
    obtain ⟨t2, rfl⟩ := rj
    exact ⟨_, o, t1, t2, n, rfl, ho, hc, hd⟩
  refine ⟨e2, e1, fun v hv => ?_, ?_⟩
  · obtain ⟨i, hi⟩ := List.mem_iff_getElem?.mp hv
    have hlt := (List.getElem?_eq_some_iff.mp hi).1
    have p := pr i v ks[i] hi (List.getElem?_eq_getElem (by omega))
    rw [two_of p]
    exact p
  · apply List.ext_getElem?
    intro i
    rw [List.getElem?_map, List.zip_eq_zipWith, List.getElem?_zipWith, e1, List.getElem?_map]
    by_cases hi : i < its.length
    · have g1 := List.getElem?_eq_getElem hi
      have g2 := List.getElem?_eq_getElem (show i < ks.length by omega)
      rw [g1, g2]
      show some (backV its[i], ks[i]) = some (backV its[i], two s.heap its[i])
      rw [two_of (pr i _ _ g1 g2)]
    · rw [List.getElem?_eq_none (by omega)]
      rfl
theorem cr_sortPU : CallR X (.builtin "sorted") (rSortPU X.K) := by
  intro pins s σ H vs us Q I r h
  obtain ⟨a, xs, ks, rfl, hs, hl, hx, q⟩ := h
  obtain ⟨its, rv, ht, hz⟩ := I.tuple hs
  obtain ⟨u, rfl, ru⟩ := vals1 r
  obtain rfl : u = Value.ref a := ru
  obtain ⟨e2, e1, pr, ez⟩ := pairs_back I rv hl hx
  refine sort_tup (k := two s.heap) ht (by rw [← rv.length]; exact hz) pr fun h' d out h1 h2 kp hd hn => ?_
  have h3 : ∀ u ∈ out, ∃ a, u = Value.ref a := fun u hu => e2 u (h2.perm.mem_iff.mp hu)
  obtain ⟨n, hn⟩ := hn
  have Q2 := q (out.map fun v => (backV v, two s.heap v)) d (by rw [ez]; exact h2.perm.map _) (by
    rw [List.map_map]
    exact List.pairwise_map.mpr h1) (I.hok.fresh hd)
  rw [List.map_map] at Q2
  refine ⟨.ref d, upd H d (.lst (out.map backV)), I.laid (t' := s.toks) kp hd ⟨?_, out, n, vals_back h3, hn⟩, rfl, Q2⟩
  have : (out.map backV).length = xs.length := by rw [List.length_map, h2.perm.length_eq, rv.length]
  rw [this]
  exact hz
end
/-- sorted of a list or a tuple of pairs -/
def fSortQ : FF := fun ds S => match ds with
  | [.tup us] => match pairsD us with
    | some ks => some (.ref S.length, S ++ [.lst ((sortP ks).map pD)])
    | none => none
  | _ => fSortP ds S
section
variable {c : FC} {X : Cx}
theorem reps_zip {μ : List Addr} {H : Hp} {ys : List V} {ks : List (Int × Int)} (each : ∀ (i : Nat) (x : V) (k : Int × Int), ys[i]? = some x → ks[i]? = some k → Rep c μ H (pD k) x) (hl : ys.length = ks.length)
    {zs : List (V × Int × Int)} (hp : zs.Perm (ys.zip ks)) (hs2 : (zs.map (·.2)).Pairwise later) : Reps c μ H ((sortP ks).map pD) (zs.map (·.1)) := by
  have ez : zs.map (·.2) = sortP ks := by
    refine sortedP_uniq ?_ hs2 (sortP_sorted ks)
    have : (ys.zip ks).map (·.2) = ks := by
      rw [List.map_snd_zip]
      omega
    exact ((hp.map (·.2)).trans (by rw [this])).trans (sortP_perm ks).symm
  have rz : ∀ z ∈ zs, Rep c μ H (pD z.2) z.1 := fun z hz => by
    have hm := hp.mem_iff.mp hz
    obtain ⟨i, hi⟩ := List.mem_iff_getElem?.mp hm
    rw [List.zip_eq_zipWith, List.getElem?_zipWith] at hi
    cases e1 : ys[i]? with
    | none => rw [e1] at hi; cases hi
    | some x =>
      cases e2 : ks[i]? with
      | none => rw [e1, e2] at hi; cases hi
      | some k =>
        rw [e1, e2] at hi
        cases hi
        exact each i x k e1 e2
  have rp : ∀ zs : List (V × Int × Int), (∀ z ∈ zs, Rep c μ H (pD z.2) z.1) → Reps c μ H ((zs.map (·.2)).map pD) (zs.map (·.1)) := fun zs => by
    induction zs with
    | nil => exact fun _ => rfl
    | cons z zs ih => exact fun h => ⟨_, _, rfl, h z List.mem_cons_self, ih fun y hy => h y (List.mem_cons_of_mem _ hy)⟩
  have rp := rp zs rz
  rwa [ez] at rp
theorem cSortQ (hK : c.K = X.K) : CallR X (.builtin "sorted") (rA c fSortQ) := by
  refine CallR.w (cr_sortPU.or (cSortP hK)) fun xs H Q h => ?_
  obtain ⟨μ, S, ds, d, S', hs, rs, hf, ha⟩ := h
  unfold fSortQ at hf
  split at hf
  · rename_i us
    split at hf
    · rename_i ks g1
      cases hf
      obtain rfl := pairsD_some g1
      obtain ⟨v, rfl, a, ys, rfl, q, rr⟩ := rs.one_inv
      have each : ∀ (i : Nat) (x : V) (k : Int × Int), ys[i]? = some x → ks[i]? = some k → Rep c μ H (pD k) x := fun i x k h1 h2 => by
        obtain ⟨v, h3, h4⟩ := rr.get (i := i) (d := pD k) (by rw [List.getElem?_map, h2]; rfl)
        rw [h1] at h3
        cases h3
        exact h4
      have hl : ys.length = ks.length := by rw [rr.len, List.length_map]
      refine .inl ⟨a, ys, ks, rfl, by rw [← hK]; exact q.sq, hl, fun i x k h1 h2 => ?_, fun zs p hp hs2 hn => ?_⟩
      · obtain ⟨t, xs2, rfl, ht, w1, ws, rfl, r1, w2, ws2, rfl, r2, r3⟩ := each i x k h1 h2
        obtain rfl := (show w1 = V.int k.1 from r1)
        obtain rfl := (show w2 = V.int k.2 from r2)
        obtain rfl := (show ws2 = [] from r3)
        exact ⟨t, rfl, by rw [← hK]; exact ht.sq⟩
      · obtain ⟨y1, y2, y3⟩ := lst_new hs (reps_zip each hl hp hs2) hn
        exact ha _ _ _ y1 y2 y3
    · cases hf
  · exact .inr ⟨μ, S, ds, d, S', hs, rs, hf, ha⟩
theorem w_sortQT {ks : List (Int × Int)} {S : Sto} {Q : D → Sto → Prop} : W (fSortQ [.tup (ks.map pD)] S) Q ↔ W (some (D.ref S.length, S ++ [.lst ((sortP ks).map pD)])) Q := by
  unfold fSortQ
  simp only [pairsD_map]
theorem w_sortQ {n : Nat} {ks : List (Int × Int)} {S : Sto} {Q : D → Sto → Prop} (h : getL S n = some (ks.map pD)) : W (fSortQ [.ref n] S) Q ↔ W (some (D.ref S.length, S ++ [.lst ((sortP ks).map pD)])) Q := w_sortP h
end
end FL
/-! FL32: dict comprehensions with new keys, by values. -/
namespace FL
open PySem L2
def kvD (p : Int × D) : Key × D := (.inl p.1, p.2)
theorem putG_kvD {k : List (Int × D)} {x : Int} {a : D} (h : x ∉ k.map (·.1)) : putG (k.map kvD) (.inl x) a = (k ++ [(x, a)]).map kvD := by
  rw [putG_new, List.map_append]
  · rfl
  · rw [List.map_map]
    intro z
    obtain ⟨p, hp, e⟩ := List.mem_map.mp z
    have e' : (Sum.inl p.1 : Key) = .inl x := e
    injection e' with e'
    exact h (by rw [← e']; exact List.mem_map.mpr ⟨p, hp, rfl⟩)
section
variable {S : Sto} {Q : D → Sto → Prop}
theorem w_dcD {fi : FI} {g : FG} {tt : FT} {tk tv : FE} {vs : List Nat} {env : FL.Env} {ds : List D} (F : Nat → Option (Int × D))
    (hi : W (fi env S) fun it S1 => Ap S S1 ∧ ds.length ≤ it.len ∧ ∀ S2, Ap S1 S2 → ∀ i, it.it S2 i = some ds[i]?)
    (hb : ∀ i d, ds[i]? = some d → ∀ S2, Ap S S2 → W (g d (wipeE env vs) S2) fun e1 S3 => W (tt e1 S3) fun b S4 => b = (F i).isSome ∧ Ap S2 S4 ∧ (∀ p, F i = some p → W (tk e1 S4) fun y S5 => y = .int p.1 ∧ Ap S4 S5 ∧ W (tv e1 S5) fun z S6 => z = p.2 ∧ Ap S5 S6))
    (nd : (((List.range ds.length).filterMap F).map (·.1)).Nodup) (hl : ds.length ≤ 1000)
    (hq : ∀ n S', Ap S S' → S.length ≤ n → S'[n]? = some (.dic (((List.range ds.length).filterMap F).map kvD)) → Q (.ref n) S') : W (eDc fi g tt tk tv vs env S) Q := by
  unfold eDc
  rw [W_th]
  obtain ⟨it, S1, e, a1, hlen, hit⟩ := hi
  refine ⟨it, S1, e, ?_⟩
  have key : ∀ (m i : Nat) (S' : Sto), ds.length < i + m → i ≤ ds.length → Ap S1 S' → S'[S1.length]? = some (.dic (((List.range i).filterMap F).map kvD)) →
      ∃ S2, dcI it g tt tk tv S1.length (wipeE env vs) m i S' = some S2 ∧ Ap S1 S2 ∧ S2[S1.length]? = some (.dic (((List.range ds.length).filterMap F).map kvD)) := by
    intro m
    induction m with
    | zero => intro i S' h1 h2; omega
    | succ m ih =>
      intro i S' h1 h2 a hn
      unfold dcI
      rw [hit S' a i]
      by_cases hz : i < ds.length
      · rw [List.getElem?_eq_getElem hz]
        obtain ⟨e1, S3, q1, b, S4, q2, rfl, a4, h⟩ := hb i _ (List.getElem?_eq_getElem hz) S' (a1.trans a)
        simp only [q1, th_some, q2]
        have rs : (List.range (i + 1)).filterMap F = (List.range i).filterMap F ++ (F i).toList := by
          rw [List.range_succ, List.filterMap_append]
          cases e : F i <;> simp [e]
        cases e : F i with
        | none =>
          simp only [Option.isSome_none, Bool.false_eq_true, if_false]
          refine ih (i + 1) S4 (by omega) (by omega) (a.trans a4) ?_
          rw [rs, e]
          simpa using a4 _ _ hn
        | some p =>
          simp only [Option.isSome_some, if_true]
          obtain ⟨y, S5, q3, rfl, a5, z, S6, q4, rfl, a6⟩ := h p e
          have hn6 := a6 _ _ (a5 _ _ (a4 _ _ hn))
          have ll : ((List.range i).filterMap F).length < cap := by
            have := List.length_filterMap_le F (List.range i)
            rw [List.length_range] at this
            unfold cap
            omega
          have nw : p.1 ∉ ((List.range i).filterMap F).map (·.1) := by
            have sub : List.Sublist ((List.range (i + 1)).filterMap F) ((List.range ds.length).filterMap F) := by
              refine List.Sublist.filterMap _ ?_
              have e2 : List.range (i + 1) = (List.range ds.length).take (i + 1) := by rw [List.take_range, Nat.min_eq_left (by omega)]
              rw [e2]
              exact List.take_sublist _ _
            have nd2 := nd.sublist (sub.map (·.1))
            rw [rs, e, List.map_append, List.nodup_append] at nd2
            intro z
            exact nd2.2.2 _ z p.1 (by simp) rfl
          simp only [q3, th_some, q4, hn6, keyD, List.length_map, ll, if_true]
          rw [putG_kvD nw]
          refine ih (i + 1) _ (by omega) (by omega) ((a.trans (a4.trans (a5.trans a6))).set (Nat.le_refl _)) ?_
          rw [set_at hn6, rs, e]
          rfl
      · have e : i = ds.length := by omega
        subst e
        rw [List.getElem?_eq_none (Nat.le_refl _)]
        exact ⟨S', rfl, a, hn⟩
  obtain ⟨S2, r1, r2, r3⟩ := key (it.len + 1) 0 (S1 ++ [.dic []]) (by omega) (Nat.zero_le _) (Ap.app _ _) (new_at _ _)
  have := hq _ _ (a1.trans r2) a1.len r3
  simp only []
  rw [r1]
  simpa using this
theorem w_lenD {n : Nat} {kvs : List (Key × D)} (h : S[n]? = some (.dic kvs)) : W (fLen [.ref n] S) Q ↔ Q (.int kvs.length) S := by
  unfold fLen getL
  simp [h]
theorem w_lenT {ds : List D} : W (fLen [.tup ds] S) Q ↔ Q (.int ds.length) S := by
  unfold fLen
  simp
theorem w_anyB {n : Nat} {bs : List Bool} (h : getL S n = some (bs.map D.bl)) : W (fAny [.ref n] S) Q ↔ Q (.bl (bs.any id)) S := by
  have b1 : ∀ bs : List Bool, boolsD (bs.map D.bl) = some bs := fun bs => by
    induction bs with
    | nil => rfl
    | cons b bs ih =>
      show (boolsD (bs.map D.bl)).map _ = _
      rw [ih]
      rfl
  have f : fAny [.ref n] S = some (.bl (bs.any id), S) := by
    unfold fAny bools1
    simp only [h, Option.bind_some, b1, Option.map_some]
  rw [f, W_some]
theorem w_allB {n : Nat} {bs : List Bool} (h : getL S n = some (bs.map D.bl)) : W (fAll [.ref n] S) Q ↔ Q (.bl (bs.all id)) S := by
  have b1 : ∀ bs : List Bool, boolsD (bs.map D.bl) = some bs := fun bs => by
    induction bs with
    | nil => rfl
    | cons b bs ih =>
      show (boolsD (bs.map D.bl)).map _ = _
      rw [ih]
      rfl
  have f : fAll [.ref n] S = some (.bl (bs.all id), S) := by
    unfold fAll bools1
    simp only [h, Option.bind_some, b1, Option.map_some]
  rw [f, W_some]
theorem rangeFM {α β : Type} (l : List α) (f : α → β) : (List.range l.length).filterMap (fun i => (l[i]?).map f) = l.map f := by
  induction l with
  | nil => rfl
  | cons x l ih =>
    rw [List.length_cons, List.range_succ_eq_map, List.filterMap_cons, List.filterMap_map]
    show f x :: _ = f x :: _
    congr 1
end
end FL
/-! K50: the defs of the law as functions, and their derivations (printed by gen.py) -/
namespace K50
open PySem PySem.Spec PyProof.Rows L2 FL
def topS (i : Nat) : Stmt := PySem.Challenge.pw_nocyclemore_k50_whole_caches_set_by_set.main.body.getD i (.Pass ⟨0, 0, 0, 0⟩)
abbrev s_is_known_within : Stmt := topS 14
abbrev s_of_cache : Stmt := topS 5
abbrev s_Cache_lines : Stmt := inClass (topS 1) 3
abbrev s__law_part_of : Stmt := topS 19
abbrev s_joined_known : Stmt := topS 13
abbrev s__law_sides : Stmt := topS 22
abbrev s__law_take : Stmt := topS 17
abbrev s__law_named : Stmt := topS 20
abbrev s_aged : Stmt := topS 12
abbrev s_ways_sure : Stmt := topS 6
abbrev s_used : Stmt := topS 11
abbrev s_filled : Stmt := topS 10
abbrev s_Cache_fill : Stmt := inClass (topS 1) 2
abbrev s_touched : Stmt := topS 8
abbrev s_missed : Stmt := topS 9
abbrev s_Cache_has : Stmt := inClass (topS 1) 1
abbrev s_verdicts : Stmt := topS 7
abbrev s__law_step : Stmt := topS 21
abbrev s_anything : Stmt := topS 4
abbrev s_Cache___init__ : Stmt := inClass (topS 1) 0
abbrev s_is_start : Stmt := topS 2
abbrev s__law_lines_of : Stmt := topS 18
abbrev s__law_tape : Stmt := topS 16
abbrev s_law : Stmt := topS 23
def b_is_known_within : FS := sSeq (sAsg (eCall fDict (aCons (eBin oIx (eVar 0) (eC (.int 0))) (aNil))) (gNm 2)) (sSeq (sIf (tTru (eCall fAny (aCons (eLc (iSeq (eBin oIx (eVar 1) (eC (.int 0)))) (gTp 2 (gCns (gNm 4) (gCns (gNm 5) (gNils)))) (tYs) (eOr (eBin oNotIn (eVar 4) (eVar 2)) (eBin oGt (eBin oIx (eVar 2) (eVar 4)) (eVar 5))) [4, 5]) (aNil)))) (sRet (eC (.bl false))) (sNil)) (sSeq (sIf (tB (eIsN (eBin oIx (eVar 1) (eC (.int 1))))) (sRet (eC (.bl true))) (sNil)) (sSeq (sIf (tB (eIsN (eBin oIx (eVar 0) (eC (.int 1))))) (sRet (eC (.bl false))) (sNil)) (sSeq (sAsg (eCall fDict (aCons (eBin oIx (eVar 1) (eC (.int 1))) (aNil))) (gNm 3)) (sRet (eCall fAll (aCons (eLc (iSeq (eBin oIx (eVar 0) (eC (.int 1)))) (gTp 2 (gCns (gNm 4) (gCns (gNm 5) (gNils)))) (tYs) (eAnd (eBin oIn (eVar 4) (eVar 3)) (eBin oLe (eBin oIx (eVar 3) (eVar 4)) (eVar 5))) [4, 5]) (aNil))))))))
def f_is_known_within : FF := fnF 6 2 b_is_known_within
def b_of_cache : FS := sSeq (sAsg (eDic0) (gNm 2)) (sSeq (sAsg (eDic0) (gNm 3)) (sSeq (sFor (iSeq (eVar 1)) (gNm 4) (sFor (iEnumT (aCons (eVar 4) (aNil))) (gTp 2 (gCns (gNm 5) (gCns (gNm 6) (gNils)))) (sSeq (sAsg (eVar 5) (gIx (eVar 3) (eVar 6))) (sAsg (eIf (tB (eBin oEq (eBin oIx (eVar 0) (eC (.int 2))) (eC (.str "lru")))) (eVar 5) (eC (.int 0))) (gIx (eVar 2) (eVar 6)))))) (sRet (eTup (aCons (eCall fTuple (aCons (eSortItems (eVar 2)) (aNil))) (aCons (eCall fTuple (aCons (eSortItems (eVar 3)) (aNil))) (aNil)))))))
def f_of_cache : FF := fnF 7 2 b_of_cache
def b_Cache_lines : FS := sRet (eCall fTuple (aCons (eFld ["Cache"] (eVar 0) "rows") (aNil)))
def f_Cache_lines : FF := fnF 1 1 b_Cache_lines
def b__law_part_of : FS := sSeq (sAsg (eCall fTuple (aCons (eLc (iSeq (eBin oIx (eVar 0) (eC (.int 0)))) (gTp 2 (gCns (gNm 4) (gCns (gNm 5) (gNils)))) (tB (eBin oEq (eBin oMod (eCall fInt (aCons (eVar 4) (aNil))) (eVar 1)) (eVar 2))) (eTup (aCons (eBin oDiv (eCall fInt (aCons (eVar 4) (aNil))) (eVar 1)) (aCons (eVar 5) (aNil)))) [4, 5]) (aNil))) (gNm 3)) (sRet (eTup (aCons (eVar 3) (aCons (eIf (tB (eIsN (eBin oIx (eVar 0) (eC (.int 1))))) (eC .non) (eCall fTuple (aCons (eLc (iSeq (eBin oIx (eVar 0) (eC (.int 1)))) (gTp 2 (gCns (gNm 4) (gCns (gNm 5) (gNils)))) (tB (eBin oEq (eBin oMod (eCall fInt (aCons (eVar 4) (aNil))) (eVar 1)) (eVar 2))) (eTup (aCons (eBin oDiv (eCall fInt (aCons (eVar 4) (aNil))) (eVar 1)) (aCons (eVar 5) (aNil)))) [4, 5]) (aNil)))) (aNil)))))
def f__law_part_of : FF := fnF 6 3 b__law_part_of
def b_joined_known : FS := sSeq (sAsg (eTup (aCons (eCall fDict (aCons (eBin oIx (eVar 0) (eC (.int 0))) (aNil))) (aCons (eCall fDict (aCons (eBin oIx (eVar 1) (eC (.int 0))) (aNil))) (aNil)))) (gTp 2 (gCns (gNm 2) (gCns (gNm 3) (gNils))))) (sSeq (lkS (eVar 2) (sAsg (eDc (iSeq (eVar 2)) (gNm 6) (tB (eBin oIn (eVar 6) (eVar 3))) (eVar 6) (eCall fMax (aCons (eBin oIx (eVar 2) (eVar 6)) (aCons (eBin oIx (eVar 3) (eVar 6)) (aNil)))) [6]) (gNm 4))) (sSeq (sIf (tOr (tB (eIsN (eBin oIx (eVar 0) (eC (.int 1))))) (tB (eIsN (eBin oIx (eVar 1) (eC (.int 1)))))) (sRet (eTup (aCons (eCall fTuple (aCons (eSortItems (eVar 4)) (aNil))) (aCons (eC .non) (aNil))))) (sNil)) (sSeq (sAsg (eCall fDict (aCons (eBin oIx (eVar 0) (eC (.int 1))) (aNil))) (gNm 5)) (sSeq (sFor (iSeq (eBin oIx (eVar 1) (eC (.int 1)))) (gTp 2 (gCns (gNm 6) (gCns (gNm 7) (gNils)))) (sAsg (eCall fMin (aCons (eVar 7) (aCons (eGet2 (eVar 5) (eVar 6) (eVar 7)) (aNil)))) (gIx (eVar 5) (eVar 6)))) (sRet (eTup (aCons (eCall fTuple (aCons (eSortItems (eVar 4)) (aNil))) (aCons (eCall fTuple (aCons (eSortItems (eVar 5)) (aNil))) (aNil)))))))))
def f_joined_known : FF := fnF 8 2 b_joined_known
def b__law_sides : FS := sSeq (sAsg (eBin oIx (eVar 0) (eC (.int 0))) (gNm 3)) (sSeq (sAsg (eTup (aCons (eCall f_is_known_within (aCons (eVar 1) (aCons (eVar 2) (aNil)))) (aCons (eCall f_joined_known (aCons (eVar 1) (aCons (eVar 2) (aNil)))) (aNil)))) (gTp 2 (gCns (gNm 4) (gCns (gNm 5) (gNils))))) (sSeq (sAsg (eLc (iRng1 (aCons (eVar 3) (aNil))) (gNm 7) (tYs) (eTup (aCons (eCall f__law_part_of (aCons (eVar 1) (aCons (eVar 3) (aCons (eVar 7) (aNil))))) (aCons (eCall f__law_part_of (aCons (eVar 2) (aCons (eVar 3) (aCons (eVar 7) (aNil))))) (aNil)))) [7]) (gNm 6)) (sSeq (sIf (tOr (tB (eBin oNe (eVar 4) (eCall fAll (aCons (eLc (iSeq (eVar 6)) (gTp 2 (gCns (gNm 8) (gCns (gNm 9) (gNils)))) (tYs) (eCall f_is_known_within (aCons (eVar 8) (aCons (eVar 9) (aNil)))) [8, 9]) (aNil))))) (tOr (tNot (tTru (eCall f_is_known_within (aCons (eVar 1) (aCons (eVar 5) (aNil)))))) (tNot (tTru (eCall f_is_known_within (aCons (eVar 2) (aCons (eVar 5) (aNil)))))))) (sRet (eC (.bl false))) (sNil)) (sRet (eCall fAll (aCons (eLc (iRng1 (aCons (eVar 3) (aNil))) (gNm 7) (tYs) (eBin oEq (eCall f__law_part_of (aCons (eVar 5) (aCons (eVar 3) (aCons (eVar 7) (aNil))))) (eCall f_joined_known (aCons (eBin oIx (eBin oIx (eVar 6) (eVar 7)) (eC (.int 0))) (aCons (eBin oIx (eBin oIx (eVar 6) (eVar 7)) (eC (.int 1))) (aNil))))) [7]) (aNil)))))))
def f__law_sides : FF := fnF 10 3 b__law_sides
def b__law_take : FS := sSeq (sIf (tAnd (tB (eBin oEq (eBin oIx (eVar 0) (eC (.str "left"))) (eC (.int 0)))) (tB (eBin oLt (eBin oIx (eVar 0) (eC (.str "at"))) (eCall fLen (aCons (eBin oIx (eVar 0) (eC (.str "cells"))) (aNil)))))) (sSeq (sAsg (eBin oIx (eBin oIx (eVar 0) (eC (.str "cells"))) (eBin oIx (eVar 0) (eC (.str "at")))) (gIx (eVar 0) (eC (.str "left")))) (sAsg (eBin oAdd (eBin oIx (eVar 0) (eC (.str "at"))) (eC (.int 1))) (gIx (eVar 0) (eC (.str "at"))))) (sNil)) (sSeq (sIf (tB (eBin oGt (eBin oIx (eVar 0) (eC (.str "left"))) (eC (.int 0)))) (sSeq (sAsg (eBin oMod (eCall fInt (aCons (eBin oIx (eVar 0) (eC (.str "left"))) (aNil))) (eVar 1)) (gNm 2)) (sSeq (sAsg (eBin oDiv (eBin oIx (eVar 0) (eC (.str "left"))) (eVar 1)) (gIx (eVar 0) (eC (.str "left")))) (sRet (eVar 2)))) (sNil)) (sSeq (sAsg (eBin oAdd (eBin oIx (eVar 0) (eC (.str "salt"))) (eC (.int 1))) (gIx (eVar 0) (eC (.str "salt")))) (sSeq (sAsg (eBin oMod (eCall fInt (aCons (eBin oAdd (eBin oMul (eBin oIx (eVar 0) (eC (.str "seed"))) (eC (.int 48271))) (eBin oMul (eBin oIx (eVar 0) (eC (.str "salt"))) (eC (.int 69621)))) (aNil))) (eC (.int 2147483647))) (gNm 3)) (sSeq (sAsg (eBin oMod (eCall fInt (aCons (eBin oAdd (eBin oAdd (eBin oMul (eVar 3) (eVar 3)) (eBin oMul (eBin oIx (eVar 0) (eC (.str "salt"))) (eC (.int 40692)))) (eC (.int 12345))) (aNil))) (eC (.int 2147483399))) (gNm 3)) (sRet (eBin oMod (eCall fInt (aCons (eVar 3) (aNil))) (eVar 1)))))))
def f__law_take : FF := fnF 4 2 b__law_take
def b__law_named : FS := sRet (eTup (aCons (eCall fTuple (aCons (eCall fSortQ (aCons (eLc (iSeq (eBin oIx (eVar 0) (eC (.int 0)))) (gTp 2 (gCns (gNm 2) (gCns (gNm 3) (gNils)))) (tYs) (eTup (aCons (eBin oIx (eVar 1) (eVar 2)) (aCons (eVar 3) (aNil)))) [2, 3]) (aNil))) (aNil))) (aCons (eIf (tB (eIsN (eBin oIx (eVar 0) (eC (.int 1))))) (eC .non) (eCall fTuple (aCons (eCall fSortQ (aCons (eLc (iSeq (eBin oIx (eVar 0) (eC (.int 1)))) (gTp 2 (gCns (gNm 2) (gCns (gNm 3) (gNils)))) (tYs) (eTup (aCons (eBin oIx (eVar 1) (eVar 2)) (aCons (eVar 3) (aNil)))) [2, 3]) (aNil))) (aNil)))) (aNil))))
def f__law_named : FF := fnF 4 2 b__law_named
def b_aged : FS := sSeq (sAsg (eGet2 (eCall fDict (aCons (eVar 1) (aNil))) (eVar 2) (eBin oIx (eVar 0) (eC (.int 1)))) (gNm 3)) (sSeq (sAsg (eDic (aPairs [(eVar 2, eC (.int 0))])) (gNm 4)) (sSeq (sFor (iSeq (eVar 1)) (gTp 2 (gCns (gNm 5) (gCns (gNm 6) (gNils)))) (sIf (tB (eBin oNe (eVar 5) (eVar 2))) (sSeq (sAsg (eAnd (eBin oEq (eBin oIx (eVar 0) (eC (.int 2))) (eC (.str "lru"))) (eAnd (eBin oEq (eBin oMod (eVar 5) (eBin oIx (eVar 0) (eC (.int 0)))) (eBin oMod (eVar 2) (eBin oIx (eVar 0) (eC (.int 0))))) (eBin oLe (eVar 6) (eVar 3)))) (gNm 7)) (sSeq (sAsg (eIf (tTru (eVar 7)) (eBin oAdd (eVar 6) (eC (.int 1))) (eVar 6)) (gNm 8)) (sIf (tB (eBin oLt (eVar 8) (eBin oIx (eVar 0) (eC (.int 1))))) (sAsg (eVar 8) (gIx (eVar 4) (eVar 5))) (sNil)))) (sNil))) (sRet (eCall fTuple (aCons (eSortItems (eVar 4)) (aNil))))))
def f_aged : FF := fnF 9 3 b_aged
def b_ways_sure : FS := sRet (eIf (tB (eBin oEq (eBin oIx (eVar 0) (eC (.int 2))) (eC (.str "lru")))) (eBin oIx (eVar 0) (eC (.int 1))) (eC (.int 1)))
def f_ways_sure : FF := fnF 1 1 b_ways_sure
def b_used : FS := sSeq (sAsg (eVar 1) (gTp 2 (gCns (gNm 3) (gCns (gNm 4) (gNils))))) (sSeq (sAsg (eCall f_ways_sure (aCons (eVar 0) (aNil))) (gNm 5)) (sSeq (sAsg (eGet2 (eCall fDict (aCons (eVar 3) (aNil))) (eVar 2) (eVar 5)) (gNm 6)) (sSeq (sAsg (eDic (aPairs [(eVar 2, eC (.int 0))])) (gNm 7)) (sSeq (sFor (iSeq (eVar 3)) (gTp 2 (gCns (gNm 8) (gCns (gNm 9) (gNils)))) (sIf (tB (eBin oNe (eVar 8) (eVar 2))) (sSeq (sAsg (eIf (tAnd (tB (eBin oEq (eBin oMod (eVar 8) (eBin oIx (eVar 0) (eC (.int 0)))) (eBin oMod (eVar 2) (eBin oIx (eVar 0) (eC (.int 0)))))) (tB (eBin oLt (eVar 9) (eVar 6)))) (eBin oAdd (eVar 9) (eC (.int 1))) (eVar 9)) (gNm 10)) (sIf (tB (eBin oLt (eVar 10) (eVar 5))) (sAsg (eVar 10) (gIx (eVar 7) (eVar 8))) (sNil))) (sNil))) (sSeq (sIf (tB (eIsN (eVar 4))) (sRet (eTup (aCons (eCall fTuple (aCons (eSortItems (eVar 7)) (aNil))) (aCons (eC .non) (aNil))))) (sNil)) (sRet (eTup (aCons (eCall fTuple (aCons (eSortItems (eVar 7)) (aNil))) (aCons (eCall f_aged (aCons (eVar 0) (aCons (eVar 4) (aCons (eVar 2) (aNil))))) (aNil))))))))))
def f_used : FF := fnF 11 3 b_used
def b_filled : FS := sRet (eCall f_used (aCons (eVar 0) (aCons (eVar 1) (aCons (eVar 2) (aNil)))))
def f_filled : FF := fnF 3 3 b_filled
def b_Cache_fill : FS := sSeq (sAsg (eBin oMod (eVar 1) (eFld ["Cache"] (eVar 0) "sets")) (gNm 2)) (sSeq (sAsg (eCall fTuple (aCons (eLc (iSeq (eBin oIx (eFld ["Cache"] (eVar 0) "rows") (eVar 2))) (gNm 4) (tB (eBin oNe (eVar 4) (eVar 1))) (eVar 4) [4]) (aNil))) (gNm 3)) (sAsg (eSl (eBin oAdd (eTup (aCons (eVar 1) (aNil))) (eVar 3)) pNo (pPart (eFld ["Cache"] (eVar 0) "ways"))) (gIx (eFld ["Cache"] (eVar 0) "rows") (eVar 2))))
def f_Cache_fill : FF := fnF 5 2 b_Cache_fill
def b_touched : FS := sSeq (sIf (tB (eBin oEq (eBin oIx (eVar 0) (eC (.int 2))) (eC (.str "lru")))) (sRet (eCall f_used (aCons (eVar 0) (aCons (eVar 1) (aCons (eVar 2) (aNil)))))) (sNil)) (sSeq (sAsg (eVar 1) (gTp 2 (gCns (gNm 3) (gCns (gNm 4) (gNils))))) (sSeq (sIf (tTru (eCall fAny (aCons (eLc (iSeq (eVar 3)) (gTp 2 (gCns (gNm 5) (gCns (gNm 6) (gNils)))) (tYs) (eBin oEq (eVar 5) (eVar 2)) [5, 6]) (aNil)))) (sRet (eVar 1)) (sNil)) (sRet (eTup (aCons (eCall fTuple (aCons (eCall fSortQ (aCons (eBin oAdd (eVar 3) (eTup (aCons (eTup (aCons (eVar 2) (aCons (eC (.int 0)) (aNil)))) (aNil)))) (aNil))) (aNil))) (aCons (eVar 4) (aNil)))))))
def f_touched : FF := fnF 7 3 b_touched
def b_missed : FS := sSeq (sAsg (eVar 0) (gTp 2 (gCns (gNm 2) (gCns (gNm 3) (gNils))))) (sRet (eTup (aCons (eVar 2) (aCons (eIf (tB (eIsN (eVar 3))) (eC .non) (eCall fTuple (aCons (eLc (iSeq (eVar 3)) (gNm 4) (tB (eBin oNe (eBin oIx (eVar 4) (eC (.int 0))) (eVar 1))) (eVar 4) [4]) (aNil)))) (aNil)))))
def f_missed : FF := fnF 5 2 b_missed
def b_Cache_has : FS := sSeq (sAsg (eBin oMod (eVar 1) (eFld ["Cache"] (eVar 0) "sets")) (gNm 2)) (sSeq (sAsg (eBin oIx (eFld ["Cache"] (eVar 0) "rows") (eVar 2)) (gNm 3)) (sSeq (sIf (tB (eBin oNotIn (eVar 1) (eVar 3))) (sRet (eC (.bl false))) (sNil)) (sSeq (sIf (tB (eBin oEq (eFld ["Cache"] (eVar 0) "policy") (eC (.str "lru")))) (sAsg (eBin oAdd (eTup (aCons (eVar 1) (aNil))) (eCall fTuple (aCons (eLc (iSeq (eVar 3)) (gNm 4) (tB (eBin oNe (eVar 4) (eVar 1))) (eVar 4) [4]) (aNil)))) (gIx (eFld ["Cache"] (eVar 0) "rows") (eVar 2))) (sNil)) (sRet (eC (.bl true))))))
def f_Cache_has : FF := fnF 5 2 b_Cache_has
def b_verdicts : FS := sSeq (sAsg (eVar 0) (gTp 2 (gCns (gNm 2) (gCns (gNm 3) (gNils))))) (sSeq (sIf (tTru (eCall fAny (aCons (eLc (iSeq (eVar 2)) (gTp 2 (gCns (gNm 4) (gCns (gNm 5) (gNils)))) (tYs) (eBin oEq (eVar 4) (eVar 1)) [4, 5]) (aNil)))) (sRet (eLst (aCons (eC (.bl true)) (aNil)))) (sNil)) (sSeq (sIf (tAnd (tB (eNotN (eVar 3))) (tNot (tTru (eCall fAny (aCons (eLc (iSeq (eVar 3)) (gTp 2 (gCns (gNm 4) (gCns (gNm 5) (gNils)))) (tYs) (eBin oEq (eVar 4) (eVar 1)) [4, 5]) (aNil)))))) (sRet (eLst (aCons (eC (.bl false)) (aNil)))) (sNil)) (sRet (eLst (aCons (eC (.bl true)) (aCons (eC (.bl false)) (aNil)))))))
def f_verdicts : FF := fnF 6 2 b_verdicts
def b__law_step : FS := sSeq (sAsg (eCall f_verdicts (aCons (eVar 2) (aCons (eVar 3) (aNil)))) (gNm 5)) (sSeq (sAsg (eMeth "Cache" "has" f_Cache_has (eVar 1) (aCons (eVar 3) (aNil))) (gNm 6)) (sSeq (sAsg (eIf (tTru (eVar 6)) (eCall f_touched (aCons (eVar 0) (aCons (eVar 2) (aCons (eVar 3) (aNil))))) (eCall f_missed (aCons (eVar 2) (aCons (eVar 3) (aNil))))) (gNm 7)) (sSeq (sIf (tAnd (tNot (tTru (eVar 6))) (tB (eBin oGt (eVar 4) (eC (.int 0))))) (sSeq (sDrop (eMeth "Cache" "fill" f_Cache_fill (eVar 1) (aCons (eVar 3) (aNil)))) (sAsg (eCall f_filled (aCons (eVar 0) (aCons (eVar 7) (aCons (eVar 3) (aNil))))) (gNm 7))) (sNil)) (sRet (eTup (aCons (eVar 6) (aCons (eVar 5) (aCons (eVar 7) (aNil)))))))))
def f__law_step : FF := fnF 8 5 b__law_step
def b_anything : FS := sRet (eTup (aCons (eTup (aNil)) (aCons (eC .non) (aNil))))
def f_anything : FF := fnF 0 0 b_anything
def b_Cache___init__ : FS := sSeq (sAsg (eVar 1) (gTp 3 (gCns (gFd ["Cache"] (eVar 0) "sets") (gCns (gFd ["Cache"] (eVar 0) "ways") (gCns (gFd ["Cache"] (eVar 0) "policy") (gNils)))))) (sAsg (eLc (iSeq (eVar 2)) (gNm 3) (tYs) (eCall fTuple (aCons (eVar 3) (aNil))) [3]) (gFd ["Cache"] (eVar 0) "rows"))
def f_Cache___init__ : FF := fnF 4 3 b_Cache___init__
def b_is_start : FS := sSeq (sIf (tB (eBin oNe (eCall fLen (aCons (eVar 1) (aNil))) (eBin oIx (eVar 0) (eC (.int 0))))) (sRet (eC (.bl false))) (sNil)) (sSeq (sFor (iEnumT (aCons (eVar 1) (aNil))) (gTp 2 (gCns (gNm 2) (gCns (gNm 3) (gNils)))) (sSeq (sIf (tOr (tB (eBin oGt (eCall fLen (aCons (eVar 3) (aNil))) (eBin oIx (eVar 0) (eC (.int 1))))) (tB (eBin oNe (eCall fLen (aCons (eDc (iSeq (eVar 3)) (gNm 4) (tYs) (eVar 4) (eC (.bl true)) [4]) (aNil))) (eCall fLen (aCons (eVar 3) (aNil)))))) (sRet (eC (.bl false))) (sNil)) (sIf (tTru (eCall fAny (aCons (eLc (iSeq (eVar 3)) (gNm 4) (tYs) (eBin oNe (eBin oMod (eVar 4) (eBin oIx (eVar 0) (eC (.int 0)))) (eVar 2)) [4]) (aNil)))) (sRet (eC (.bl false))) (sNil)))) (sRet (eC (.bl true))))
def f_is_start : FF := fnF 5 2 b_is_start
def b__law_lines_of : FS := sSeq (sAsg (eLst (aNil)) (gNm 2)) (sSeq (sFor (iRng1 (aCons (eBin oIx (eVar 1) (eC (.int 0))) (aNil))) (gNm 3) (sSeq (sAsg (eLst (aNil)) (gNm 4)) (sSeq (sFor (iRng1 (aCons (eBin oIx (eVar 1) (eC (.int 1))) (aNil))) (gNm 5) (sSeq (sAsg (eBin oAdd (eVar 3) (eBin oMul (eBin oIx (eVar 1) (eC (.int 0))) (eCall f__law_take (aCons (eVar 0) (aCons (eC (.int 5)) (aNil)))))) (gNm 6)) (sIf (tAnd (tB (eBin oNotIn (eVar 6) (eVar 4))) (tB (eBin oGt (eCall f__law_take (aCons (eVar 0) (aCons (eC (.int 3)) (aNil)))) (eC (.int 0))))) (sDrop (eBm "list" mAppend (eVar 4) (aCons (eVar 6) (aNil)))) (sNil)))) (sDrop (eBm "list" mAppend (eVar 2) (aCons (eCall fTuple (aCons (eVar 4) (aNil))) (aNil))))))) (sRet (eCall fTuple (aCons (eVar 2) (aNil)))))
def f__law_lines_of : FF := fnF 7 2 b__law_lines_of
def b__law_tape : FS := sSeq (sAsg (eLc (iSeq (eVar 0)) (gNm 3) (tYs) (eCall fAbs (aCons (eCall fInt (aCons (eVar 3) (aNil))) (aNil))) [3]) (gNm 1)) (sSeq (sAsg (eC (.int 7)) (gNm 2)) (sSeq (sFor (iSeq (eVar 1)) (gNm 3) (sAsg (eBin oMod (eCall fInt (aCons (eBin oAdd (eBin oMul (eVar 2) (eC (.int 31))) (eVar 3)) (aNil))) (eC (.int 2147483647))) (gNm 2))) (sRet (eDic (aPairs [(eC (.str "cells"), eVar 1), (eC (.str "at"), eC (.int 0)), (eC (.str "left"), eC (.int 0)), (eC (.str "seed"), eVar 2), (eC (.str "salt"), eC (.int 0))])))))
def f__law_tape : FF := fnF 4 1 b__law_tape
def b_law : FS := sSeq (sAsg (eCall f__law_tape (aCons (eVar 0) (aNil))) (gNm 1)) (sSeq (sAsg (eTup (aCons (eBin oIx (eLst (aCons (eC (.int 1)) (aCons (eC (.int 2)) (aCons (eC (.int 4)) (aNil))))) (eCall f__law_take (aCons (eVar 1) (aCons (eC (.int 3)) (aNil))))) (aCons (eBin oAdd (eC (.int 1)) (eCall f__law_take (aCons (eVar 1) (aCons (eC (.int 4)) (aNil))))) (aCons (eBin oIx (eLst (aCons (eC (.str "lru")) (aCons (eC (.str "fifo")) (aNil)))) (eCall f__law_take (aCons (eVar 1) (aCons (eC (.int 2)) (aNil))))) (aNil))))) (gNm 2)) (sSeq (sAsg (eTup (aCons (eBin oIx (eVar 2) (eC (.int 0))) (aCons (eTup (aCons (eC (.int 1)) (aCons (eBin oIx (eVar 2) (eC (.int 1))) (aCons (eBin oIx (eVar 2) (eC (.int 2))) (aNil))))) (aNil)))) (gTp 2 (gCns (gNm 3) (gCns (gNm 4) (gNils))))) (sSeq (sAsg (eCall f__law_lines_of (aCons (eVar 1) (aCons (eVar 2) (aNil)))) (gNm 5)) (sSeq (sAsg (eDic0) (gNm 6)) (sSeq (sFor (iRng1 (aCons (eBin oMul (eC (.int 5)) (eVar 3)) (aNil))) (gNm 7) (sAsg (eBin oAdd (eBin oMul (eVar 3) (eBin oAdd (eBin oMul (eC (.int 5)) (eBin oDiv (eCall fInt (aCons (eVar 7) (aNil))) (eVar 3))) (eCall f__law_take (aCons (eVar 1) (aCons (eC (.int 5)) (aNil)))))) (eBin oMod (eCall fInt (aCons (eVar 7) (aNil))) (eVar 3))) (gIx (eVar 6) (eVar 7)))) (sSeq (sAsg (eCall fTuple (aCons (eLc (iSeq (eVar 5)) (gNm 24) (tYs) (eCall fTuple (aCons (eLc (iSeq (eVar 24)) (gNm 7) (tYs) (eBin oIx (eVar 6) (eVar 7)) [7]) (aNil))) [24]) (aNil))) (gNm 8)) (sSeq (sIf (tOr (tNot (tTru (eCall f_is_start (aCons (eVar 2) (aCons (eVar 5) (aNil)))))) (tNot (tTru (eCall f_is_start (aCons (eVar 2) (aCons (eVar 8) (aNil))))))) (sRet (eC (.bl false))) (sNil)) (sSeq (sAsg (eTup (aCons (eMake "Cache" f_Cache___init__ (aCons (eVar 2) (aCons (eVar 5) (aNil)))) (aCons (eMake "Cache" f_Cache___init__ (aCons (eVar 2) (aCons (eVar 8) (aNil)))) (aCons (eLc (iRng1 (aCons (eVar 3) (aNil))) (gNm 18) (tYs) (eMake "Cache" f_Cache___init__ (aCons (eVar 4) (aCons (eTup (aCons (eCall fTuple (aCons (eLc (iSeq (eBin oIx (eVar 5) (eVar 18))) (gNm 7) (tYs) (eBin oDiv (eCall fInt (aCons (eVar 7) (aNil))) (eVar 3)) [7]) (aNil))) (aNil))) (aNil)))) [18]) (aNil))))) (gTp 3 (gCns (gNm 9) (gCns (gNm 10) (gCns (gNm 11) (gNils)))))) (sSeq (sAsg (eIf (tB (eBin oGt (eCall f__law_take (aCons (eVar 1) (aCons (eC (.int 3)) (aNil)))) (eC (.int 0)))) (eCall f_of_cache (aCons (eVar 2) (aCons (eVar 5) (aNil)))) (eCall f_anything aNil)) (gNm 12)) (sSeq (sPar [13, 14] (aCons (eCall f__law_named (aCons (eVar 12) (aCons (eVar 6) (aNil)))) (aCons (eLc (iRng1 (aCons (eVar 3) (aNil))) (gNm 18) (tYs) (eCall f__law_part_of (aCons (eVar 12) (aCons (eVar 3) (aCons (eVar 18) (aNil))))) [18]) (aNil)))) (sSeq (sAsg (eLst (aCons (eVar 12) (aNil))) (gNm 15)) (sSeq (sFor (iRng1 (aCons (eC (.int 24)) (aNil))) (gNm 16) (sSeq (sPar [7, 17] (aCons (eCall f__law_take (aCons (eVar 1) (aCons (eBin oMul (eC (.int 5)) (eVar 3)) (aNil)))) (aCons (eCall f__law_take (aCons (eVar 1) (aCons (eC (.int 4)) (aNil)))) (aNil)))) (sSeq (sAsg (eBin oMod (eCall fInt (aCons (eVar 7) (aNil))) (eVar 3)) (gNm 18)) (sSeq (sAsg (eCall f__law_step (aCons (eVar 2) (aCons (eVar 9) (aCons (eVar 12) (aCons (eVar 7) (aCons (eVar 17) (aNil))))))) (gTp 3 (gCns (gNm 19) (gCns (gNm 20) (gCns (gNm 21) (gNils)))))) (sSeq (sAsg (eCall f__law_step (aCons (eVar 2) (aCons (eVar 10) (aCons (eVar 13) (aCons (eBin oIx (eVar 6) (eVar 7)) (aCons (eVar 17) (aNil))))))) (gNm 22)) (sSeq (sAsg (eCall f__law_step (aCons (eVar 4) (aCons (eBin oIx (eVar 11) (eVar 18)) (aCons (eBin oIx (eVar 14) (eVar 18)) (aCons (eBin oDiv (eCall fInt (aCons (eVar 7) (aNil))) (eVar 3)) (aCons (eVar 17) (aNil))))))) (gNm 23)) (sSeq (sIf (tOr (tB (eBin oNotIn (eVar 19) (eVar 20))) (tOr (tB (eBin oNe (eSl (eVar 22) pNo (pPart (eC (.int 2)))) (eTup (aCons (eVar 19) (aCons (eVar 20) (aNil)))))) (tOr (tB (eBin oNe (eSl (eVar 23) pNo (pPart (eC (.int 2)))) (eTup (aCons (eVar 19) (aCons (eVar 20) (aNil)))))) (tOr (tB (eBin oNe (eBin oIx (eVar 22) (eC (.int 2))) (eCall f__law_named (aCons (eVar 21) (aCons (eVar 6) (aNil)))))) (tB (eBin oNe (eBin oIx (eVar 23) (eC (.int 2))) (eCall f__law_part_of (aCons (eVar 21) (aCons (eVar 3) (aCons (eVar 18) (aNil))))))))))) (sRet (eC (.bl false))) (sNil)) (sSeq (sAsg (eTup (aCons (eVar 21) (aCons (eBin oIx (eVar 22) (eC (.int 2))) (aCons (eBin oIx (eVar 23) (eC (.int 2))) (aNil))))) (gTp 3 (gCns (gNm 12) (gCns (gNm 13) (gCns (gIx (eVar 14) (eVar 18)) (gNils)))))) (sSeq (sIf (tB (eBin oNe (eMeth "Cache" "lines" f_Cache_lines (eVar 9) aNil) (eCall fTuple (aCons (eLc (iRng1 (aCons (eVar 3) (aNil))) (gNm 25) (tYs) (eCall fTuple (aCons (eLc (iSeq (eBin oIx (eMeth "Cache" "lines" f_Cache_lines (eBin oIx (eVar 11) (eVar 25)) aNil) (eC (.int 0)))) (gNm 26) (tYs) (eBin oAdd (eBin oMul (eVar 26) (eVar 3)) (eVar 25)) [26]) (aNil))) [25]) (aNil))))) (sRet (eC (.bl false))) (sNil)) (sSeq (sIf (tOr (tB (eBin oNe (eMeth "Cache" "lines" f_Cache_lines (eVar 10) aNil) (eCall fTuple (aCons (eLc (iSeq (eMeth "Cache" "lines" f_Cache_lines (eVar 9) aNil)) (gNm 24) (tYs) (eCall fTuple (aCons (eLc (iSeq (eVar 24)) (gNm 26) (tYs) (eBin oIx (eVar 6) (eVar 26)) [26]) (aNil))) [24]) (aNil))))) (tB (eBin oNe (eLc (iRng1 (aCons (eVar 3) (aNil))) (gNm 25) (tYs) (eCall f__law_part_of (aCons (eVar 12) (aCons (eVar 3) (aCons (eVar 25) (aNil))))) [25]) (eVar 14)))) (sRet (eC (.bl false))) (sNil)) (sSeq (sIf (tOr (tNot (tTru (eCall f_is_known_within (aCons (eCall f_of_cache (aCons (eVar 2) (aCons (eMeth "Cache" "lines" f_Cache_lines (eVar 9) aNil) (aNil)))) (aCons (eVar 12) (aNil)))))) (tNot (tTru (eCall f__law_sides (aCons (eVar 2) (aCons (eVar 12) (aCons (eBin oIx (eVar 15) (eCall f__law_take (aCons (eVar 1) (aCons (eCall fLen (aCons (eVar 15) (aNil))) (aNil))))) (aNil)))))))) (sRet (eC (.bl false))) (sNil)) (sDrop (eBm "list" mAppend (eVar 15) (aCons (eVar 12) (aNil))))))))))))))) (sRet (eC (.bl true)))))))))))))))
def f_law : FF := fnF 27 1 b_law
structure Txt (c : FC) (mg : Str → Option Value) : Prop where
  n_abs : mg "abs" = none
  n_all : mg "all" = none
  n_any : mg "any" = none
  n_dict : mg "dict" = none
  n_enumerate : mg "enumerate" = none
  n_int : mg "int" = none
  n_len : mg "len" = none
  n_max : mg "max" = none
  n_min : mg "min" = none
  n_range : mg "range" = none
  n_sorted : mg "sorted" = none
  n_tuple : mg "tuple" = none
  c_Cache : ClsK c ["Cache"]
  f_policy : FldK c ["Cache"] "policy"
  f_rows : FldK c ["Cache"] "rows"
  f_sets : FldK c ["Cache"] "sets"
  f_ways : FldK c ["Cache"] "ways"
section
variable {c : FC} {P : Program} {w : World} {mg : Str → Option Value} {base : Heap}
abbrev N_is_known_within : List Str := ["one", "two", "first", "second", "line", "age"]
theorem sc_is_known_within : FnScope N_is_known_within ["one", "two"] (defScope s_is_known_within) := ⟨rfl, rfl, rfl, by decide +kernel, rfl, by decide +kernel, by decide +kernel⟩
theorem d_is_known_within {f : Addr} {fd : FuncData} (F : Fun c.K "is_known_within" "is_known_within" s_is_known_within f fd) (T : Txt c mg) : FnOk P w c.K mg base CX0 1 f fd ["one", "two"] (spF c 2 f_is_known_within) := by
  refine F.ok sc_is_known_within len_spF (fun cdv A outer s H vs Q E hr h => ⟨_, ?_, start_red (N := N_is_known_within) (np := 2) (b := b_is_known_within) h⟩)
  exact q_scons (q_asg (q_cb (pe_callTy (cDict rfl rfl) rfl T.n_dict (by decide +kernel) (q_cons (q_ix (dIx rfl hr.units) (q_var 0) (q_int)) (q_nil)))) (q_gnm sc_is_known_within.nd)) (q_scons (q_sif (q_tru rfl (q_cb (pe_callB (cAny rfl rfl (cr_any rfl)) rfl T.n_any (by decide +kernel) (q_cons (q_lc [("line", 4), ("age", 5)] rfl sc_is_known_within.nd (q_iseq rfl (q_ix (dIx rfl hr.units) (q_var 1) (q_int))) (blkOk_by (N := N_is_known_within) (sc := defScope s_is_known_within) (own := [("line", 4), ("age", 5)]) (by decide +kernel)) (fun _ _ _ _ _ => q_gtp rfl rfl (q_gcns (q_gnm sc_is_known_within.nd) (q_gcns (q_gnm sc_is_known_within.nd) (q_gnil)))) (fun _ _ _ _ _ => q_tsn) (fun _ _ _ _ _ => q_or rfl (q_cmp (dNotIn rfl hr.units) (q_var 4) (q_var 2)) (q_one (q_cmp (dGt) (q_ix (dIx rfl hr.units) (q_var 2) (q_var 4)) (q_var 5))))) (q_nil))))) (q_sone (q_ret (q_bl))) (q_snil)) (q_scons (q_sif (q_tisN (q_ix (dIx rfl hr.units) (q_var 1) (q_int))) (q_sone (q_ret (q_bl))) (q_snil)) (q_scons (q_sif (q_tisN (q_ix (dIx rfl hr.units) (q_var 0) (q_int))) (q_sone (q_ret (q_bl))) (q_snil)) (q_scons (q_asg (q_cb (pe_callTy (cDict rfl rfl) rfl T.n_dict (by decide +kernel) (q_cons (q_ix (dIx rfl hr.units) (q_var 1) (q_int)) (q_nil)))) (q_gnm sc_is_known_within.nd)) (q_sone (q_ret (q_cb (pe_callB (cAll rfl rfl (cr_all rfl)) rfl T.n_all (by decide +kernel) (q_cons (q_lc [("line", 4), ("age", 5)] rfl sc_is_known_within.nd (q_iseq rfl (q_ix (dIx rfl hr.units) (q_var 0) (q_int))) (blkOk_by (N := N_is_known_within) (sc := defScope s_is_known_within) (own := [("line", 4), ("age", 5)]) (by decide +kernel)) (fun _ _ _ _ _ => q_gtp rfl rfl (q_gcns (q_gnm sc_is_known_within.nd) (q_gcns (q_gnm sc_is_known_within.nd) (q_gnil)))) (fun _ _ _ _ _ => q_tsn) (fun _ _ _ _ _ => q_and rfl (q_cmp (dIn rfl hr.units) (q_var 4) (q_var 3)) (q_one (q_cmp (dLe) (q_ix (dIx rfl hr.units) (q_var 3) (q_var 4)) (q_var 5))))) (q_nil))))))))))
abbrev N_of_cache : List Str := ["told", "rows", "must", "may", "row", "age", "line"]
theorem sc_of_cache : FnScope N_of_cache ["told", "rows"] (defScope s_of_cache) := ⟨rfl, rfl, rfl, by decide +kernel, rfl, by decide +kernel, by decide +kernel⟩
theorem d_of_cache {f : Addr} {fd : FuncData} (F : Fun c.K "of_cache" "of_cache" s_of_cache f fd) (T : Txt c mg) : FnOk P w c.K mg base CX0 1 f fd ["told", "rows"] (spF c 2 f_of_cache) := by
  refine F.ok sc_of_cache len_spF (fun cdv A outer s H vs Q E hr h => ⟨_, ?_, start_red (N := N_of_cache) (np := 2) (b := b_of_cache) h⟩)
  exact q_scons (q_asg (q_dic0) (q_gnm sc_of_cache.nd)) (q_scons (q_asg (q_dic0) (q_gnm sc_of_cache.nd)) (q_scons (q_for PassesOwn.never rfl (q_iseq rfl (q_var 1)) (q_gnm sc_of_cache.nd) (q_sone (q_for PassesOwn.never rfl (q_ienumT rfl rfl T.n_enumerate (q_cons (q_var 4) (q_nil))) (q_gtp rfl rfl (q_gcns (q_gnm sc_of_cache.nd) (q_gcns (q_gnm sc_of_cache.nd) (q_gnil)))) (q_scons (q_asg (q_var 5) (q_gix hr.units (q_var 3) (q_var 6))) (q_sone (q_asg (q_if (q_tcmp (dEq rfl hr.units) (q_ix (dIx rfl hr.units) (q_var 0) (q_int)) (q_str)) (q_var 5) (q_int)) (q_gix hr.units (q_var 2) (q_var 6)))))))) (q_sone (q_ret (q_tup (q_cons (q_cb (pe_callTy (cTuple rfl) rfl T.n_tuple (by decide +kernel) (q_cons (q_sortItems rfl rfl hr.units rfl T.n_sorted (q_var 2)) (q_nil)))) (q_cons (q_cb (pe_callTy (cTuple rfl) rfl T.n_tuple (by decide +kernel) (q_cons (q_sortItems rfl rfl hr.units rfl T.n_sorted (q_var 3)) (q_nil)))) (q_nil))))))))
abbrev N_Cache_lines : List Str := ["self"]
theorem sc_Cache_lines : FnScope N_Cache_lines ["self"] (defScope s_Cache_lines) := ⟨rfl, rfl, rfl, by decide +kernel, rfl, by decide +kernel, by decide +kernel⟩
theorem d_Cache_lines {f : Addr} {fd : FuncData} (F : Fun c.K "lines" "Cache.lines" s_Cache_lines f fd) (T : Txt c mg) : FnOk P w c.K mg base CX0 1 f fd ["self"] (spF c 1 f_Cache_lines) := by
  refine F.ok sc_Cache_lines len_spF (fun cdv A outer s H vs Q E hr h => ⟨_, ?_, start_red (N := N_Cache_lines) (np := 1) (b := b_Cache_lines) h⟩)
  exact q_sone (q_ret (q_cb (pe_callTy (cTuple rfl) rfl T.n_tuple (by decide +kernel) (q_cons (q_fld rfl T.c_Cache T.f_rows (q_var 0)) (q_nil)))))
abbrev N__law_part_of : List Str := ["known", "sets", "at", "must", "line", "age"]
theorem sc__law_part_of : FnScope N__law_part_of ["known", "sets", "at"] (defScope s__law_part_of) := ⟨rfl, rfl, rfl, by decide +kernel, rfl, by decide +kernel, by decide +kernel⟩
theorem d__law_part_of {f : Addr} {fd : FuncData} (F : Fun c.K "_law_part_of" "_law_part_of" s__law_part_of f fd) (T : Txt c mg) : FnOk P w c.K mg base CX0 1 f fd ["known", "sets", "at"] (spF c 3 f__law_part_of) := by
  refine F.ok sc__law_part_of len_spF (fun cdv A outer s H vs Q E hr h => ⟨_, ?_, start_red (N := N__law_part_of) (np := 3) (b := b__law_part_of) h⟩)
  exact q_scons (q_asg (q_cb (pe_callTy (cTuple rfl) rfl T.n_tuple (by decide +kernel) (q_cons (q_lc [("line", 4), ("age", 5)] rfl sc__law_part_of.nd (q_iseq rfl (q_ix (dIx rfl hr.units) (q_var 0) (q_int))) (blkOk_by (N := N__law_part_of) (sc := defScope s__law_part_of) (own := [("line", 4), ("age", 5)]) (by decide +kernel)) (fun _ _ _ _ _ => q_gtp rfl rfl (q_gcns (q_gnm sc__law_part_of.nd) (q_gcns (q_gnm sc__law_part_of.nd) (q_gnil)))) (fun _ _ _ _ _ => q_ts1 (q_tcmp (dEq rfl hr.units) (q_bin (dMod) (q_cb (pe_callTy (cInt) rfl T.n_int (by decide +kernel) (q_cons (q_var 4) (q_nil)))) (q_var 1)) (q_var 2))) (fun _ _ _ _ _ => q_tup (q_cons (q_bin (dDiv) (q_cb (pe_callTy (cInt) rfl T.n_int (by decide +kernel) (q_cons (q_var 4) (q_nil)))) (q_var 1)) (q_cons (q_var 5) (q_nil))))) (q_nil)))) (q_gnm sc__law_part_of.nd)) (q_sone (q_ret (q_tup (q_cons (q_var 3) (q_cons (q_if (q_tisN (q_ix (dIx rfl hr.units) (q_var 0) (q_int))) (q_non) (q_cb (pe_callTy (cTuple rfl) rfl T.n_tuple (by decide +kernel) (q_cons (q_lc [("line", 4), ("age", 5)] rfl sc__law_part_of.nd (q_iseq rfl (q_ix (dIx rfl hr.units) (q_var 0) (q_int))) (blkOk_by (N := N__law_part_of) (sc := defScope s__law_part_of) (own := [("line", 4), ("age", 5)]) (by decide +kernel)) (fun _ _ _ _ _ => q_gtp rfl rfl (q_gcns (q_gnm sc__law_part_of.nd) (q_gcns (q_gnm sc__law_part_of.nd) (q_gnil)))) (fun _ _ _ _ _ => q_ts1 (q_tcmp (dEq rfl hr.units) (q_bin (dMod) (q_cb (pe_callTy (cInt) rfl T.n_int (by decide +kernel) (q_cons (q_var 4) (q_nil)))) (q_var 1)) (q_var 2))) (fun _ _ _ _ _ => q_tup (q_cons (q_bin (dDiv) (q_cb (pe_callTy (cInt) rfl T.n_int (by decide +kernel) (q_cons (q_var 4) (q_nil)))) (q_var 1)) (q_cons (q_var 5) (q_nil))))) (q_nil))))) (q_nil))))))
abbrev N_joined_known : List Str := ["one", "two", "first", "second", "must", "may", "line", "age"]
theorem sc_joined_known : FnScope N_joined_known ["one", "two"] (defScope s_joined_known) := ⟨rfl, rfl, rfl, by decide +kernel, rfl, by decide +kernel, by decide +kernel⟩
theorem d_joined_known {f : Addr} {fd : FuncData} (F : Fun c.K "joined_known" "joined_known" s_joined_known f fd) (T : Txt c mg) : FnOk P w c.K mg base CX0 1 f fd ["one", "two"] (spF c 2 f_joined_known) := by
  refine F.ok sc_joined_known len_spF (fun cdv A outer s H vs Q E hr h => ⟨_, ?_, start_red (N := N_joined_known) (np := 2) (b := b_joined_known) h⟩)
  exact q_scons (q_asg (q_tup (q_cons (q_cb (pe_callTy (cDict rfl rfl) rfl T.n_dict (by decide +kernel) (q_cons (q_ix (dIx rfl hr.units) (q_var 0) (q_int)) (q_nil)))) (q_cons (q_cb (pe_callTy (cDict rfl rfl) rfl T.n_dict (by decide +kernel) (q_cons (q_ix (dIx rfl hr.units) (q_var 1) (q_int)) (q_nil)))) (q_nil)))) (q_gtp rfl rfl (q_gcns (q_gnm sc_joined_known.nd) (q_gcns (q_gnm sc_joined_known.nd) (q_gnil))))) (q_scons (q_lkS (q_setDc (ps_setDc (i := 4) (own := [("line", 6)]) rfl sc_joined_known.nd rfl rfl (sw_trueD rfl rfl rfl (by decide +kernel)) (q_iseq rfl (q_var 2)) (blkOk_by (N := N_joined_known) (sc := defScope s_joined_known) (own := [("line", 6)]) (by decide +kernel)) (fun _ _ _ _ _ => q_gnm sc_joined_known.nd) (fun _ _ _ _ _ => q_ts1 (q_tcmp (dIn rfl hr.units) (q_var 6) (q_var 3))) (fun _ _ _ _ _ => q_var 6) (fun _ _ _ _ _ => q_cb (pe_callB (cMax rfl rfl) rfl T.n_max (by decide +kernel) (q_cons (q_ix (dIx rfl hr.units) (q_var 2) (q_var 6)) (q_cons (q_ix (dIx rfl hr.units) (q_var 3) (q_var 6)) (q_nil)))))))) (q_scons (q_sif (PW.pt (q_wor (q_tisN (q_ix (dIx rfl hr.units) (q_var 0) (q_int))) (q_wor1 (q_tisN (q_ix (dIx rfl hr.units) (q_var 1) (q_int)))))) (q_sone (q_ret (q_tup (q_cons (q_cb (pe_callTy (cTuple rfl) rfl T.n_tuple (by decide +kernel) (q_cons (q_sortItems rfl rfl hr.units rfl T.n_sorted (q_var 4)) (q_nil)))) (q_cons (q_non) (q_nil)))))) (q_snil)) (q_scons (q_asg (q_cb (pe_callTy (cDict rfl rfl) rfl T.n_dict (by decide +kernel) (q_cons (q_ix (dIx rfl hr.units) (q_var 0) (q_int)) (q_nil)))) (q_gnm sc_joined_known.nd)) (q_scons (q_for PassesOwn.never rfl (q_iseq rfl (q_ix (dIx rfl hr.units) (q_var 1) (q_int))) (q_gtp rfl rfl (q_gcns (q_gnm sc_joined_known.nd) (q_gcns (q_gnm sc_joined_known.nd) (q_gnil)))) (q_sone (q_asg (q_cb (pe_callB (cMin rfl rfl) rfl T.n_min (by decide +kernel) (q_cons (q_var 7) (q_cons (q_get2 (pe_dget2 (Nat.lt_of_le_of_lt (Nat.add_le_add_left (by decide : 1 ≤ 64) _) hr.units) (q_var 5) (q_var 6) (q_var 7) ⟨rfl, rfl, rfl, rfl⟩)) (q_nil))))) (q_gix hr.units (q_var 5) (q_var 6))))) (q_sone (q_ret (q_tup (q_cons (q_cb (pe_callTy (cTuple rfl) rfl T.n_tuple (by decide +kernel) (q_cons (q_sortItems rfl rfl hr.units rfl T.n_sorted (q_var 4)) (q_nil)))) (q_cons (q_cb (pe_callTy (cTuple rfl) rfl T.n_tuple (by decide +kernel) (q_cons (q_sortItems rfl rfl hr.units rfl T.n_sorted (q_var 5)) (q_nil)))) (q_nil))))))))))
abbrev N__law_sides : List Str := ["told", "one", "two", "sets", "whole", "joined", "parts", "at", "a", "b"]
theorem sc__law_sides : FnScope N__law_sides ["told", "one", "two"] (defScope s__law_sides) := ⟨rfl, rfl, rfl, by decide +kernel, rfl, by decide +kernel, by decide +kernel⟩
theorem d__law_sides {f : Addr} {fd : FuncData} (F : Fun c.K "_law_sides" "_law_sides" s__law_sides f fd) (T : Txt c mg) (C__law_part_of : Fp c P w mg base 1 "_law_part_of" ["known", "sets", "at"] f__law_part_of) (C_joined_known : Fp c P w mg base 1 "joined_known" ["one", "two"] f_joined_known) (C_is_known_within : Fp c P w mg base 1 "is_known_within" ["one", "two"] f_is_known_within) : FnOk P w c.K mg base CX0 2 f fd ["told", "one", "two"] (spF c 3 f__law_sides) := by
  refine F.ok sc__law_sides len_spF (fun cdv A outer s H vs Q E hr h => ⟨_, ?_, start_red (N := N__law_sides) (np := 3) (b := b__law_sides) h⟩)
  exact q_scons (q_asg (q_ix (dIx rfl hr.units) (q_var 0) (q_int)) (q_gnm sc__law_sides.nd)) (q_scons (q_asg (q_tup (q_cons (q_callP rfl (C_is_known_within.mono (by decide)) hr rfl (q_cons (q_var 1) (q_cons (q_var 2) (q_nil))) (lenS (lenS len0))) (q_cons (q_callP rfl (C_joined_known.mono (by decide)) hr rfl (q_cons (q_var 1) (q_cons (q_var 2) (q_nil))) (lenS (lenS len0))) (q_nil)))) (q_gtp rfl rfl (q_gcns (q_gnm sc__law_sides.nd) (q_gcns (q_gnm sc__law_sides.nd) (q_gnil))))) (q_scons (q_asg (q_lc [("at", 7)] rfl sc__law_sides.nd (q_irng1 rfl T.n_range (q_cons (q_var 3) (q_nil))) (blkOk_by (N := N__law_sides) (sc := defScope s__law_sides) (own := [("at", 7)]) (by decide +kernel)) (fun _ _ _ _ _ => q_gnm sc__law_sides.nd) (fun _ _ _ _ _ => q_tsn) (fun _ _ _ _ _ => q_tup (q_cons (q_callP rfl (C__law_part_of.mono (by decide)) hr rfl (q_cons (q_var 1) (q_cons (q_var 3) (q_cons (q_var 7) (q_nil)))) (lenS (lenS (lenS len0)))) (q_cons (q_callP rfl (C__law_part_of.mono (by decide)) hr rfl (q_cons (q_var 2) (q_cons (q_var 3) (q_cons (q_var 7) (q_nil)))) (lenS (lenS (lenS len0)))) (q_nil))))) (q_gnm sc__law_sides.nd)) (q_scons (q_sif (PW.pt (q_wor (q_tcmp (dNe rfl hr.units) (q_var 4) (q_cb (pe_callB (cAll rfl rfl (cr_all rfl)) rfl T.n_all (by decide +kernel) (q_cons (q_lc [("a", 8), ("b", 9)] rfl sc__law_sides.nd (q_iseq rfl (q_var 6)) (blkOk_by (N := N__law_sides) (sc := defScope s__law_sides) (own := [("a", 8), ("b", 9)]) (by decide +kernel)) (fun _ _ _ _ _ => q_gtp rfl rfl (q_gcns (q_gnm sc__law_sides.nd) (q_gcns (q_gnm sc__law_sides.nd) (q_gnil)))) (fun _ _ _ _ _ => q_tsn) (fun _ _ _ _ _ => q_callP rfl (C_is_known_within.mono (by decide)) hr rfl (q_cons (q_var 8) (q_cons (q_var 9) (q_nil))) (lenS (lenS len0)))) (q_nil))))) (q_wor (q_tnot (q_tru rfl (q_callP rfl (C_is_known_within.mono (by decide)) hr rfl (q_cons (q_var 1) (q_cons (q_var 5) (q_nil))) (lenS (lenS len0))))) (q_wor1 (q_tnot (q_tru rfl (q_callP rfl (C_is_known_within.mono (by decide)) hr rfl (q_cons (q_var 2) (q_cons (q_var 5) (q_nil))) (lenS (lenS len0))))))))) (q_sone (q_ret (q_bl))) (q_snil)) (q_sone (q_ret (q_cb (pe_callB (cAll rfl rfl (cr_all rfl)) rfl T.n_all (by decide +kernel) (q_cons (q_lc [("at", 7)] rfl sc__law_sides.nd (q_irng1 rfl T.n_range (q_cons (q_var 3) (q_nil))) (blkOk_by (N := N__law_sides) (sc := defScope s__law_sides) (own := [("at", 7)]) (by decide +kernel)) (fun _ _ _ _ _ => q_gnm sc__law_sides.nd) (fun _ _ _ _ _ => q_tsn) (fun _ _ _ _ _ => q_cmp (dEq rfl hr.units) (q_callP rfl (C__law_part_of.mono (by decide)) hr rfl (q_cons (q_var 5) (q_cons (q_var 3) (q_cons (q_var 7) (q_nil)))) (lenS (lenS (lenS len0)))) (q_callP rfl (C_joined_known.mono (by decide)) hr rfl (q_cons (q_ix (dIx rfl hr.units) (q_ix (dIx rfl hr.units) (q_var 6) (q_var 7)) (q_int)) (q_cons (q_ix (dIx rfl hr.units) (q_ix (dIx rfl hr.units) (q_var 6) (q_var 7)) (q_int)) (q_nil))) (lenS (lenS len0))))) (q_nil)))))))))
abbrev N__law_take : List Str := ["tape", "many", "drawn", "mixed"]
theorem sc__law_take : FnScope N__law_take ["tape", "many"] (defScope s__law_take) := ⟨rfl, rfl, rfl, by decide +kernel, rfl, by decide +kernel, by decide +kernel⟩
theorem d__law_take {f : Addr} {fd : FuncData} (F : Fun c.K "_law_take" "_law_take" s__law_take f fd) (T : Txt c mg) : FnOk P w c.K mg base CX0 1 f fd ["tape", "many"] (spF c 2 f__law_take) := by
  refine F.ok sc__law_take len_spF (fun cdv A outer s H vs Q E hr h => ⟨_, ?_, start_red (N := N__law_take) (np := 2) (b := b__law_take) h⟩)
  exact q_scons (q_sif (PW.pt (q_wand (q_tcmp (dEq rfl hr.units) (q_ix (dIx rfl hr.units) (q_var 0) (q_str)) (q_int)) (q_wand1 (q_tcmp (dLt) (q_ix (dIx rfl hr.units) (q_var 0) (q_str)) (q_cb (pe_callB (cLen rfl) rfl T.n_len (by decide +kernel) (q_cons (q_ix (dIx rfl hr.units) (q_var 0) (q_str)) (q_nil)))))))) (q_scons (q_asg (q_ix (dIx rfl hr.units) (q_ix (dIx rfl hr.units) (q_var 0) (q_str)) (q_ix (dIx rfl hr.units) (q_var 0) (q_str))) (q_gix hr.units (q_var 0) (q_str))) (q_sone (q_asg (q_bin (dAdd rfl) (q_ix (dIx rfl hr.units) (q_var 0) (q_str)) (q_int)) (q_gix hr.units (q_var 0) (q_str))))) (q_snil)) (q_scons (q_sif (q_tcmp (dGt) (q_ix (dIx rfl hr.units) (q_var 0) (q_str)) (q_int)) (q_scons (q_asg (q_bin (dMod) (q_cb (pe_callTy (cInt) rfl T.n_int (by decide +kernel) (q_cons (q_ix (dIx rfl hr.units) (q_var 0) (q_str)) (q_nil)))) (q_var 1)) (q_gnm sc__law_take.nd)) (q_scons (q_asg (q_bin (dDiv) (q_ix (dIx rfl hr.units) (q_var 0) (q_str)) (q_var 1)) (q_gix hr.units (q_var 0) (q_str))) (q_sone (q_ret (q_var 2))))) (q_snil)) (q_scons (q_asg (q_bin (dAdd rfl) (q_ix (dIx rfl hr.units) (q_var 0) (q_str)) (q_int)) (q_gix hr.units (q_var 0) (q_str))) (q_scons (q_asg (q_bin (dMod) (q_cb (pe_callTy (cInt) rfl T.n_int (by decide +kernel) (q_cons (q_bin (dAdd rfl) (q_bin (dMul) (q_ix (dIx rfl hr.units) (q_var 0) (q_str)) (q_int)) (q_bin (dMul) (q_ix (dIx rfl hr.units) (q_var 0) (q_str)) (q_int))) (q_nil)))) (q_int)) (q_gnm sc__law_take.nd)) (q_scons (q_asg (q_bin (dMod) (q_cb (pe_callTy (cInt) rfl T.n_int (by decide +kernel) (q_cons (q_bin (dAdd rfl) (q_bin (dAdd rfl) (q_bin (dMul) (q_var 3) (q_var 3)) (q_bin (dMul) (q_ix (dIx rfl hr.units) (q_var 0) (q_str)) (q_int))) (q_int)) (q_nil)))) (q_int)) (q_gnm sc__law_take.nd)) (q_sone (q_ret (q_bin (dMod) (q_cb (pe_callTy (cInt) rfl T.n_int (by decide +kernel) (q_cons (q_var 3) (q_nil)))) (q_var 1))))))))
abbrev N__law_named : List Str := ["known", "names", "line", "age"]
theorem sc__law_named : FnScope N__law_named ["known", "names"] (defScope s__law_named) := ⟨rfl, rfl, rfl, by decide +kernel, rfl, by decide +kernel, by decide +kernel⟩
theorem d__law_named {f : Addr} {fd : FuncData} (F : Fun c.K "_law_named" "_law_named" s__law_named f fd) (T : Txt c mg) : FnOk P w c.K mg base CX0 1 f fd ["known", "names"] (spF c 2 f__law_named) := by
  refine F.ok sc__law_named len_spF (fun cdv A outer s H vs Q E hr h => ⟨_, ?_, start_red (N := N__law_named) (np := 2) (b := b__law_named) h⟩)
  exact q_sone (q_ret (q_tup (q_cons (q_cb (pe_callTy (cTuple rfl) rfl T.n_tuple (by decide +kernel) (q_cons (q_cb (pe_callB (cSortQ rfl) rfl T.n_sorted (by decide +kernel) (q_cons (q_lc [("line", 2), ("age", 3)] rfl sc__law_named.nd (q_iseq rfl (q_ix (dIx rfl hr.units) (q_var 0) (q_int))) (blkOk_by (N := N__law_named) (sc := defScope s__law_named) (own := [("line", 2), ("age", 3)]) (by decide +kernel)) (fun _ _ _ _ _ => q_gtp rfl rfl (q_gcns (q_gnm sc__law_named.nd) (q_gcns (q_gnm sc__law_named.nd) (q_gnil)))) (fun _ _ _ _ _ => q_tsn) (fun _ _ _ _ _ => q_tup (q_cons (q_ix (dIx rfl hr.units) (q_var 1) (q_var 2)) (q_cons (q_var 3) (q_nil))))) (q_nil)))) (q_nil)))) (q_cons (q_if (q_tisN (q_ix (dIx rfl hr.units) (q_var 0) (q_int))) (q_non) (q_cb (pe_callTy (cTuple rfl) rfl T.n_tuple (by decide +kernel) (q_cons (q_cb (pe_callB (cSortQ rfl) rfl T.n_sorted (by decide +kernel) (q_cons (q_lc [("line", 2), ("age", 3)] rfl sc__law_named.nd (q_iseq rfl (q_ix (dIx rfl hr.units) (q_var 0) (q_int))) (blkOk_by (N := N__law_named) (sc := defScope s__law_named) (own := [("line", 2), ("age", 3)]) (by decide +kernel)) (fun _ _ _ _ _ => q_gtp rfl rfl (q_gcns (q_gnm sc__law_named.nd) (q_gcns (q_gnm sc__law_named.nd) (q_gnil)))) (fun _ _ _ _ _ => q_tsn) (fun _ _ _ _ _ => q_tup (q_cons (q_ix (dIx rfl hr.units) (q_var 1) (q_var 2)) (q_cons (q_var 3) (q_nil))))) (q_nil)))) (q_nil))))) (q_nil)))))
abbrev N_aged : List Str := ["told", "may", "line", "before", "left", "one", "age", "is_older", "older"]
theorem sc_aged : FnScope N_aged ["told", "may", "line"] (defScope s_aged) := ⟨rfl, rfl, rfl, by decide +kernel, rfl, by decide +kernel, by decide +kernel⟩
theorem d_aged {f : Addr} {fd : FuncData} (F : Fun c.K "aged" "aged" s_aged f fd) (T : Txt c mg) : FnOk P w c.K mg base CX0 1 f fd ["told", "may", "line"] (spF c 3 f_aged) := by
  refine F.ok sc_aged len_spF (fun cdv A outer s H vs Q E hr h => ⟨_, ?_, start_red (N := N_aged) (np := 3) (b := b_aged) h⟩)
  exact q_scons (q_asg (q_get2 (pe_dget2 (Nat.lt_of_le_of_lt (Nat.add_le_add_left (by decide : 1 ≤ 64) _) hr.units) (q_cb (pe_callTy (cDict rfl rfl) rfl T.n_dict (by decide +kernel) (q_cons (q_var 1) (q_nil)))) (q_var 2) (q_ix (dIx rfl hr.units) (q_var 0) (q_int)) ⟨rfl, rfl, rfl, rfl⟩)) (q_gnm sc_aged.nd)) (q_scons (q_asg (q_dic (fs := [(eVar 2, eC (.int 0))]) (pps_cons (q_var 2) (q_int) (pps_nil))) (q_gnm sc_aged.nd)) (q_scons (q_for PassesOwn.never rfl (q_iseq rfl (q_var 1)) (q_gtp rfl rfl (q_gcns (q_gnm sc_aged.nd) (q_gcns (q_gnm sc_aged.nd) (q_gnil)))) (q_sone (q_sif (q_tcmp (dNe rfl hr.units) (q_var 5) (q_var 2)) (q_scons (q_asg (q_and rfl (q_cmp (dEq rfl hr.units) (q_ix (dIx rfl hr.units) (q_var 0) (q_int)) (q_str)) (q_and rfl (q_cmp (dEq rfl hr.units) (q_bin (dMod) (q_var 5) (q_ix (dIx rfl hr.units) (q_var 0) (q_int))) (q_bin (dMod) (q_var 2) (q_ix (dIx rfl hr.units) (q_var 0) (q_int)))) (q_one (q_cmp (dLe) (q_var 6) (q_var 3))))) (q_gnm sc_aged.nd)) (q_scons (q_asg (q_if (q_tru rfl (q_var 7)) (q_bin (dAdd rfl) (q_var 6) (q_int)) (q_var 6)) (q_gnm sc_aged.nd)) (q_sone (q_sif (q_tcmp (dLt) (q_var 8) (q_ix (dIx rfl hr.units) (q_var 0) (q_int))) (q_sone (q_asg (q_var 8) (q_gix hr.units (q_var 4) (q_var 5)))) (q_snil))))) (q_snil)))) (q_sone (q_ret (q_cb (pe_callTy (cTuple rfl) rfl T.n_tuple (by decide +kernel) (q_cons (q_sortItems rfl rfl hr.units rfl T.n_sorted (q_var 4)) (q_nil))))))))
abbrev N_ways_sure : List Str := ["told"]
theorem sc_ways_sure : FnScope N_ways_sure ["told"] (defScope s_ways_sure) := ⟨rfl, rfl, rfl, by decide +kernel, rfl, by decide +kernel, by decide +kernel⟩
theorem d_ways_sure {f : Addr} {fd : FuncData} (F : Fun c.K "ways_sure" "ways_sure" s_ways_sure f fd) (T : Txt c mg) : FnOk P w c.K mg base CX0 1 f fd ["told"] (spF c 1 f_ways_sure) := by
  refine F.ok sc_ways_sure len_spF (fun cdv A outer s H vs Q E hr h => ⟨_, ?_, start_red (N := N_ways_sure) (np := 1) (b := b_ways_sure) h⟩)
  exact q_sone (q_ret (q_if (q_tcmp (dEq rfl hr.units) (q_ix (dIx rfl hr.units) (q_var 0) (q_int)) (q_str)) (q_ix (dIx rfl hr.units) (q_var 0) (q_int)) (q_int)))
abbrev N_used : List Str := ["told", "known", "line", "must", "may", "sure", "before", "kept", "one", "age", "older"]
theorem sc_used : FnScope N_used ["told", "known", "line"] (defScope s_used) := ⟨rfl, rfl, rfl, by decide +kernel, rfl, by decide +kernel, by decide +kernel⟩
theorem d_used {f : Addr} {fd : FuncData} (F : Fun c.K "used" "used" s_used f fd) (T : Txt c mg) (C_aged : Fp c P w mg base 1 "aged" ["told", "may", "line"] f_aged) (C_ways_sure : Fp c P w mg base 1 "ways_sure" ["told"] f_ways_sure) : FnOk P w c.K mg base CX0 2 f fd ["told", "known", "line"] (spF c 3 f_used) := by
  refine F.ok sc_used len_spF (fun cdv A outer s H vs Q E hr h => ⟨_, ?_, start_red (N := N_used) (np := 3) (b := b_used) h⟩)
  exact q_scons (q_asg (q_var 1) (q_gtp rfl rfl (q_gcns (q_gnm sc_used.nd) (q_gcns (q_gnm sc_used.nd) (q_gnil))))) (q_scons (q_asg (q_callP rfl (C_ways_sure.mono (by decide)) hr rfl (q_cons (q_var 0) (q_nil)) (lenS len0)) (q_gnm sc_used.nd)) (q_scons (q_asg (q_get2 (pe_dget2 (Nat.lt_of_le_of_lt (Nat.add_le_add_left (by decide : 1 ≤ 64) _) hr.units) (q_cb (pe_callTy (cDict rfl rfl) rfl T.n_dict (by decide +kernel) (q_cons (q_var 3) (q_nil)))) (q_var 2) (q_var 5) ⟨rfl, rfl, rfl, rfl⟩)) (q_gnm sc_used.nd)) (q_scons (q_asg (q_dic (fs := [(eVar 2, eC (.int 0))]) (pps_cons (q_var 2) (q_int) (pps_nil))) (q_gnm sc_used.nd)) (q_scons (q_for PassesOwn.never rfl (q_iseq rfl (q_var 3)) (q_gtp rfl rfl (q_gcns (q_gnm sc_used.nd) (q_gcns (q_gnm sc_used.nd) (q_gnil)))) (q_sone (q_sif (q_tcmp (dNe rfl hr.units) (q_var 8) (q_var 2)) (q_scons (q_asg (q_if (PW.pt (q_wand (q_tcmp (dEq rfl hr.units) (q_bin (dMod) (q_var 8) (q_ix (dIx rfl hr.units) (q_var 0) (q_int))) (q_bin (dMod) (q_var 2) (q_ix (dIx rfl hr.units) (q_var 0) (q_int)))) (q_wand1 (q_tcmp (dLt) (q_var 9) (q_var 6))))) (q_bin (dAdd rfl) (q_var 9) (q_int)) (q_var 9)) (q_gnm sc_used.nd)) (q_sone (q_sif (q_tcmp (dLt) (q_var 10) (q_var 5)) (q_sone (q_asg (q_var 10) (q_gix hr.units (q_var 7) (q_var 8)))) (q_snil)))) (q_snil)))) (q_scons (q_sif (q_tisN (q_var 4)) (q_sone (q_ret (q_tup (q_cons (q_cb (pe_callTy (cTuple rfl) rfl T.n_tuple (by decide +kernel) (q_cons (q_sortItems rfl rfl hr.units rfl T.n_sorted (q_var 7)) (q_nil)))) (q_cons (q_non) (q_nil)))))) (q_snil)) (q_sone (q_ret (q_tup (q_cons (q_cb (pe_callTy (cTuple rfl) rfl T.n_tuple (by decide +kernel) (q_cons (q_sortItems rfl rfl hr.units rfl T.n_sorted (q_var 7)) (q_nil)))) (q_cons (q_callP rfl (C_aged.mono (by decide)) hr rfl (q_cons (q_var 0) (q_cons (q_var 4) (q_cons (q_var 2) (q_nil)))) (lenS (lenS (lenS len0)))) (q_nil)))))))))))
abbrev N_filled : List Str := ["told", "known", "line"]
theorem sc_filled : FnScope N_filled ["told", "known", "line"] (defScope s_filled) := ⟨rfl, rfl, rfl, by decide +kernel, rfl, by decide +kernel, by decide +kernel⟩
theorem d_filled {f : Addr} {fd : FuncData} (F : Fun c.K "filled" "filled" s_filled f fd) (T : Txt c mg) (C_used : Fp c P w mg base 2 "used" ["told", "known", "line"] f_used) : FnOk P w c.K mg base CX0 3 f fd ["told", "known", "line"] (spF c 3 f_filled) := by
  refine F.ok sc_filled len_spF (fun cdv A outer s H vs Q E hr h => ⟨_, ?_, start_red (N := N_filled) (np := 3) (b := b_filled) h⟩)
  exact q_sone (q_ret (q_callP rfl (C_used.mono (by decide)) hr rfl (q_cons (q_var 0) (q_cons (q_var 1) (q_cons (q_var 2) (q_nil)))) (lenS (lenS (lenS len0)))))
abbrev N_Cache_fill : List Str := ["self", "line", "at", "row", "one"]
theorem sc_Cache_fill : FnScope N_Cache_fill ["self", "line"] (defScope s_Cache_fill) := ⟨rfl, rfl, rfl, by decide +kernel, rfl, by decide +kernel, by decide +kernel⟩
theorem d_Cache_fill {f : Addr} {fd : FuncData} (F : Fun c.K "fill" "Cache.fill" s_Cache_fill f fd) (T : Txt c mg) : FnOk P w c.K mg base CX0 1 f fd ["self", "line"] (spF c 2 f_Cache_fill) := by
  refine F.ok sc_Cache_fill len_spF (fun cdv A outer s H vs Q E hr h => ⟨_, ?_, start_red (N := N_Cache_fill) (np := 2) (b := b_Cache_fill) h⟩)
  exact q_scons (q_asg (q_bin (dMod) (q_var 1) (q_fld rfl T.c_Cache T.f_sets (q_var 0))) (q_gnm sc_Cache_fill.nd)) (q_scons (q_asg (q_cb (pe_callTy (cTuple rfl) rfl T.n_tuple (by decide +kernel) (q_cons (q_lc [("one", 4)] rfl sc_Cache_fill.nd (q_iseq rfl (q_ix (dIx rfl hr.units) (q_fld rfl T.c_Cache T.f_rows (q_var 0)) (q_var 2))) (blkOk_by (N := N_Cache_fill) (sc := defScope s_Cache_fill) (own := [("one", 4)]) (by decide +kernel)) (fun _ _ _ _ _ => q_gnm sc_Cache_fill.nd) (fun _ _ _ _ _ => q_ts1 (q_tcmp (dNe rfl hr.units) (q_var 4) (q_var 1))) (fun _ _ _ _ _ => q_var 4)) (q_nil)))) (q_gnm sc_Cache_fill.nd)) (q_sone (q_asg (q_sl rfl (q_bin (dAdd rfl) (q_tup (q_cons (q_var 1) (q_nil))) (q_var 3)) q_pno (q_ppart (q_fld rfl T.c_Cache T.f_ways (q_var 0)))) (q_gix hr.units (q_fld rfl T.c_Cache T.f_rows (q_var 0)) (q_var 2)))))
abbrev N_touched : List Str := ["told", "known", "line", "must", "may", "one", "_"]
theorem sc_touched : FnScope N_touched ["told", "known", "line"] (defScope s_touched) := ⟨rfl, rfl, rfl, by decide +kernel, rfl, by decide +kernel, by decide +kernel⟩
theorem d_touched {f : Addr} {fd : FuncData} (F : Fun c.K "touched" "touched" s_touched f fd) (T : Txt c mg) (C_used : Fp c P w mg base 2 "used" ["told", "known", "line"] f_used) : FnOk P w c.K mg base CX0 3 f fd ["told", "known", "line"] (spF c 3 f_touched) := by
  refine F.ok sc_touched len_spF (fun cdv A outer s H vs Q E hr h => ⟨_, ?_, start_red (N := N_touched) (np := 3) (b := b_touched) h⟩)
  exact q_scons (q_sif (q_tcmp (dEq rfl hr.units) (q_ix (dIx rfl hr.units) (q_var 0) (q_int)) (q_str)) (q_sone (q_ret (q_callP rfl (C_used.mono (by decide)) hr rfl (q_cons (q_var 0) (q_cons (q_var 1) (q_cons (q_var 2) (q_nil)))) (lenS (lenS (lenS len0)))))) (q_snil)) (q_scons (q_asg (q_var 1) (q_gtp rfl rfl (q_gcns (q_gnm sc_touched.nd) (q_gcns (q_gnm sc_touched.nd) (q_gnil))))) (q_scons (q_sif (q_tru rfl (q_cb (pe_callB (cAny rfl rfl (cr_any rfl)) rfl T.n_any (by decide +kernel) (q_cons (q_lc [("one", 5), ("_", 6)] rfl sc_touched.nd (q_iseq rfl (q_var 3)) (blkOk_by (N := N_touched) (sc := defScope s_touched) (own := [("one", 5), ("_", 6)]) (by decide +kernel)) (fun _ _ _ _ _ => q_gtp rfl rfl (q_gcns (q_gnm sc_touched.nd) (q_gcns (q_gnm sc_touched.nd) (q_gnil)))) (fun _ _ _ _ _ => q_tsn) (fun _ _ _ _ _ => q_cmp (dEq rfl hr.units) (q_var 5) (q_var 2))) (q_nil))))) (q_sone (q_ret (q_var 1))) (q_snil)) (q_sone (q_ret (q_tup (q_cons (q_cb (pe_callTy (cTuple rfl) rfl T.n_tuple (by decide +kernel) (q_cons (q_cb (pe_callB (cSortQ rfl) rfl T.n_sorted (by decide +kernel) (q_cons (q_bin (dAdd rfl) (q_var 3) (q_tup (q_cons (q_tup (q_cons (q_var 2) (q_cons (q_int) (q_nil)))) (q_nil)))) (q_nil)))) (q_nil)))) (q_cons (q_var 4) (q_nil))))))))
abbrev N_missed : List Str := ["known", "line", "must", "may", "pair"]
theorem sc_missed : FnScope N_missed ["known", "line"] (defScope s_missed) := ⟨rfl, rfl, rfl, by decide +kernel, rfl, by decide +kernel, by decide +kernel⟩
theorem d_missed {f : Addr} {fd : FuncData} (F : Fun c.K "missed" "missed" s_missed f fd) (T : Txt c mg) : FnOk P w c.K mg base CX0 1 f fd ["known", "line"] (spF c 2 f_missed) := by
  refine F.ok sc_missed len_spF (fun cdv A outer s H vs Q E hr h => ⟨_, ?_, start_red (N := N_missed) (np := 2) (b := b_missed) h⟩)
  exact q_scons (q_asg (q_var 0) (q_gtp rfl rfl (q_gcns (q_gnm sc_missed.nd) (q_gcns (q_gnm sc_missed.nd) (q_gnil))))) (q_sone (q_ret (q_tup (q_cons (q_var 2) (q_cons (q_if (q_tisN (q_var 3)) (q_non) (q_cb (pe_callTy (cTuple rfl) rfl T.n_tuple (by decide +kernel) (q_cons (q_lc [("pair", 4)] rfl sc_missed.nd (q_iseq rfl (q_var 3)) (blkOk_by (N := N_missed) (sc := defScope s_missed) (own := [("pair", 4)]) (by decide +kernel)) (fun _ _ _ _ _ => q_gnm sc_missed.nd) (fun _ _ _ _ _ => q_ts1 (q_tcmp (dNe rfl hr.units) (q_ix (dIx rfl hr.units) (q_var 4) (q_int)) (q_var 1))) (fun _ _ _ _ _ => q_var 4)) (q_nil))))) (q_nil))))))
abbrev N_Cache_has : List Str := ["self", "line", "at", "row", "one"]
theorem sc_Cache_has : FnScope N_Cache_has ["self", "line"] (defScope s_Cache_has) := ⟨rfl, rfl, rfl, by decide +kernel, rfl, by decide +kernel, by decide +kernel⟩
theorem d_Cache_has {f : Addr} {fd : FuncData} (F : Fun c.K "has" "Cache.has" s_Cache_has f fd) (T : Txt c mg) : FnOk P w c.K mg base CX0 1 f fd ["self", "line"] (spF c 2 f_Cache_has) := by
  refine F.ok sc_Cache_has len_spF (fun cdv A outer s H vs Q E hr h => ⟨_, ?_, start_red (N := N_Cache_has) (np := 2) (b := b_Cache_has) h⟩)
  exact q_scons (q_asg (q_bin (dMod) (q_var 1) (q_fld rfl T.c_Cache T.f_sets (q_var 0))) (q_gnm sc_Cache_has.nd)) (q_scons (q_asg (q_ix (dIx rfl hr.units) (q_fld rfl T.c_Cache T.f_rows (q_var 0)) (q_var 2)) (q_gnm sc_Cache_has.nd)) (q_scons (q_sif (q_tcmp (dNotIn rfl hr.units) (q_var 1) (q_var 3)) (q_sone (q_ret (q_bl))) (q_snil)) (q_scons (q_sif (q_tcmp (dEq rfl hr.units) (q_fld rfl T.c_Cache T.f_policy (q_var 0)) (q_str)) (q_sone (q_asg (q_bin (dAdd rfl) (q_tup (q_cons (q_var 1) (q_nil))) (q_cb (pe_callTy (cTuple rfl) rfl T.n_tuple (by decide +kernel) (q_cons (q_lc [("one", 4)] rfl sc_Cache_has.nd (q_iseq rfl (q_var 3)) (blkOk_by (N := N_Cache_has) (sc := defScope s_Cache_has) (own := [("one", 4)]) (by decide +kernel)) (fun _ _ _ _ _ => q_gnm sc_Cache_has.nd) (fun _ _ _ _ _ => q_ts1 (q_tcmp (dNe rfl hr.units) (q_var 4) (q_var 1))) (fun _ _ _ _ _ => q_var 4)) (q_nil))))) (q_gix hr.units (q_fld rfl T.c_Cache T.f_rows (q_var 0)) (q_var 2)))) (q_snil)) (q_sone (q_ret (q_bl))))))
abbrev N_verdicts : List Str := ["known", "line", "must", "may", "one", "_"]
theorem sc_verdicts : FnScope N_verdicts ["known", "line"] (defScope s_verdicts) := ⟨rfl, rfl, rfl, by decide +kernel, rfl, by decide +kernel, by decide +kernel⟩
theorem d_verdicts {f : Addr} {fd : FuncData} (F : Fun c.K "verdicts" "verdicts" s_verdicts f fd) (T : Txt c mg) : FnOk P w c.K mg base CX0 1 f fd ["known", "line"] (spF c 2 f_verdicts) := by
  refine F.ok sc_verdicts len_spF (fun cdv A outer s H vs Q E hr h => ⟨_, ?_, start_red (N := N_verdicts) (np := 2) (b := b_verdicts) h⟩)
  exact q_scons (q_asg (q_var 0) (q_gtp rfl rfl (q_gcns (q_gnm sc_verdicts.nd) (q_gcns (q_gnm sc_verdicts.nd) (q_gnil))))) (q_scons (q_sif (q_tru rfl (q_cb (pe_callB (cAny rfl rfl (cr_any rfl)) rfl T.n_any (by decide +kernel) (q_cons (q_lc [("one", 4), ("_", 5)] rfl sc_verdicts.nd (q_iseq rfl (q_var 2)) (blkOk_by (N := N_verdicts) (sc := defScope s_verdicts) (own := [("one", 4), ("_", 5)]) (by decide +kernel)) (fun _ _ _ _ _ => q_gtp rfl rfl (q_gcns (q_gnm sc_verdicts.nd) (q_gcns (q_gnm sc_verdicts.nd) (q_gnil)))) (fun _ _ _ _ _ => q_tsn) (fun _ _ _ _ _ => q_cmp (dEq rfl hr.units) (q_var 4) (q_var 1))) (q_nil))))) (q_sone (q_ret (q_lst (q_cons (q_bl) (q_nil))))) (q_snil)) (q_scons (q_sif (PW.pt (q_wand (q_tnotN (q_var 3)) (q_wand1 (q_tnot (q_tru rfl (q_cb (pe_callB (cAny rfl rfl (cr_any rfl)) rfl T.n_any (by decide +kernel) (q_cons (q_lc [("one", 4), ("_", 5)] rfl sc_verdicts.nd (q_iseq rfl (q_var 3)) (blkOk_by (N := N_verdicts) (sc := defScope s_verdicts) (own := [("one", 4), ("_", 5)]) (by decide +kernel)) (fun _ _ _ _ _ => q_gtp rfl rfl (q_gcns (q_gnm sc_verdicts.nd) (q_gcns (q_gnm sc_verdicts.nd) (q_gnil)))) (fun _ _ _ _ _ => q_tsn) (fun _ _ _ _ _ => q_cmp (dEq rfl hr.units) (q_var 4) (q_var 1))) (q_nil))))))))) (q_sone (q_ret (q_lst (q_cons (q_bl) (q_nil))))) (q_snil)) (q_sone (q_ret (q_lst (q_cons (q_bl) (q_cons (q_bl) (q_nil))))))))
abbrev N__law_step : List Str := ["told", "cache", "known", "line", "how", "answers", "here", "after"]
theorem sc__law_step : FnScope N__law_step ["told", "cache", "known", "line", "how"] (defScope s__law_step) := ⟨rfl, rfl, rfl, by decide +kernel, rfl, by decide +kernel, by decide +kernel⟩
theorem d__law_step {f : Addr} {fd : FuncData} (F : Fun c.K "_law_step" "_law_step" s__law_step f fd) (T : Txt c mg) (C_filled : Fp c P w mg base 3 "filled" ["told", "known", "line"] f_filled) (C_Cache_fill : Mp c P w mg base 1 "Cache" "fill" ["self", "line"] f_Cache_fill) (C_touched : Fp c P w mg base 3 "touched" ["told", "known", "line"] f_touched) (C_missed : Fp c P w mg base 1 "missed" ["known", "line"] f_missed) (C_Cache_has : Mp c P w mg base 1 "Cache" "has" ["self", "line"] f_Cache_has) (C_verdicts : Fp c P w mg base 1 "verdicts" ["known", "line"] f_verdicts) : FnOk P w c.K mg base CX0 4 f fd ["told", "cache", "known", "line", "how"] (spF c 5 f__law_step) := by
  refine F.ok sc__law_step len_spF (fun cdv A outer s H vs Q E hr h => ⟨_, ?_, start_red (N := N__law_step) (np := 5) (b := b__law_step) h⟩)
  exact q_scons (q_asg (q_callP rfl (C_verdicts.mono (by decide)) hr rfl (q_cons (q_var 2) (q_cons (q_var 3) (q_nil))) (lenS (lenS len0))) (q_gnm sc__law_step.nd)) (q_scons (q_asg (q_methP rfl C_Cache_has (hr.mono (by decide)) (q_var 1) (q_cons (q_var 3) (q_nil)) (lenP (lenS len0))) (q_gnm sc__law_step.nd)) (q_scons (q_asg (q_if (q_tru rfl (q_var 6)) (q_callP rfl (C_touched.mono (by decide)) hr rfl (q_cons (q_var 0) (q_cons (q_var 2) (q_cons (q_var 3) (q_nil)))) (lenS (lenS (lenS len0)))) (q_callP rfl (C_missed.mono (by decide)) hr rfl (q_cons (q_var 2) (q_cons (q_var 3) (q_nil))) (lenS (lenS len0)))) (q_gnm sc__law_step.nd)) (q_scons (q_sif (PW.pt (q_wand (q_tnot (q_tru rfl (q_var 6))) (q_wand1 (q_tcmp (dGt) (q_var 4) (q_int))))) (q_scons (q_drop (q_methP rfl C_Cache_fill (hr.mono (by decide)) (q_var 1) (q_cons (q_var 3) (q_nil)) (lenP (lenS len0)))) (q_sone (q_asg (q_callP rfl (C_filled.mono (by decide)) hr rfl (q_cons (q_var 0) (q_cons (q_var 7) (q_cons (q_var 3) (q_nil)))) (lenS (lenS (lenS len0)))) (q_gnm sc__law_step.nd)))) (q_snil)) (q_sone (q_ret (q_tup (q_cons (q_var 6) (q_cons (q_var 5) (q_cons (q_var 7) (q_nil))))))))))
abbrev N_anything : List Str := []
theorem sc_anything : FnScope N_anything [] (defScope s_anything) := ⟨rfl, rfl, rfl, by decide +kernel, rfl, by decide +kernel, by decide +kernel⟩
theorem d_anything {f : Addr} {fd : FuncData} (F : Fun c.K "anything" "anything" s_anything f fd) (T : Txt c mg) : FnOk P w c.K mg base CX0 1 f fd [] (spF c 0 f_anything) := by
  refine F.ok sc_anything len_spF (fun cdv A outer s H vs Q E hr h => ⟨_, ?_, start_red (N := N_anything) (np := 0) (b := b_anything) h⟩)
  exact q_sone (q_ret (q_tup (q_cons (q_tup (q_nil)) (q_cons (q_non) (q_nil)))))
abbrev N_Cache___init__ : List Str := ["self", "told", "lines", "row"]
theorem sc_Cache___init__ : FnScope N_Cache___init__ ["self", "told", "lines"] (defScope s_Cache___init__) := ⟨rfl, rfl, rfl, by decide +kernel, rfl, by decide +kernel, by decide +kernel⟩
theorem d_Cache___init__ {f : Addr} {fd : FuncData} (F : Fun c.K "__init__" "Cache.__init__" s_Cache___init__ f fd) (T : Txt c mg) : FnOk P w c.K mg base CX0 1 f fd ["self", "told", "lines"] (spF c 3 f_Cache___init__) := by
  refine F.ok sc_Cache___init__ len_spF (fun cdv A outer s H vs Q E hr h => ⟨_, ?_, start_red (N := N_Cache___init__) (np := 3) (b := b_Cache___init__) h⟩)
  exact q_scons (q_asg (q_var 1) (q_gtp rfl rfl (q_gcns (q_gfd rfl T.c_Cache T.f_sets (q_var 0)) (q_gcns (q_gfd rfl T.c_Cache T.f_ways (q_var 0)) (q_gcns (q_gfd rfl T.c_Cache T.f_policy (q_var 0)) (q_gnil)))))) (q_sone (q_asg (q_lc [("row", 3)] rfl sc_Cache___init__.nd (q_iseq rfl (q_var 2)) (blkOk_by (N := N_Cache___init__) (sc := defScope s_Cache___init__) (own := [("row", 3)]) (by decide +kernel)) (fun _ _ _ _ _ => q_gnm sc_Cache___init__.nd) (fun _ _ _ _ _ => q_tsn) (fun _ _ _ _ _ => q_cb (pe_callTy (cTuple rfl) rfl T.n_tuple (by decide +kernel) (q_cons (q_var 3) (q_nil))))) (q_gfd rfl T.c_Cache T.f_rows (q_var 0))))
abbrev N_is_start : List Str := ["told", "lines", "at", "row", "line"]
theorem sc_is_start : FnScope N_is_start ["told", "lines"] (defScope s_is_start) := ⟨rfl, rfl, rfl, by decide +kernel, rfl, by decide +kernel, by decide +kernel⟩
theorem d_is_start {f : Addr} {fd : FuncData} (F : Fun c.K "is_start" "is_start" s_is_start f fd) (T : Txt c mg) : FnOk P w c.K mg base CX0 1 f fd ["told", "lines"] (spF c 2 f_is_start) := by
  refine F.ok sc_is_start len_spF (fun cdv A outer s H vs Q E hr h => ⟨_, ?_, start_red (N := N_is_start) (np := 2) (b := b_is_start) h⟩)
  exact q_scons (q_sif (q_tcmp (dNe rfl hr.units) (q_cb (pe_callB (cLen rfl) rfl T.n_len (by decide +kernel) (q_cons (q_var 1) (q_nil)))) (q_ix (dIx rfl hr.units) (q_var 0) (q_int))) (q_sone (q_ret (q_bl))) (q_snil)) (q_scons (q_for PassesOwn.never rfl (q_ienumT rfl rfl T.n_enumerate (q_cons (q_var 1) (q_nil))) (q_gtp rfl rfl (q_gcns (q_gnm sc_is_start.nd) (q_gcns (q_gnm sc_is_start.nd) (q_gnil)))) (q_scons (q_sif (PW.pt (q_wor (q_tcmp (dGt) (q_cb (pe_callB (cLen rfl) rfl T.n_len (by decide +kernel) (q_cons (q_var 3) (q_nil)))) (q_ix (dIx rfl hr.units) (q_var 0) (q_int))) (q_wor1 (q_tcmp (dNe rfl hr.units) (q_cb (pe_callB (cLen rfl) rfl T.n_len (by decide +kernel) (q_cons (q_dc (pe_dc (own := [("line", 4)]) rfl sc_is_start.nd (q_iseq rfl (q_var 3)) (blkOk_by (N := N_is_start) (sc := defScope s_is_start) (own := [("line", 4)]) (by decide +kernel)) (fun _ _ _ _ _ => q_gnm sc_is_start.nd) (fun _ _ _ _ _ => q_tsn) (fun _ _ _ _ _ => q_var 4) (fun _ _ _ _ _ => q_bl))) (q_nil)))) (q_cb (pe_callB (cLen rfl) rfl T.n_len (by decide +kernel) (q_cons (q_var 3) (q_nil)))))))) (q_sone (q_ret (q_bl))) (q_snil)) (q_sone (q_sif (q_tru rfl (q_cb (pe_callB (cAny rfl rfl (cr_any rfl)) rfl T.n_any (by decide +kernel) (q_cons (q_lc [("line", 4)] rfl sc_is_start.nd (q_iseq rfl (q_var 3)) (blkOk_by (N := N_is_start) (sc := defScope s_is_start) (own := [("line", 4)]) (by decide +kernel)) (fun _ _ _ _ _ => q_gnm sc_is_start.nd) (fun _ _ _ _ _ => q_tsn) (fun _ _ _ _ _ => q_cmp (dNe rfl hr.units) (q_bin (dMod) (q_var 4) (q_ix (dIx rfl hr.units) (q_var 0) (q_int))) (q_var 2))) (q_nil))))) (q_sone (q_ret (q_bl))) (q_snil))))) (q_sone (q_ret (q_bl))))
abbrev N__law_lines_of : List Str := ["tape", "told", "rows", "at", "row", "k", "line"]
theorem sc__law_lines_of : FnScope N__law_lines_of ["tape", "told"] (defScope s__law_lines_of) := ⟨rfl, rfl, rfl, by decide +kernel, rfl, by decide +kernel, by decide +kernel⟩
theorem d__law_lines_of {f : Addr} {fd : FuncData} (F : Fun c.K "_law_lines_of" "_law_lines_of" s__law_lines_of f fd) (T : Txt c mg) (C__law_take : Fp c P w mg base 1 "_law_take" ["tape", "many"] f__law_take) : FnOk P w c.K mg base CX0 2 f fd ["tape", "told"] (spF c 2 f__law_lines_of) := by
  refine F.ok sc__law_lines_of len_spF (fun cdv A outer s H vs Q E hr h => ⟨_, ?_, start_red (N := N__law_lines_of) (np := 2) (b := b__law_lines_of) h⟩)
  exact q_scons (q_asg (q_lst (q_nil)) (q_gnm sc__law_lines_of.nd)) (q_scons (q_for PassesOwn.never rfl (q_irng1 rfl T.n_range (q_cons (q_ix (dIx rfl hr.units) (q_var 1) (q_int)) (q_nil))) (q_gnm sc__law_lines_of.nd) (q_scons (q_asg (q_lst (q_nil)) (q_gnm sc__law_lines_of.nd)) (q_scons (q_for PassesOwn.never rfl (q_irng1 rfl T.n_range (q_cons (q_ix (dIx rfl hr.units) (q_var 1) (q_int)) (q_nil))) (q_gnm sc__law_lines_of.nd) (q_scons (q_asg (q_bin (dAdd rfl) (q_var 3) (q_bin (dMul) (q_ix (dIx rfl hr.units) (q_var 1) (q_int)) (q_callP rfl (C__law_take.mono (by decide)) hr rfl (q_cons (q_var 0) (q_cons (q_int) (q_nil))) (lenS (lenS len0))))) (q_gnm sc__law_lines_of.nd)) (q_sone (q_sif (PW.pt (q_wand (q_tcmp (dNotIn rfl hr.units) (q_var 6) (q_var 4)) (q_wand1 (q_tcmp (dGt) (q_callP rfl (C__law_take.mono (by decide)) hr rfl (q_cons (q_var 0) (q_cons (q_int) (q_nil))) (lenS (lenS len0))) (q_int))))) (q_sone (q_drop (q_bm rfl (pe_bm PySem.F.plainAttrs_list PySem.F.slot_list_append PySem.F.type_list_append mkAppend (q_var 4) (q_cons (q_var 6) (q_nil)))))) (q_snil))))) (q_sone (q_drop (q_bm rfl (pe_bm PySem.F.plainAttrs_list PySem.F.slot_list_append PySem.F.type_list_append mkAppend (q_var 2) (q_cons (q_cb (pe_callTy (cTuple rfl) rfl T.n_tuple (by decide +kernel) (q_cons (q_var 4) (q_nil)))) (q_nil))))))))) (q_sone (q_ret (q_cb (pe_callTy (cTuple rfl) rfl T.n_tuple (by decide +kernel) (q_cons (q_var 2) (q_nil)))))))
abbrev N__law_tape : List Str := ["script", "cells", "seed", "cell"]
theorem sc__law_tape : FnScope N__law_tape ["script"] (defScope s__law_tape) := ⟨rfl, rfl, rfl, by decide +kernel, rfl, by decide +kernel, by decide +kernel⟩
theorem d__law_tape {f : Addr} {fd : FuncData} (F : Fun c.K "_law_tape" "_law_tape" s__law_tape f fd) (T : Txt c mg) : FnOk P w c.K mg base CX0 1 f fd ["script"] (spF c 1 f__law_tape) := by
  refine F.ok sc__law_tape len_spF (fun cdv A outer s H vs Q E hr h => ⟨_, ?_, start_red (N := N__law_tape) (np := 1) (b := b__law_tape) h⟩)
  exact q_scons (q_setLc (ps_setLc (i := 1) (own := [("cell", 3)]) rfl sc__law_tape.nd rfl rfl (sw_true rfl rfl rfl (by decide +kernel)) (q_iseq rfl (q_var 0)) (blkOk_by (N := N__law_tape) (sc := defScope s__law_tape) (own := [("cell", 3)]) (by decide +kernel)) (fun _ _ _ _ _ => q_gnm sc__law_tape.nd) (fun _ _ _ _ _ => q_tsn) (fun _ _ _ _ _ => q_cb (pe_callB (cAbs) rfl T.n_abs (by decide +kernel) (q_cons (q_cb (pe_callTy (cInt) rfl T.n_int (by decide +kernel) (q_cons (q_var 3) (q_nil)))) (q_nil)))))) (q_scons (q_asg (q_int) (q_gnm sc__law_tape.nd)) (q_scons (q_for PassesOwn.never rfl (q_iseq rfl (q_var 1)) (q_gnm sc__law_tape.nd) (q_sone (q_asg (q_bin (dMod) (q_cb (pe_callTy (cInt) rfl T.n_int (by decide +kernel) (q_cons (q_bin (dAdd rfl) (q_bin (dMul) (q_var 2) (q_int)) (q_var 3)) (q_nil)))) (q_int)) (q_gnm sc__law_tape.nd)))) (q_sone (q_ret (q_dic (fs := [(eC (.str "cells"), eVar 1), (eC (.str "at"), eC (.int 0)), (eC (.str "left"), eC (.int 0)), (eC (.str "seed"), eVar 2), (eC (.str "salt"), eC (.int 0))]) (pps_cons (q_str) (q_var 1) (pps_cons (q_str) (q_int) (pps_cons (q_str) (q_int) (pps_cons (q_str) (q_var 2) (pps_cons (q_str) (q_int) (pps_nil)))))))))))
abbrev N_law : List Str := ["script", "tape", "told", "sets", "single", "start", "names", "line", "other", "cache", "twin", "alone", "known", "second", "parts", "held", "turn", "how", "at", "here", "answers", "after", "twins", "part", "row", "k", "one"]
theorem sc_law : FnScope N_law ["script"] (defScope s_law) := ⟨rfl, rfl, rfl, by decide +kernel, rfl, by decide +kernel, by decide +kernel⟩
theorem d_law {f : Addr} {fd : FuncData} (F : Fun c.K "law" "law" s_law f fd) (T : Txt c mg) (C_is_known_within : Fp c P w mg base 1 "is_known_within" ["one", "two"] f_is_known_within) (C_of_cache : Fp c P w mg base 1 "of_cache" ["told", "rows"] f_of_cache) (C_Cache_lines : Mp c P w mg base 1 "Cache" "lines" ["self"] f_Cache_lines) (C__law_sides : Fp c P w mg base 2 "_law_sides" ["told", "one", "two"] f__law_sides) (C__law_take : Fp c P w mg base 1 "_law_take" ["tape", "many"] f__law_take) (C__law_part_of : Fp c P w mg base 1 "_law_part_of" ["known", "sets", "at"] f__law_part_of) (C__law_named : Fp c P w mg base 1 "_law_named" ["known", "names"] f__law_named) (C__law_step : Fp c P w mg base 4 "_law_step" ["told", "cache", "known", "line", "how"] f__law_step) (C_anything : Fp c P w mg base 1 "anything" [] f_anything) (C_Cache___init__ : Ip c P w mg base 1 "Cache" ["self", "told", "lines"] f_Cache___init__) (C_is_start : Fp c P w mg base 1 "is_start" ["told", "lines"] f_is_start) (C__law_lines_of : Fp c P w mg base 2 "_law_lines_of" ["tape", "told"] f__law_lines_of) (C__law_tape : Fp c P w mg base 1 "_law_tape" ["script"] f__law_tape) : FnOk P w c.K mg base CX0 5 f fd ["script"] (spF c 1 f_law) := by
  refine F.ok sc_law len_spF (fun cdv A outer s H vs Q E hr h => ⟨_, ?_, start_red (N := N_law) (np := 1) (b := b_law) h⟩)
  exact q_scons (q_asg (q_callP rfl (C__law_tape.mono (by decide)) hr rfl (q_cons (q_var 0) (q_nil)) (lenS len0)) (q_gnm sc_law.nd)) (q_scons (q_asg (q_tup (q_cons (q_ix (dIx rfl hr.units) (q_lst (q_cons (q_int) (q_cons (q_int) (q_cons (q_int) (q_nil))))) (q_callP rfl (C__law_take.mono (by decide)) hr rfl (q_cons (q_var 1) (q_cons (q_int) (q_nil))) (lenS (lenS len0)))) (q_cons (q_bin (dAdd rfl) (q_int) (q_callP rfl (C__law_take.mono (by decide)) hr rfl (q_cons (q_var 1) (q_cons (q_int) (q_nil))) (lenS (lenS len0)))) (q_cons (q_ix (dIx rfl hr.units) (q_lst (q_cons (q_str) (q_cons (q_str) (q_nil)))) (q_callP rfl (C__law_take.mono (by decide)) hr rfl (q_cons (q_var 1) (q_cons (q_int) (q_nil))) (lenS (lenS len0)))) (q_nil))))) (q_gnm sc_law.nd)) (q_scons (q_asg (q_tup (q_cons (q_ix (dIx rfl hr.units) (q_var 2) (q_int)) (q_cons (q_tup (q_cons (q_int) (q_cons (q_ix (dIx rfl hr.units) (q_var 2) (q_int)) (q_cons (q_ix (dIx rfl hr.units) (q_var 2) (q_int)) (q_nil))))) (q_nil)))) (q_gtp rfl rfl (q_gcns (q_gnm sc_law.nd) (q_gcns (q_gnm sc_law.nd) (q_gnil))))) (q_scons (q_asg (q_callP rfl (C__law_lines_of.mono (by decide)) hr rfl (q_cons (q_var 1) (q_cons (q_var 2) (q_nil))) (lenS (lenS len0))) (q_gnm sc_law.nd)) (q_scons (q_asg (q_dic0) (q_gnm sc_law.nd)) (q_scons (q_for PassesOwn.never rfl (q_irng1 rfl T.n_range (q_cons (q_bin (dMul) (q_int) (q_var 3)) (q_nil))) (q_gnm sc_law.nd) (q_sone (q_asg (q_bin (dAdd rfl) (q_bin (dMul) (q_var 3) (q_bin (dAdd rfl) (q_bin (dMul) (q_int) (q_bin (dDiv) (q_cb (pe_callTy (cInt) rfl T.n_int (by decide +kernel) (q_cons (q_var 7) (q_nil)))) (q_var 3))) (q_callP rfl (C__law_take.mono (by decide)) hr rfl (q_cons (q_var 1) (q_cons (q_int) (q_nil))) (lenS (lenS len0))))) (q_bin (dMod) (q_cb (pe_callTy (cInt) rfl T.n_int (by decide +kernel) (q_cons (q_var 7) (q_nil)))) (q_var 3))) (q_gix hr.units (q_var 6) (q_var 7))))) (q_scons (q_asg (q_cb (pe_callTy (cTuple rfl) rfl T.n_tuple (by decide +kernel) (q_cons (q_lc [("row", 24)] rfl sc_law.nd (q_iseq rfl (q_var 5)) (blkOk_by (N := N_law) (sc := defScope s_law) (own := [("row", 24)]) (by decide +kernel)) (fun _ _ _ _ _ => q_gnm sc_law.nd) (fun _ _ _ _ _ => q_tsn) (fun _ _ _ _ _ => q_cb (pe_callTy (cTuple rfl) rfl T.n_tuple (by decide +kernel) (q_cons (q_lc [("line", 7)] rfl sc_law.nd (q_iseq rfl (q_var 24)) (blkOk_by (by rfl)) (fun _ _ _ _ _ => q_gnm sc_law.nd) (fun _ _ _ _ _ => q_tsn) (fun _ _ _ _ _ => q_ix (dIx rfl hr.units) (q_var 6) (q_var 7))) (q_nil))))) (q_nil)))) (q_gnm sc_law.nd)) (q_scons (q_sif (PW.pt (q_wor (q_tnot (q_tru rfl (q_callP rfl (C_is_start.mono (by decide)) hr rfl (q_cons (q_var 2) (q_cons (q_var 5) (q_nil))) (lenS (lenS len0))))) (q_wor1 (q_tnot (q_tru rfl (q_callP rfl (C_is_start.mono (by decide)) hr rfl (q_cons (q_var 2) (q_cons (q_var 8) (q_nil))) (lenS (lenS len0)))))))) (q_sone (q_ret (q_bl))) (q_snil)) (q_scons (q_asg (q_tup (q_cons (q_makeP rfl C_Cache___init__ (hr.mono (by decide)) rfl (q_cons (q_var 2) (q_cons (q_var 5) (q_nil))) (lenS (lenS len0))) (q_cons (q_makeP rfl C_Cache___init__ (hr.mono (by decide)) rfl (q_cons (q_var 2) (q_cons (q_var 8) (q_nil))) (lenS (lenS len0))) (q_cons (q_lc [("at", 18)] rfl sc_law.nd (q_irng1 rfl T.n_range (q_cons (q_var 3) (q_nil))) (blkOk_by (N := N_law) (sc := defScope s_law) (own := [("at", 18)]) (by decide +kernel)) (fun _ _ _ _ _ => q_gnm sc_law.nd) (fun _ _ _ _ _ => q_tsn) (fun _ _ _ _ _ => q_makeP rfl C_Cache___init__ (hr.mono (by decide)) rfl (q_cons (q_var 4) (q_cons (q_tup (q_cons (q_cb (pe_callTy (cTuple rfl) rfl T.n_tuple (by decide +kernel) (q_cons (q_lc [("line", 7)] rfl sc_law.nd (q_iseq rfl (q_ix (dIx rfl hr.units) (q_var 5) (q_var 18))) (blkOk_by (by rfl)) (fun _ _ _ _ _ => q_gnm sc_law.nd) (fun _ _ _ _ _ => q_tsn) (fun _ _ _ _ _ => q_bin (dDiv) (q_cb (pe_callTy (cInt) rfl T.n_int (by decide +kernel) (q_cons (q_var 7) (q_nil)))) (q_var 3))) (q_nil)))) (q_nil))) (q_nil))) (lenS (lenS len0)))) (q_nil))))) (q_gtp rfl rfl (q_gcns (q_gnm sc_law.nd) (q_gcns (q_gnm sc_law.nd) (q_gcns (q_gnm sc_law.nd) (q_gnil)))))) (q_scons (q_asg (q_if (q_tcmp (dGt) (q_callP rfl (C__law_take.mono (by decide)) hr rfl (q_cons (q_var 1) (q_cons (q_int) (q_nil))) (lenS (lenS len0))) (q_int)) (q_callP rfl (C_of_cache.mono (by decide)) hr rfl (q_cons (q_var 2) (q_cons (q_var 5) (q_nil))) (lenS (lenS len0))) (q_callP0 rfl (C_anything.mono (by decide)) hr rfl)) (q_gnm sc_law.nd)) (q_scons (q_par2 (i := 13) (j := 14) rfl sc_law.nd (q_cons (q_callP rfl (C__law_named.mono (by decide)) hr rfl (q_cons (q_var 12) (q_cons (q_var 6) (q_nil))) (lenS (lenS len0))) (q_cons (q_lc [("at", 18)] rfl sc_law.nd (q_irng1 rfl T.n_range (q_cons (q_var 3) (q_nil))) (blkOk_by (N := N_law) (sc := defScope s_law) (own := [("at", 18)]) (by decide +kernel)) (fun _ _ _ _ _ => q_gnm sc_law.nd) (fun _ _ _ _ _ => q_tsn) (fun _ _ _ _ _ => q_callP rfl (C__law_part_of.mono (by decide)) hr rfl (q_cons (q_var 12) (q_cons (q_var 3) (q_cons (q_var 18) (q_nil)))) (lenS (lenS (lenS len0))))) (q_nil)))) (q_scons (q_asg (q_lst (q_cons (q_var 12) (q_nil))) (q_gnm sc_law.nd)) (q_scons (q_for PassesOwn.never rfl (q_irng1 rfl T.n_range (q_cons (q_int) (q_nil))) (q_gnm sc_law.nd) (q_scons (q_par2 (i := 7) (j := 17) rfl sc_law.nd (q_cons (q_callP rfl (C__law_take.mono (by decide)) hr rfl (q_cons (q_var 1) (q_cons (q_bin (dMul) (q_int) (q_var 3)) (q_nil))) (lenS (lenS len0))) (q_cons (q_callP rfl (C__law_take.mono (by decide)) hr rfl (q_cons (q_var 1) (q_cons (q_int) (q_nil))) (lenS (lenS len0))) (q_nil)))) (q_scons (q_asg (q_bin (dMod) (q_cb (pe_callTy (cInt) rfl T.n_int (by decide +kernel) (q_cons (q_var 7) (q_nil)))) (q_var 3)) (q_gnm sc_law.nd)) (q_scons (q_asg (q_callP rfl (C__law_step.mono (by decide)) hr rfl (q_cons (q_var 2) (q_cons (q_var 9) (q_cons (q_var 12) (q_cons (q_var 7) (q_cons (q_var 17) (q_nil)))))) (lenS (lenS (lenS (lenS (lenS len0)))))) (q_gtp rfl rfl (q_gcns (q_gnm sc_law.nd) (q_gcns (q_gnm sc_law.nd) (q_gcns (q_gnm sc_law.nd) (q_gnil)))))) (q_scons (q_asg (q_callP rfl (C__law_step.mono (by decide)) hr rfl (q_cons (q_var 2) (q_cons (q_var 10) (q_cons (q_var 13) (q_cons (q_ix (dIx rfl hr.units) (q_var 6) (q_var 7)) (q_cons (q_var 17) (q_nil)))))) (lenS (lenS (lenS (lenS (lenS len0)))))) (q_gnm sc_law.nd)) (q_scons (q_asg (q_callP rfl (C__law_step.mono (by decide)) hr rfl (q_cons (q_var 4) (q_cons (q_ix (dIx rfl hr.units) (q_var 11) (q_var 18)) (q_cons (q_ix (dIx rfl hr.units) (q_var 14) (q_var 18)) (q_cons (q_bin (dDiv) (q_cb (pe_callTy (cInt) rfl T.n_int (by decide +kernel) (q_cons (q_var 7) (q_nil)))) (q_var 3)) (q_cons (q_var 17) (q_nil)))))) (lenS (lenS (lenS (lenS (lenS len0)))))) (q_gnm sc_law.nd)) (q_scons (q_sif (PW.pt (q_wor (q_tcmp (dNotIn rfl hr.units) (q_var 19) (q_var 20)) (q_wor (q_tcmp (dNe rfl hr.units) (q_sl rfl (q_var 22) q_pno (q_ppart (q_int))) (q_tup (q_cons (q_var 19) (q_cons (q_var 20) (q_nil))))) (q_wor (q_tcmp (dNe rfl hr.units) (q_sl rfl (q_var 23) q_pno (q_ppart (q_int))) (q_tup (q_cons (q_var 19) (q_cons (q_var 20) (q_nil))))) (q_wor (q_tcmp (dNe rfl hr.units) (q_ix (dIx rfl hr.units) (q_var 22) (q_int)) (q_callP rfl (C__law_named.mono (by decide)) hr rfl (q_cons (q_var 21) (q_cons (q_var 6) (q_nil))) (lenS (lenS len0)))) (q_wor1 (q_tcmp (dNe rfl hr.units) (q_ix (dIx rfl hr.units) (q_var 23) (q_int)) (q_callP rfl (C__law_part_of.mono (by decide)) hr rfl (q_cons (q_var 21) (q_cons (q_var 3) (q_cons (q_var 18) (q_nil)))) (lenS (lenS (lenS len0))))))))))) (q_sone (q_ret (q_bl))) (q_snil)) (q_scons (q_asg (q_tup (q_cons (q_var 21) (q_cons (q_ix (dIx rfl hr.units) (q_var 22) (q_int)) (q_cons (q_ix (dIx rfl hr.units) (q_var 23) (q_int)) (q_nil))))) (q_gtp rfl rfl (q_gcns (q_gnm sc_law.nd) (q_gcns (q_gnm sc_law.nd) (q_gcns (q_gix hr.units (q_var 14) (q_var 18)) (q_gnil)))))) (q_scons (q_sif (q_tcmp (dNe rfl hr.units) (q_methP0 rfl C_Cache_lines (hr.mono (by decide)) (q_var 9) rfl) (q_cb (pe_callTy (cTuple rfl) rfl T.n_tuple (by decide +kernel) (q_cons (q_lc [("k", 25)] rfl sc_law.nd (q_irng1 rfl T.n_range (q_cons (q_var 3) (q_nil))) (blkOk_by (N := N_law) (sc := defScope s_law) (own := [("k", 25)]) (by decide +kernel)) (fun _ _ _ _ _ => q_gnm sc_law.nd) (fun _ _ _ _ _ => q_tsn) (fun _ _ _ _ _ => q_cb (pe_callTy (cTuple rfl) rfl T.n_tuple (by decide +kernel) (q_cons (q_lc [("one", 26)] rfl sc_law.nd (q_iseq rfl (q_ix (dIx rfl hr.units) (q_methP0 rfl C_Cache_lines (hr.mono (by decide)) (q_ix (dIx rfl hr.units) (q_var 11) (q_var 25)) rfl) (q_int))) (blkOk_by (by rfl)) (fun _ _ _ _ _ => q_gnm sc_law.nd) (fun _ _ _ _ _ => q_tsn) (fun _ _ _ _ _ => q_bin (dAdd rfl) (q_bin (dMul) (q_var 26) (q_var 3)) (q_var 25))) (q_nil))))) (q_nil))))) (q_sone (q_ret (q_bl))) (q_snil)) (q_scons (q_sif (PW.pt (q_wor (q_tcmp (dNe rfl hr.units) (q_methP0 rfl C_Cache_lines (hr.mono (by decide)) (q_var 10) rfl) (q_cb (pe_callTy (cTuple rfl) rfl T.n_tuple (by decide +kernel) (q_cons (q_lc [("row", 24)] rfl sc_law.nd (q_iseq rfl (q_methP0 rfl C_Cache_lines (hr.mono (by decide)) (q_var 9) rfl)) (blkOk_by (N := N_law) (sc := defScope s_law) (own := [("row", 24)]) (by decide +kernel)) (fun _ _ _ _ _ => q_gnm sc_law.nd) (fun _ _ _ _ _ => q_tsn) (fun _ _ _ _ _ => q_cb (pe_callTy (cTuple rfl) rfl T.n_tuple (by decide +kernel) (q_cons (q_lc [("one", 26)] rfl sc_law.nd (q_iseq rfl (q_var 24)) (blkOk_by (by rfl)) (fun _ _ _ _ _ => q_gnm sc_law.nd) (fun _ _ _ _ _ => q_tsn) (fun _ _ _ _ _ => q_ix (dIx rfl hr.units) (q_var 6) (q_var 26))) (q_nil))))) (q_nil))))) (q_wor1 (q_tcmp (dNe rfl hr.units) (q_lc [("k", 25)] rfl sc_law.nd (q_irng1 rfl T.n_range (q_cons (q_var 3) (q_nil))) (blkOk_by (N := N_law) (sc := defScope s_law) (own := [("k", 25)]) (by decide +kernel)) (fun _ _ _ _ _ => q_gnm sc_law.nd) (fun _ _ _ _ _ => q_tsn) (fun _ _ _ _ _ => q_callP rfl (C__law_part_of.mono (by decide)) hr rfl (q_cons (q_var 12) (q_cons (q_var 3) (q_cons (q_var 25) (q_nil)))) (lenS (lenS (lenS len0))))) (q_var 14))))) (q_sone (q_ret (q_bl))) (q_snil)) (q_scons (q_sif (PW.pt (q_wor (q_tnot (q_tru rfl (q_callP rfl (C_is_known_within.mono (by decide)) hr rfl (q_cons (q_callP rfl (C_of_cache.mono (by decide)) hr rfl (q_cons (q_var 2) (q_cons (q_methP0 rfl C_Cache_lines (hr.mono (by decide)) (q_var 9) rfl) (q_nil))) (lenS (lenS len0))) (q_cons (q_var 12) (q_nil))) (lenS (lenS len0))))) (q_wor1 (q_tnot (q_tru rfl (q_callP rfl (C__law_sides.mono (by decide)) hr rfl (q_cons (q_var 2) (q_cons (q_var 12) (q_cons (q_ix (dIx rfl hr.units) (q_var 15) (q_callP rfl (C__law_take.mono (by decide)) hr rfl (q_cons (q_var 1) (q_cons (q_cb (pe_callB (cLen rfl) rfl T.n_len (by decide +kernel) (q_cons (q_var 15) (q_nil)))) (q_nil))) (lenS (lenS len0)))) (q_nil)))) (lenS (lenS (lenS len0))))))))) (q_sone (q_ret (q_bl))) (q_snil)) (q_sone (q_drop (q_bm rfl (pe_bm PySem.F.plainAttrs_list PySem.F.slot_list_append PySem.F.type_list_append mkAppend (q_var 15) (q_cons (q_var 12) (q_nil))))))))))))))))) (q_sone (q_ret (q_bl)))))))))))))))
end
theorem all_mk {l : PySem.W.OpenLaw} {w : World} {K : PySem.W.Frag} {h : Heap} {mg : Str → Option Value} {fa : Addr} (X : K.In h) (G : h.Ns mainGlobals mg) (hfa : mg "law" = some (.ref fa))
    {f_0 : Addr} {od0 an0 : Option Addr} {sl0 : Array (Option Value)} {oc0 kV0 dc0 pm0 cd0 ct0 : Value} {f_1 : Addr} {od1 an1 : Option Addr} {sl1 : Array (Option Value)} {oc1 kV1 dc1 pm1 cd1 ct1 : Value} {f_2 : Addr} {od2 an2 : Option Addr} {sl2 : Array (Option Value)} {oc2 kV2 dc2 pm2 cd2 ct2 : Value} {f_3 : Addr} {od3 an3 : Option Addr} {sl3 : Array (Option Value)} {oc3 kV3 dc3 pm3 cd3 ct3 : Value} {f_4 : Addr} {od4 an4 : Option Addr} {sl4 : Array (Option Value)} {oc4 kV4 dc4 pm4 cd4 ct4 : Value} {f_5 : Addr} {od5 an5 : Option Addr} {sl5 : Array (Option Value)} {oc5 kV5 dc5 pm5 cd5 ct5 : Value} {f_6 : Addr} {od6 an6 : Option Addr} {sl6 : Array (Option Value)} {oc6 kV6 dc6 pm6 cd6 ct6 : Value} {f_7 : Addr} {od7 an7 : Option Addr} {sl7 : Array (Option Value)} {oc7 kV7 dc7 pm7 cd7 ct7 : Value} {f_8 : Addr} {od8 an8 : Option Addr} {sl8 : Array (Option Value)} {oc8 kV8 dc8 pm8 cd8 ct8 : Value} {f_9 : Addr} {od9 an9 : Option Addr} {sl9 : Array (Option Value)} {oc9 kV9 dc9 pm9 cd9 ct9 : Value} {f_10 : Addr} {od10 an10 : Option Addr} {sl10 : Array (Option Value)} {oc10 kV10 dc10 pm10 cd10 ct10 : Value} {f_11 : Addr} {od11 an11 : Option Addr} {sl11 : Array (Option Value)} {oc11 kV11 dc11 pm11 cd11 ct11 : Value} {f_12 : Addr} {od12 an12 : Option Addr} {sl12 : Array (Option Value)} {oc12 kV12 dc12 pm12 cd12 ct12 : Value} {f_13 : Addr} {od13 an13 : Option Addr} {sl13 : Array (Option Value)} {oc13 kV13 dc13 pm13 cd13 ct13 : Value} {f_14 : Addr} {od14 an14 : Option Addr} {sl14 : Array (Option Value)} {oc14 kV14 dc14 pm14 cd14 ct14 : Value} {f_15 : Addr} {od15 an15 : Option Addr} {sl15 : Array (Option Value)} {oc15 kV15 dc15 pm15 cd15 ct15 : Value} {f_16 : Addr} {od16 an16 : Option Addr} {sl16 : Array (Option Value)} {oc16 kV16 dc16 pm16 cd16 ct16 : Value} {f_17 : Addr} {od17 an17 : Option Addr} {sl17 : Array (Option Value)} {oc17 kV17 dc17 pm17 cd17 ct17 : Value} {f_18 : Addr} {od18 an18 : Option Addr} {sl18 : Array (Option Value)} {oc18 kV18 dc18 pm18 cd18 ct18 : Value} {f_19 : Addr} {od19 an19 : Option Addr} {sl19 : Array (Option Value)} {oc19 kV19 dc19 pm19 cd19 ct19 : Value} {f_20 : Addr} {od20 an20 : Option Addr} {sl20 : Array (Option Value)} {oc20 kV20 dc20 pm20 cd20 ct20 : Value} {f_21 : Addr} {od21 an21 : Option Addr} {sl21 : Array (Option Value)} {oc21 kV21 dc21 pm21 cd21 ct21 : Value} {f_22 : Addr} {od22 an22 : Option Addr} {sl22 : Array (Option Value)} {oc22 kV22 dc22 pm22 cd22 ct22 : Value} {f_23 : Addr} {od23 an23 : Option Addr} {sl23 : Array (Option Value)} {oc23 kV23 dc23 pm23 cd23 ct23 : Value} {cls_Cache : Addr}
    (aC_Cache : PySem.W.nsIn K mainGlobals "Cache" = some (some (.ref cls_Cache)))
    (pg_Cache : PySem.W.plainGet K cls_Cache Str.empty = true)
    (hd_Cache : PySem.W.hasDictIn K cls_Cache = true)
    (po_Cache : PySem.W.plainOver K cls_Cache = true)
    (sa_Cache : PySem.W.findIn K (.ref cls_Cache) "__setattr__" = some (some (.builtin "object.__setattr__")))
    (mk_Cache : PySem.W.makesIn K cls_Cache = true)
    (kc_Cache : PySem.W.keepIn K (.ref cls_Cache) = true)
    (nF_Cache_policy : PySem.W.findIn K (.ref cls_Cache) "policy" = some none)
    (nF_Cache_rows : PySem.W.findIn K (.ref cls_Cache) "rows" = some none)
    (nF_Cache_sets : PySem.W.findIn K (.ref cls_Cache) "sets" = some none)
    (nF_Cache_ways : PySem.W.findIn K (.ref cls_Cache) "ways" = some none)
    (a0 : PySem.W.nsIn K mainGlobals "is_known_within" = some (some (.ref f_0)))
    (l0 : K.lookup f_0 = some ⟨oc0, od0, .func (PySem.W.fnOf "is_known_within" "is_known_within" (defArgs s_is_known_within) (defBody s_is_known_within) (defScope s_is_known_within) .none kV0 dc0 pm0 an0 cd0 ct0), sl0⟩)
    (c0 : PySem.W.codeIn K cd0 "is_known_within" = true)
    (k0 : PySem.W.keepIn K (.ref f_0) = true)
    (a1 : PySem.W.nsIn K mainGlobals "of_cache" = some (some (.ref f_1)))
    (l1 : K.lookup f_1 = some ⟨oc1, od1, .func (PySem.W.fnOf "of_cache" "of_cache" (defArgs s_of_cache) (defBody s_of_cache) (defScope s_of_cache) .none kV1 dc1 pm1 an1 cd1 ct1), sl1⟩)
    (c1 : PySem.W.codeIn K cd1 "of_cache" = true)
    (k1 : PySem.W.keepIn K (.ref f_1) = true)
    (a2 : PySem.W.findIn K (.ref cls_Cache) "lines" = some (some (.ref f_2)))
    (i2 : PySem.W.isFn K (.ref f_2) = true)
    (l2 : K.lookup f_2 = some ⟨oc2, od2, .func (PySem.W.fnOf "lines" "Cache.lines" (defArgs s_Cache_lines) (defBody s_Cache_lines) (defScope s_Cache_lines) .none kV2 dc2 pm2 an2 cd2 ct2), sl2⟩)
    (c2 : PySem.W.codeIn K cd2 "Cache.lines" = true)
    (k2 : PySem.W.keepIn K (.ref f_2) = true)
    (a3 : PySem.W.nsIn K mainGlobals "_law_part_of" = some (some (.ref f_3)))
    (l3 : K.lookup f_3 = some ⟨oc3, od3, .func (PySem.W.fnOf "_law_part_of" "_law_part_of" (defArgs s__law_part_of) (defBody s__law_part_of) (defScope s__law_part_of) .none kV3 dc3 pm3 an3 cd3 ct3), sl3⟩)
    (c3 : PySem.W.codeIn K cd3 "_law_part_of" = true)
    (k3 : PySem.W.keepIn K (.ref f_3) = true)
    (a4 : PySem.W.nsIn K mainGlobals "joined_known" = some (some (.ref f_4)))
    (l4 : K.lookup f_4 = some ⟨oc4, od4, .func (PySem.W.fnOf "joined_known" "joined_known" (defArgs s_joined_known) (defBody s_joined_known) (defScope s_joined_known) .none kV4 dc4 pm4 an4 cd4 ct4), sl4⟩)
    (c4 : PySem.W.codeIn K cd4 "joined_known" = true)
    (k4 : PySem.W.keepIn K (.ref f_4) = true)
    (a5 : PySem.W.nsIn K mainGlobals "_law_sides" = some (some (.ref f_5)))
    (l5 : K.lookup f_5 = some ⟨oc5, od5, .func (PySem.W.fnOf "_law_sides" "_law_sides" (defArgs s__law_sides) (defBody s__law_sides) (defScope s__law_sides) .none kV5 dc5 pm5 an5 cd5 ct5), sl5⟩)
    (c5 : PySem.W.codeIn K cd5 "_law_sides" = true)
    (k5 : PySem.W.keepIn K (.ref f_5) = true)
    (a6 : PySem.W.nsIn K mainGlobals "_law_take" = some (some (.ref f_6)))
    (l6 : K.lookup f_6 = some ⟨oc6, od6, .func (PySem.W.fnOf "_law_take" "_law_take" (defArgs s__law_take) (defBody s__law_take) (defScope s__law_take) .none kV6 dc6 pm6 an6 cd6 ct6), sl6⟩)
    (c6 : PySem.W.codeIn K cd6 "_law_take" = true)
    (k6 : PySem.W.keepIn K (.ref f_6) = true)
    (a7 : PySem.W.nsIn K mainGlobals "_law_named" = some (some (.ref f_7)))
    (l7 : K.lookup f_7 = some ⟨oc7, od7, .func (PySem.W.fnOf "_law_named" "_law_named" (defArgs s__law_named) (defBody s__law_named) (defScope s__law_named) .none kV7 dc7 pm7 an7 cd7 ct7), sl7⟩)
    (c7 : PySem.W.codeIn K cd7 "_law_named" = true)
    (k7 : PySem.W.keepIn K (.ref f_7) = true)
    (a8 : PySem.W.nsIn K mainGlobals "aged" = some (some (.ref f_8)))
    (l8 : K.lookup f_8 = some ⟨oc8, od8, .func (PySem.W.fnOf "aged" "aged" (defArgs s_aged) (defBody s_aged) (defScope s_aged) .none kV8 dc8 pm8 an8 cd8 ct8), sl8⟩)
    (c8 : PySem.W.codeIn K cd8 "aged" = true)
    (k8 : PySem.W.keepIn K (.ref f_8) = true)
    (a9 : PySem.W.nsIn K mainGlobals "ways_sure" = some (some (.ref f_9)))
    (l9 : K.lookup f_9 = some ⟨oc9, od9, .func (PySem.W.fnOf "ways_sure" "ways_sure" (defArgs s_ways_sure) (defBody s_ways_sure) (defScope s_ways_sure) .none kV9 dc9 pm9 an9 cd9 ct9), sl9⟩)
    (c9 : PySem.W.codeIn K cd9 "ways_sure" = true)
    (k9 : PySem.W.keepIn K (.ref f_9) = true)
    (a10 : PySem.W.nsIn K mainGlobals "used" = some (some (.ref f_10)))
    (l10 : K.lookup f_10 = some ⟨oc10, od10, .func (PySem.W.fnOf "used" "used" (defArgs s_used) (defBody s_used) (defScope s_used) .none kV10 dc10 pm10 an10 cd10 ct10), sl10⟩)
    (c10 : PySem.W.codeIn K cd10 "used" = true)
    (k10 : PySem.W.keepIn K (.ref f_10) = true)
    (a11 : PySem.W.nsIn K mainGlobals "filled" = some (some (.ref f_11)))
    (l11 : K.lookup f_11 = some ⟨oc11, od11, .func (PySem.W.fnOf "filled" "filled" (defArgs s_filled) (defBody s_filled) (defScope s_filled) .none kV11 dc11 pm11 an11 cd11 ct11), sl11⟩)
    (c11 : PySem.W.codeIn K cd11 "filled" = true)
    (k11 : PySem.W.keepIn K (.ref f_11) = true)
    (a12 : PySem.W.findIn K (.ref cls_Cache) "fill" = some (some (.ref f_12)))
    (i12 : PySem.W.isFn K (.ref f_12) = true)
    (l12 : K.lookup f_12 = some ⟨oc12, od12, .func (PySem.W.fnOf "fill" "Cache.fill" (defArgs s_Cache_fill) (defBody s_Cache_fill) (defScope s_Cache_fill) .none kV12 dc12 pm12 an12 cd12 ct12), sl12⟩)
    (c12 : PySem.W.codeIn K cd12 "Cache.fill" = true)
    (k12 : PySem.W.keepIn K (.ref f_12) = true)
    (a13 : PySem.W.nsIn K mainGlobals "touched" = some (some (.ref f_13)))
    (l13 : K.lookup f_13 = some ⟨oc13, od13, .func (PySem.W.fnOf "touched" "touched" (defArgs s_touched) (defBody s_touched) (defScope s_touched) .none kV13 dc13 pm13 an13 cd13 ct13), sl13⟩)
    (c13 : PySem.W.codeIn K cd13 "touched" = true)
    (k13 : PySem.W.keepIn K (.ref f_13) = true)
    (a14 : PySem.W.nsIn K mainGlobals "missed" = some (some (.ref f_14)))
    (l14 : K.lookup f_14 = some ⟨oc14, od14, .func (PySem.W.fnOf "missed" "missed" (defArgs s_missed) (defBody s_missed) (defScope s_missed) .none kV14 dc14 pm14 an14 cd14 ct14), sl14⟩)
    (c14 : PySem.W.codeIn K cd14 "missed" = true)
    (k14 : PySem.W.keepIn K (.ref f_14) = true)
    (a15 : PySem.W.findIn K (.ref cls_Cache) "has" = some (some (.ref f_15)))
    (i15 : PySem.W.isFn K (.ref f_15) = true)
    (l15 : K.lookup f_15 = some ⟨oc15, od15, .func (PySem.W.fnOf "has" "Cache.has" (defArgs s_Cache_has) (defBody s_Cache_has) (defScope s_Cache_has) .none kV15 dc15 pm15 an15 cd15 ct15), sl15⟩)
    (c15 : PySem.W.codeIn K cd15 "Cache.has" = true)
    (k15 : PySem.W.keepIn K (.ref f_15) = true)
    (a16 : PySem.W.nsIn K mainGlobals "verdicts" = some (some (.ref f_16)))
    (l16 : K.lookup f_16 = some ⟨oc16, od16, .func (PySem.W.fnOf "verdicts" "verdicts" (defArgs s_verdicts) (defBody s_verdicts) (defScope s_verdicts) .none kV16 dc16 pm16 an16 cd16 ct16), sl16⟩)
    (c16 : PySem.W.codeIn K cd16 "verdicts" = true)
    (k16 : PySem.W.keepIn K (.ref f_16) = true)
    (a17 : PySem.W.nsIn K mainGlobals "_law_step" = some (some (.ref f_17)))
    (l17 : K.lookup f_17 = some ⟨oc17, od17, .func (PySem.W.fnOf "_law_step" "_law_step" (defArgs s__law_step) (defBody s__law_step) (defScope s__law_step) .none kV17 dc17 pm17 an17 cd17 ct17), sl17⟩)
    (c17 : PySem.W.codeIn K cd17 "_law_step" = true)
    (k17 : PySem.W.keepIn K (.ref f_17) = true)
    (a18 : PySem.W.nsIn K mainGlobals "anything" = some (some (.ref f_18)))
    (l18 : K.lookup f_18 = some ⟨oc18, od18, .func (PySem.W.fnOf "anything" "anything" (defArgs s_anything) (defBody s_anything) (defScope s_anything) .none kV18 dc18 pm18 an18 cd18 ct18), sl18⟩)
    (c18 : PySem.W.codeIn K cd18 "anything" = true)
    (k18 : PySem.W.keepIn K (.ref f_18) = true)
    (a19 : PySem.W.findIn K (.ref cls_Cache) "__init__" = some (some (.ref f_19)))
    (i19 : PySem.W.isFn K (.ref f_19) = true)
    (l19 : K.lookup f_19 = some ⟨oc19, od19, .func (PySem.W.fnOf "__init__" "Cache.__init__" (defArgs s_Cache___init__) (defBody s_Cache___init__) (defScope s_Cache___init__) .none kV19 dc19 pm19 an19 cd19 ct19), sl19⟩)
    (c19 : PySem.W.codeIn K cd19 "Cache.__init__" = true)
    (k19 : PySem.W.keepIn K (.ref f_19) = true)
    (a20 : PySem.W.nsIn K mainGlobals "is_start" = some (some (.ref f_20)))
    (l20 : K.lookup f_20 = some ⟨oc20, od20, .func (PySem.W.fnOf "is_start" "is_start" (defArgs s_is_start) (defBody s_is_start) (defScope s_is_start) .none kV20 dc20 pm20 an20 cd20 ct20), sl20⟩)
    (c20 : PySem.W.codeIn K cd20 "is_start" = true)
    (k20 : PySem.W.keepIn K (.ref f_20) = true)
    (a21 : PySem.W.nsIn K mainGlobals "_law_lines_of" = some (some (.ref f_21)))
    (l21 : K.lookup f_21 = some ⟨oc21, od21, .func (PySem.W.fnOf "_law_lines_of" "_law_lines_of" (defArgs s__law_lines_of) (defBody s__law_lines_of) (defScope s__law_lines_of) .none kV21 dc21 pm21 an21 cd21 ct21), sl21⟩)
    (c21 : PySem.W.codeIn K cd21 "_law_lines_of" = true)
    (k21 : PySem.W.keepIn K (.ref f_21) = true)
    (a22 : PySem.W.nsIn K mainGlobals "_law_tape" = some (some (.ref f_22)))
    (l22 : K.lookup f_22 = some ⟨oc22, od22, .func (PySem.W.fnOf "_law_tape" "_law_tape" (defArgs s__law_tape) (defBody s__law_tape) (defScope s__law_tape) .none kV22 dc22 pm22 an22 cd22 ct22), sl22⟩)
    (c22 : PySem.W.codeIn K cd22 "_law_tape" = true)
    (k22 : PySem.W.keepIn K (.ref f_22) = true)
    (a23 : PySem.W.nsIn K mainGlobals "law" = some (some (.ref f_23)))
    (l23 : K.lookup f_23 = some ⟨oc23, od23, .func (PySem.W.fnOf "law" "law" (defArgs s_law) (defBody s_law) (defScope s_law) .none kV23 dc23 pm23 an23 cd23 ct23), sl23⟩)
    (c23 : PySem.W.codeIn K cd23 "law" = true)
    (k23 : PySem.W.keepIn K (.ref f_23) = true)
    (z_abs : PySem.W.nsIn K mainGlobals "abs" = some none)
    (z_all : PySem.W.nsIn K mainGlobals "all" = some none)
    (z_any : PySem.W.nsIn K mainGlobals "any" = some none)
    (z_dict : PySem.W.nsIn K mainGlobals "dict" = some none)
    (z_enumerate : PySem.W.nsIn K mainGlobals "enumerate" = some none)
    (z_int : PySem.W.nsIn K mainGlobals "int" = some none)
    (z_len : PySem.W.nsIn K mainGlobals "len" = some none)
    (z_max : PySem.W.nsIn K mainGlobals "max" = some none)
    (z_min : PySem.W.nsIn K mainGlobals "min" = some none)
    (z_range : PySem.W.nsIn K mainGlobals "range" = some none)
    (z_sorted : PySem.W.nsIn K mainGlobals "sorted" = some none)
    (z_tuple : PySem.W.nsIn K mainGlobals "tuple" = some none)
    : ∃ fd : FuncData, (∀ (s : Shared) (v : Value), BindsTo s fd ⟨[v], []⟩ [("script", v)]) ∧ ∀ base : Heap, K.In base → base.Ns mainGlobals mg → FnOk l.prog w K mg base CX0 5 fa fd ["script"] (spF ⟨K, ctK K⟩ 1 f_law) := by
  have e := hfa.symm.trans (PySem.W.mg_of X G a23)
  cases e
  have eC_Cache : ctK K "Cache" = cls_Cache := ctK_of aC_Cache
  have T : Txt ⟨K, ctK K⟩ mg := ⟨PySem.W.mg_none_of X G z_abs, PySem.W.mg_none_of X G z_all, PySem.W.mg_none_of X G z_any, PySem.W.mg_none_of X G z_dict, PySem.W.mg_none_of X G z_enumerate, PySem.W.mg_none_of X G z_int, PySem.W.mg_none_of X G z_len, PySem.W.mg_none_of X G z_max, PySem.W.mg_none_of X G z_min, PySem.W.mg_none_of X G z_range, PySem.W.mg_none_of X G z_sorted, PySem.W.mg_none_of X G z_tuple, (by intro k hk; simp only [List.mem_cons, List.not_mem_nil, or_false] at hk; subst hk; show Cls K (ctK K "Cache"); rw [eC_Cache]; exact ⟨pg_Cache, hd_Cache, po_Cache, sa_Cache⟩), (by intro k hk; simp only [List.mem_cons, List.not_mem_nil, or_false] at hk; subst hk; show NoAttr K (ctK K "Cache") "policy"; rw [eC_Cache]; exact nF_Cache_policy), (by intro k hk; simp only [List.mem_cons, List.not_mem_nil, or_false] at hk; subst hk; show NoAttr K (ctK K "Cache") "rows"; rw [eC_Cache]; exact nF_Cache_rows), (by intro k hk; simp only [List.mem_cons, List.not_mem_nil, or_false] at hk; subst hk; show NoAttr K (ctK K "Cache") "sets"; rw [eC_Cache]; exact nF_Cache_sets), (by intro k hk; simp only [List.mem_cons, List.not_mem_nil, or_false] at hk; subst hk; show NoAttr K (ctK K "Cache") "ways"; rw [eC_Cache]; exact nF_Cache_ways)⟩
  have F0 := fun_mk (st := s_is_known_within) l0 c0 k0
  have B0 := F0.binds (ps := ["one", "two"]) fun _ _ _ _ _ _ us hl => match us, hl with | [_, _], _ => rfl
  have F1 := fun_mk (st := s_of_cache) l1 c1 k1
  have B1 := F1.binds (ps := ["told", "rows"]) fun _ _ _ _ _ _ us hl => match us, hl with | [_, _], _ => rfl
  have F2 := fun_mk (st := s_Cache_lines) l2 c2 k2
  have B2 := F2.binds (ps := ["self"]) fun _ _ _ _ _ _ us hl => match us, hl with | [_], _ => rfl
  have F3 := fun_mk (st := s__law_part_of) l3 c3 k3
  have B3 := F3.binds (ps := ["known", "sets", "at"]) fun _ _ _ _ _ _ us hl => match us, hl with | [_, _, _], _ => rfl
  have F4 := fun_mk (st := s_joined_known) l4 c4 k4
  have B4 := F4.binds (ps := ["one", "two"]) fun _ _ _ _ _ _ us hl => match us, hl with | [_, _], _ => rfl
  have F5 := fun_mk (st := s__law_sides) l5 c5 k5
  have B5 := F5.binds (ps := ["told", "one", "two"]) fun _ _ _ _ _ _ us hl => match us, hl with | [_, _, _], _ => rfl
  have F6 := fun_mk (st := s__law_take) l6 c6 k6
  have B6 := F6.binds (ps := ["tape", "many"]) fun _ _ _ _ _ _ us hl => match us, hl with | [_, _], _ => rfl
  have F7 := fun_mk (st := s__law_named) l7 c7 k7
  have B7 := F7.binds (ps := ["known", "names"]) fun _ _ _ _ _ _ us hl => match us, hl with | [_, _], _ => rfl
  have F8 := fun_mk (st := s_aged) l8 c8 k8
  have B8 := F8.binds (ps := ["told", "may", "line"]) fun _ _ _ _ _ _ us hl => match us, hl with | [_, _, _], _ => rfl
  have F9 := fun_mk (st := s_ways_sure) l9 c9 k9
  have B9 := F9.binds (ps := ["told"]) fun _ _ _ _ _ _ us hl => match us, hl with | [_], _ => rfl
  have F10 := fun_mk (st := s_used) l10 c10 k10
  have B10 := F10.binds (ps := ["told", "known", "line"]) fun _ _ _ _ _ _ us hl => match us, hl with | [_, _, _], _ => rfl
  have F11 := fun_mk (st := s_filled) l11 c11 k11
  have B11 := F11.binds (ps := ["told", "known", "line"]) fun _ _ _ _ _ _ us hl => match us, hl with | [_, _, _], _ => rfl
  have F12 := fun_mk (st := s_Cache_fill) l12 c12 k12
  have B12 := F12.binds (ps := ["self", "line"]) fun _ _ _ _ _ _ us hl => match us, hl with | [_, _], _ => rfl
  have F13 := fun_mk (st := s_touched) l13 c13 k13
  have B13 := F13.binds (ps := ["told", "known", "line"]) fun _ _ _ _ _ _ us hl => match us, hl with | [_, _, _], _ => rfl
  have F14 := fun_mk (st := s_missed) l14 c14 k14
  have B14 := F14.binds (ps := ["known", "line"]) fun _ _ _ _ _ _ us hl => match us, hl with | [_, _], _ => rfl
  have F15 := fun_mk (st := s_Cache_has) l15 c15 k15
  have B15 := F15.binds (ps := ["self", "line"]) fun _ _ _ _ _ _ us hl => match us, hl with | [_, _], _ => rfl
  have F16 := fun_mk (st := s_verdicts) l16 c16 k16
  have B16 := F16.binds (ps := ["known", "line"]) fun _ _ _ _ _ _ us hl => match us, hl with | [_, _], _ => rfl
  have F17 := fun_mk (st := s__law_step) l17 c17 k17
  have B17 := F17.binds (ps := ["told", "cache", "known", "line", "how"]) fun _ _ _ _ _ _ us hl => match us, hl with | [_, _, _, _, _], _ => rfl
  have F18 := fun_mk (st := s_anything) l18 c18 k18
  have B18 := F18.binds (ps := []) fun _ _ _ _ _ _ us hl => match us, hl with | [], _ => rfl
  have F19 := fun_mk (st := s_Cache___init__) l19 c19 k19
  have B19 := F19.binds (ps := ["self", "told", "lines"]) fun _ _ _ _ _ _ us hl => match us, hl with | [_, _, _], _ => rfl
  have F20 := fun_mk (st := s_is_start) l20 c20 k20
  have B20 := F20.binds (ps := ["told", "lines"]) fun _ _ _ _ _ _ us hl => match us, hl with | [_, _], _ => rfl
  have F21 := fun_mk (st := s__law_lines_of) l21 c21 k21
  have B21 := F21.binds (ps := ["tape", "told"]) fun _ _ _ _ _ _ us hl => match us, hl with | [_, _], _ => rfl
  have F22 := fun_mk (st := s__law_tape) l22 c22 k22
  have B22 := F22.binds (ps := ["script"]) fun _ _ _ _ _ _ us hl => match us, hl with | [_], _ => rfl
  have F23 := fun_mk (st := s_law) l23 c23 k23
  refine ⟨PySem.W.fnOf "law" "law" (defArgs s_law) (defBody s_law) (defScope s_law) .none kV23 dc23 pm23 an23 cd23 ct23, fun s v => .of_eq rfl, fun base _ _ => ?_⟩
  have C_is_known_within : Fp ⟨K, ctK K⟩ l.prog w mg base 1 "is_known_within" ["one", "two"] f_is_known_within := ⟨_, _, d_is_known_within (c := ⟨K, ctK K⟩) F0 T , PySem.W.mg_of X G a0, k0, B0⟩
  have C_of_cache : Fp ⟨K, ctK K⟩ l.prog w mg base 1 "of_cache" ["told", "rows"] f_of_cache := ⟨_, _, d_of_cache (c := ⟨K, ctK K⟩) F1 T , PySem.W.mg_of X G a1, k1, B1⟩
  have C_Cache_lines : Mp ⟨K, ctK K⟩ l.prog w mg base 1 "Cache" "lines" ["self"] f_Cache_lines := ⟨_, _, d_Cache_lines (c := ⟨K, ctK K⟩) F2 T , (by show Meth K (ctK K "Cache") "lines" _; rw [eC_Cache]; exact ⟨a2, i2, k2⟩), B2, (by show Cls K (ctK K "Cache"); rw [eC_Cache]; exact ⟨pg_Cache, hd_Cache, po_Cache, sa_Cache⟩)⟩
  have C__law_part_of : Fp ⟨K, ctK K⟩ l.prog w mg base 1 "_law_part_of" ["known", "sets", "at"] f__law_part_of := ⟨_, _, d__law_part_of (c := ⟨K, ctK K⟩) F3 T , PySem.W.mg_of X G a3, k3, B3⟩
  have C_joined_known : Fp ⟨K, ctK K⟩ l.prog w mg base 1 "joined_known" ["one", "two"] f_joined_known := ⟨_, _, d_joined_known (c := ⟨K, ctK K⟩) F4 T , PySem.W.mg_of X G a4, k4, B4⟩
  have C__law_sides : Fp ⟨K, ctK K⟩ l.prog w mg base 2 "_law_sides" ["told", "one", "two"] f__law_sides := ⟨_, _, d__law_sides (c := ⟨K, ctK K⟩) F5 T C__law_part_of C_joined_known C_is_known_within, PySem.W.mg_of X G a5, k5, B5⟩
  have C__law_take : Fp ⟨K, ctK K⟩ l.prog w mg base 1 "_law_take" ["tape", "many"] f__law_take := ⟨_, _, d__law_take (c := ⟨K, ctK K⟩) F6 T , PySem.W.mg_of X G a6, k6, B6⟩
  have C__law_named : Fp ⟨K, ctK K⟩ l.prog w mg base 1 "_law_named" ["known", "names"] f__law_named := ⟨_, _, d__law_named (c := ⟨K, ctK K⟩) F7 T , PySem.W.mg_of X G a7, k7, B7⟩
  have C_aged : Fp ⟨K, ctK K⟩ l.prog w mg base 1 "aged" ["told", "may", "line"] f_aged := ⟨_, _, d_aged (c := ⟨K, ctK K⟩) F8 T , PySem.W.mg_of X G a8, k8, B8⟩
  have C_ways_sure : Fp ⟨K, ctK K⟩ l.prog w mg base 1 "ways_sure" ["told"] f_ways_sure := ⟨_, _, d_ways_sure (c := ⟨K, ctK K⟩) F9 T , PySem.W.mg_of X G a9, k9, B9⟩
  have C_used : Fp ⟨K, ctK K⟩ l.prog w mg base 2 "used" ["told", "known", "line"] f_used := ⟨_, _, d_used (c := ⟨K, ctK K⟩) F10 T C_aged C_ways_sure, PySem.W.mg_of X G a10, k10, B10⟩
  have C_filled : Fp ⟨K, ctK K⟩ l.prog w mg base 3 "filled" ["told", "known", "line"] f_filled := ⟨_, _, d_filled (c := ⟨K, ctK K⟩) F11 T C_used, PySem.W.mg_of X G a11, k11, B11⟩
  have C_Cache_fill : Mp ⟨K, ctK K⟩ l.prog w mg base 1 "Cache" "fill" ["self", "line"] f_Cache_fill := ⟨_, _, d_Cache_fill (c := ⟨K, ctK K⟩) F12 T , (by show Meth K (ctK K "Cache") "fill" _; rw [eC_Cache]; exact ⟨a12, i12, k12⟩), B12, (by show Cls K (ctK K "Cache"); rw [eC_Cache]; exact ⟨pg_Cache, hd_Cache, po_Cache, sa_Cache⟩)⟩
  have C_touched : Fp ⟨K, ctK K⟩ l.prog w mg base 3 "touched" ["told", "known", "line"] f_touched := ⟨_, _, d_touched (c := ⟨K, ctK K⟩) F13 T C_used, PySem.W.mg_of X G a13, k13, B13⟩
  have C_missed : Fp ⟨K, ctK K⟩ l.prog w mg base 1 "missed" ["known", "line"] f_missed := ⟨_, _, d_missed (c := ⟨K, ctK K⟩) F14 T , PySem.W.mg_of X G a14, k14, B14⟩
  have C_Cache_has : Mp ⟨K, ctK K⟩ l.prog w mg base 1 "Cache" "has" ["self", "line"] f_Cache_has := ⟨_, _, d_Cache_has (c := ⟨K, ctK K⟩) F15 T , (by show Meth K (ctK K "Cache") "has" _; rw [eC_Cache]; exact ⟨a15, i15, k15⟩), B15, (by show Cls K (ctK K "Cache"); rw [eC_Cache]; exact ⟨pg_Cache, hd_Cache, po_Cache, sa_Cache⟩)⟩
  have C_verdicts : Fp ⟨K, ctK K⟩ l.prog w mg base 1 "verdicts" ["known", "line"] f_verdicts := ⟨_, _, d_verdicts (c := ⟨K, ctK K⟩) F16 T , PySem.W.mg_of X G a16, k16, B16⟩
  have C__law_step : Fp ⟨K, ctK K⟩ l.prog w mg base 4 "_law_step" ["told", "cache", "known", "line", "how"] f__law_step := ⟨_, _, d__law_step (c := ⟨K, ctK K⟩) F17 T C_filled C_Cache_fill C_touched C_missed C_Cache_has C_verdicts, PySem.W.mg_of X G a17, k17, B17⟩
  have C_anything : Fp ⟨K, ctK K⟩ l.prog w mg base 1 "anything" [] f_anything := ⟨_, _, d_anything (c := ⟨K, ctK K⟩) F18 T , PySem.W.mg_of X G a18, k18, B18⟩
  have C_Cache___init__ : Ip ⟨K, ctK K⟩ l.prog w mg base 1 "Cache" ["self", "told", "lines"] f_Cache___init__ := ⟨_, _, d_Cache___init__ (c := ⟨K, ctK K⟩) F19 T , (by show mg "Cache" = some (.ref (ctK K "Cache")); rw [eC_Cache]; exact PySem.W.mg_of X G aC_Cache), (by show Mk K (ctK K "Cache") _; rw [eC_Cache]; exact ⟨mk_Cache, a19, i19, kc_Cache⟩), B19⟩
  have C_is_start : Fp ⟨K, ctK K⟩ l.prog w mg base 1 "is_start" ["told", "lines"] f_is_start := ⟨_, _, d_is_start (c := ⟨K, ctK K⟩) F20 T , PySem.W.mg_of X G a20, k20, B20⟩
  have C__law_lines_of : Fp ⟨K, ctK K⟩ l.prog w mg base 2 "_law_lines_of" ["tape", "told"] f__law_lines_of := ⟨_, _, d__law_lines_of (c := ⟨K, ctK K⟩) F21 T C__law_take, PySem.W.mg_of X G a21, k21, B21⟩
  have C__law_tape : Fp ⟨K, ctK K⟩ l.prog w mg base 1 "_law_tape" ["script"] f__law_tape := ⟨_, _, d__law_tape (c := ⟨K, ctK K⟩) F22 T , PySem.W.mg_of X G a22, k22, B22⟩
  exact d_law (c := ⟨K, ctK K⟩) F23 T C_is_known_within C_of_cache C_Cache_lines C__law_sides C__law_take C__law_part_of C__law_named C__law_step C_anything C_Cache___init__ C_is_start C__law_lines_of C__law_tape
end K50
/-! M51: the plain law of k51: what is known of lru caches is told by the recency lists. -/
namespace M51
open FL
abbrev P := Int × Int
def prw (w : Nat) (r : List Int) : List P := (r.take w).mapIdx fun i l => (l, (i : Int))
def prs (w : Nat) (rows : List (List Int)) : List P := rows.flatMap (prw w)
/-- what is known exactly of the first w of each row -/
def OR (w : Nat) (rows : List (List Int)) : List P := sortP (prs w rows)
structure Good (s : Nat) (rows : List (List Int)) : Prop where
  len : rows.length = s
  nd : ∀ (i : Nat) (r : List Int), rows[i]? = some r → r.Nodup
  md : ∀ (i : Nat) (r : List Int) (l : Int), rows[i]? = some r → l ∈ r → l % (s : Int) = (i : Int)
def ix (s : Nat) (l : Int) : Nat := (l % (s : Int)).toNat
def row (s : Nat) (rows : List (List Int)) (l : Int) : List Int := rows.getD (ix s l) []
def front (l : Int) (r : List Int) : List Int := l :: r.filter fun x => decide (x ≠ l)
def touch (s : Nat) (l : Int) (rows : List (List Int)) : List (List Int) := rows.set (ix s l) (front l (row s rows l))
theorem ix_lt {s : Nat} (hs : 0 < s) (l : Int) : ix s l < s := by
  unfold ix
  have a := Int.emod_nonneg l (b := (s : Int)) (by omega)
  have b := Int.emod_lt_of_pos l (b := (s : Int)) (by omega)
  omega
theorem ix_eq {s : Nat} (hs : 0 < s) (l : Int) : ((ix s l : Nat) : Int) = l % (s : Int) := by
  unfold ix
  have a := Int.emod_nonneg l (b := (s : Int)) (by omega)
  omega
theorem Good.row {s : Nat} {rows : List (List Int)} (g : Good s rows) (hs : 0 < s) (l : Int) : rows[ix s l]? = some (M51.row s rows l) := by
  unfold M51.row
  rw [List.getD_eq_getElem?_getD, List.getElem?_eq_getElem (by rw [g.len]; exact ix_lt hs l)]
  rfl
theorem front_nodup {l : Int} {r : List Int} (h : r.Nodup) : (front l r).Nodup := by
  unfold front
  rw [List.nodup_cons]
  exact ⟨by simp, h.filter _⟩
theorem Good.touch {s : Nat} {rows : List (List Int)} (g : Good s rows) (hs : 0 < s) (l : Int) : Good s (touch s l rows) := by
  refine ⟨by unfold M51.touch; rw [List.length_set, g.len], fun i r h => ?_, fun i r x h hx => ?_⟩
  · unfold M51.touch at h
    rw [List.getElem?_set] at h
    split at h
    · split at h
      · cases h
        exact front_nodup (g.nd _ _ (g.row hs l))
      · cases h
    · exact g.nd i r h
  · unfold M51.touch at h
    rw [List.getElem?_set] at h
    split at h
    · rename_i e
      split at h
      · cases h
        subst e
        rcases List.mem_cons.mp hx with rfl | hx
        · exact (ix_eq hs _).symm
        · exact g.md _ _ _ (g.row hs l) (List.mem_filter.mp hx).1
      · cases h
    · exact g.md i r x h hx
theorem mem_prw {w : Nat} {r : List Int} {l a : Int} : (l, a) ∈ prw w r ↔ ∃ n : Nat, a = (n : Int) ∧ n < w ∧ r[n]? = some l := by
  unfold prw
  rw [List.mem_iff_getElem?]
  refine ⟨fun ⟨n, h⟩ => ?_, fun ⟨n, e, hn, h⟩ => ⟨n, ?_⟩⟩
  · rw [List.getElem?_mapIdx] at h
    obtain ⟨x, h1, h2⟩ := Option.map_eq_some_iff.mp h
    injection h2 with e1 e2
    subst e1
    rw [List.getElem?_take] at h1
    split at h1
    · exact ⟨n, e2.symm, by assumption, h1⟩
    · cases h1
  · rw [List.getElem?_mapIdx, List.getElem?_take, if_pos hn, h, e]
    rfl
theorem Good.mem {s : Nat} {rows : List (List Int)} (g : Good s rows) (hs : 0 < s) {w : Nat} {l a : Int} : (l, a) ∈ prs w rows ↔ ∃ n : Nat, a = (n : Int) ∧ n < w ∧ (M51.row s rows l)[n]? = some l := by
  unfold prs
  rw [List.mem_flatMap]
  refine ⟨fun ⟨r, hr, h⟩ => ?_, fun h => ⟨_, List.mem_iff_getElem?.mpr ⟨_, g.row hs l⟩, mem_prw.mpr h⟩⟩
  obtain ⟨i, hi⟩ := List.mem_iff_getElem?.mp hr
  obtain ⟨n, e, hn, hl⟩ := mem_prw.mp h
  have ei := g.md i r l hi (List.mem_iff_getElem?.mpr ⟨n, hl⟩)
  have e2 : ix s l = i := by
    unfold ix
    rw [ei]
    rfl
  have e3 := g.row hs l
  rw [e2, hi] at e3
  cases e3
  exact ⟨n, e, hn, hl⟩
theorem prw_keys (w : Nat) (r : List Int) : (prw w r).map (·.1) = r.take w := by
  unfold prw
  apply List.ext_getElem?
  intro i
  rw [List.getElem?_map, List.getElem?_mapIdx]
  cases (r.take w)[i]? <;> rfl
theorem Good.keys {s : Nat} {rows : List (List Int)} (g : Good s rows) (w : Nat) : ((prs w rows).map (·.1)).Nodup := by
  unfold prs
  rw [List.map_flatMap]
  simp only [prw_keys]
  rw [List.Nodup, List.pairwise_flatMap]
  refine ⟨fun r hr => ?_, ?_⟩
  · obtain ⟨i, hi⟩ := List.mem_iff_getElem?.mp hr
    exact (g.nd i r hi).sublist (List.take_sublist _ _)
  · rw [List.pairwise_iff_getElem]
    intro i j hi hj hij x hx y hy e
    subst e
    have a := g.md i _ x (List.getElem?_eq_getElem hi) (List.mem_of_mem_take hx)
    have b := g.md j _ x (List.getElem?_eq_getElem hj) (List.mem_of_mem_take hy)
    omega
theorem nodup_of_keys {l : List P} (h : (l.map (·.1)).Nodup) : l.Nodup := by
  rw [List.Nodup, List.pairwise_map] at h
  exact h.imp fun hne e => hne (by rw [e])
theorem OR_mem {w : Nat} {rows : List (List Int)} {p : P} : p ∈ OR w rows ↔ p ∈ prs w rows := (sortP_perm _).mem_iff
theorem OR_keys {s : Nat} {rows : List (List Int)} (g : Good s rows) (w : Nat) : ((OR w rows).map (·.1)).Nodup := ((sortP_perm (prs w rows)).map _).nodup_iff.mpr (g.keys w)
theorem sort_eq {l m : List P} (hl : l.Nodup) (hm : m.Nodup) (h : ∀ p, p ∈ l ↔ p ∈ m) : sortP l = sortP m :=
  sortedP_uniq (((sortP_perm l).trans ((List.perm_ext_iff_of_nodup hl hm).mpr h)).trans (sortP_perm m).symm) (sortP_sorted _) (sortP_sorted _)
theorem filt_A {l x : Int} (hx : x ≠ l) : ∀ {r : List Int} {n : Nat}, (∀ j, j < n → r[j]? ≠ some l) → r[n]? = some x → (r.filter fun y => decide (y ≠ l))[n]? = some x
  | [], n, _, h => by simp at h
  | y :: t, 0, _, h => by
    have e : y = x := by simpa using h
    subst e
    rw [List.filter_cons, if_pos (by simpa using hx)]
    rfl
  | y :: t, n + 1, a, h => by
    have hy : y ≠ l := fun e => a 0 (Nat.succ_pos n) (by rw [e]; rfl)
    rw [List.filter_cons, if_pos (by simpa using hy)]
    exact filt_A hx (r := t) (n := n) (fun j hj e => a (j + 1) (by omega) (by simpa using e)) (by simpa using h)
theorem filt_B {l x : Int} (hx : x ≠ l) : ∀ {r : List Int} {n j : Nat}, r.Nodup → j < n → r[j]? = some l → r[n]? = some x → (r.filter fun y => decide (y ≠ l))[n - 1]? = some x
  | [], n, j, _, _, h, _ => by simp at h
  | y :: t, n, 0, nd, hj, hl, h => by
    have e : y = l := by simpa using hl
    subst e
    cases n with
    | zero => omega
    | succ m =>
      rw [List.filter_cons, if_neg (by simp)]
      rw [List.nodup_cons] at nd
      exact filt_A hx (fun j _ e => nd.1 (List.mem_iff_getElem?.mpr ⟨j, e⟩)) (by simpa using h)
  | y :: t, n, j + 1, nd, hj, hl, h => by
    cases n with
    | zero => omega
    | succ m =>
      rw [List.nodup_cons] at nd
      have hl' : t[j]? = some l := by simpa using hl
      have hy : y ≠ l := fun e => nd.1 (by rw [e]; exact List.mem_iff_getElem?.mpr ⟨j, hl'⟩)
      rw [List.filter_cons, if_pos (by simpa using hy)]
      have z := filt_B hx (r := t) (n := m) (j := j) nd.2 (by omega) hl' (by simpa using h)
      cases m with
      | zero => omega
      | succ k => simpa using z
def lkP (l : List P) (x : Int) : Option Int := (l.find? fun p => decide (p.1 = x)).map (·.2)
theorem lkP_some {l : List P} (h : (l.map (·.1)).Nodup) {x a : Int} : lkP l x = some a ↔ (x, a) ∈ l := by
  induction l with
  | nil => simp [lkP]
  | cons p l ih =>
    rw [List.map_cons, List.nodup_cons] at h
    unfold lkP
    rw [List.find?_cons]
    by_cases e : p.1 = x
    · rw [decide_eq_true e]
      simp only [Option.map_some, Option.some.injEq, List.mem_cons]
      refine ⟨fun z => .inl (Prod.ext e.symm z.symm), fun z => ?_⟩
      rcases z with z | z
      · rw [← z]
      · exact absurd (List.mem_map.mpr ⟨_, z, e.symm⟩) h.1
    · rw [decide_eq_false e]
      refine Iff.trans (ih h.2) ⟨fun z => List.mem_cons_of_mem _ z, fun z => ?_⟩
      rcases List.mem_cons.mp z with z | z
      · exact absurd (by rw [← z]) e
      · exact z
/-- the age that the line had, or w -/
def bf (w : Nat) (l : Int) (k : List P) : Int := (lkP k l).getD (w : Int)
theorem bf_spec {s : Nat} {rows : List (List Int)} (g : Good s rows) (hs : 0 < s) {w : Nat} {l : Int} {n : Nat} (hn : n < w) : (n : Int) < bf w l (OR w rows) ↔ ∀ j, j ≤ n → (row s rows l)[j]? ≠ some l := by
  unfold bf
  cases e : lkP (OR w rows) l with
  | none =>
    refine ⟨fun _ j hj h => ?_, fun _ => by simpa using hn⟩
    have z : (l, (j : Int)) ∈ OR w rows := OR_mem.mpr ((g.mem hs).mpr ⟨j, rfl, by omega, h⟩)
    rw [(lkP_some (OR_keys g w)).mpr z] at e
    cases e
  | some a =>
    obtain ⟨m, rfl, hm, h⟩ := (g.mem hs).mp (OR_mem.mp ((lkP_some (OR_keys g w)).mp e))
    refine ⟨fun z j hj hl => ?_, fun z => ?_⟩
    · have nd := g.nd _ _ (g.row hs l)
      have : j = m := (List.getElem?_inj (List.getElem?_eq_some_iff.mp hl).1 nd).mp (hl.trans h.symm)
      have z' : (n : Int) < (m : Int) := z
      omega
    · show (n : Int) < (m : Int)
      rcases Nat.lt_or_ge n m with q | q
      · omega
      · exact absurd h (z m q)
def older (s : Nat) (l b : Int) (p : P) : Int := if p.1 % (s : Int) = l % (s : Int) ∧ p.2 < b then p.2 + 1 else p.2
def usedF (s w : Nat) (l b : Int) (p : P) : Option P := if p.1 = l then none else if older s l b p < (w : Int) then some (p.1, older s l b p) else none
/-- the others, aged -/
def usedL (s : Nat) (w : Nat) (l b : Int) (k : List P) : List P := k.filterMap (usedF s w l b)
theorem usedF_some {s w : Nat} {l b : Int} {p q : P} : usedF s w l b p = some q ↔ p.1 ≠ l ∧ q = (p.1, older s l b p) ∧ older s l b p < (w : Int) := by
  unfold usedF
  by_cases e : p.1 = l
  · rw [if_pos e]
    exact ⟨fun h => (nomatch h), fun h => absurd e h.1⟩
  · rw [if_neg e]
    by_cases ho : older s l b p < (w : Int)
    · rw [if_pos ho]
      exact ⟨fun h => ⟨e, (Option.some.inj h).symm, ho⟩, fun h => by rw [h.2.1]⟩
    · rw [if_neg ho]
      exact ⟨fun h => (nomatch h), fun h => absurd h.2.2 ho⟩
theorem mem_usedL {s w : Nat} {l b : Int} {k : List P} {x o : Int} : (x, o) ∈ usedL s w l b k ↔ ∃ a, (x, a) ∈ k ∧ x ≠ l ∧ o = older s l b (x, a) ∧ o < (w : Int) := by
  unfold usedL
  rw [List.mem_filterMap]
  refine ⟨fun ⟨p, hp, h⟩ => ?_, fun ⟨a, ha, hx, e, ho⟩ => ⟨(x, a), ha, usedF_some.mpr ⟨hx, by rw [e], by rw [← e]; exact ho⟩⟩⟩
  obtain ⟨h1, h2, h3⟩ := usedF_some.mp h
  injection h2 with h4 h5
  subst h4
  exact ⟨p.2, hp, h1, h5, by rw [h5]; exact h3⟩
theorem usedL_keys {s w : Nat} {l b : Int} : ∀ {k : List P}, (k.map (·.1)).Nodup → ((usedL s w l b k).map (·.1)).Nodup ∧ ∀ x ∈ (usedL s w l b k).map (·.1), x ∈ k.map (·.1) ∧ x ≠ l := by
  intro k h
  have sub : ∀ x ∈ (usedL s w l b k).map (·.1), x ∈ k.map (·.1) ∧ x ≠ l := fun x hx => by
    obtain ⟨⟨y, o⟩, hp, rfl⟩ := List.mem_map.mp hx
    obtain ⟨a, ha, hy, _⟩ := mem_usedL.mp hp
    exact ⟨List.mem_map.mpr ⟨_, ha, rfl⟩, hy⟩
  refine ⟨?_, sub⟩
  clear sub
  induction k with
  | nil => exact List.Pairwise.nil
  | cons p k ih =>
    rw [List.map_cons, List.nodup_cons] at h
    have rest := ih h.2
    have out : p.1 ∉ (usedL s w l b k).map (·.1) := fun hm => by
      obtain ⟨⟨y, o⟩, hp, e⟩ := List.mem_map.mp hm
      obtain ⟨a, ha, _⟩ := mem_usedL.mp hp
      exact h.1 (by rw [← e]; exact List.mem_map.mpr ⟨_, ha, rfl⟩)
    unfold usedL
    rw [List.filterMap_cons]
    split
    · exact rest
    · rename_i q hq
      have e : q.1 = p.1 := by rw [(usedF_some.mp hq).2.1]
      rw [List.map_cons, List.nodup_cons, e]
      exact ⟨out, rest⟩
theorem ix_same {s : Nat} (hs : 0 < s) {x l : Int} : x % (s : Int) = l % (s : Int) ↔ ix s x = ix s l := by
  rw [← ix_eq hs x, ← ix_eq hs l]
  omega
theorem touch_row {s : Nat} {rows : List (List Int)} (g : Good s rows) (hs : 0 < s) (l x : Int) : row s (touch s l rows) x = if ix s x = ix s l then front l (row s rows l) else row s rows x := by
  unfold touch
  split
  · rename_i e
    unfold row
    rw [e, List.getD_eq_getElem?_getD, List.getElem?_set_self (by rw [g.len]; exact ix_lt hs l)]
    rfl
  · rename_i e
    show (rows.set _ _).getD (ix s x) [] = rows.getD (ix s x) []
    rw [List.getD_eq_getElem?_getD, List.getElem?_set_ne (fun z => e z.symm), List.getD_eq_getElem?_getD]
/-- where a line comes to stand -/
theorem front_get {l x : Int} {r : List Int} (nd : r.Nodup) (hx : x ≠ l) {n : Nat} (h : r[n]? = some x) : (front l r)[if ∀ j, j ≤ n → r[j]? ≠ some l then n + 1 else n]? = some x := by
  split
  · rename_i a
    exact filt_A hx (fun j hj => a j (by omega)) h
  · rename_i a
    have ⟨j, hj, hl⟩ : ∃ j, j ≤ n ∧ r[j]? = some l := by
      apply Classical.byContradiction
      intro z
      exact a fun j hj e => z ⟨j, hj, e⟩
    have hne : j ≠ n := fun e => hx (by rw [e, h] at hl; exact Option.some.inj hl)
    have hlt : j < n := by omega
    have z := filt_B hx nd hlt hl h
    cases n with
    | zero => omega
    | succ m => exact z
theorem used_OR {s : Nat} {rows : List (List Int)} (g : Good s rows) (hs : 0 < s) {w : Nat} (hw : 0 < w) (l : Int) : sortP ((l, 0) :: usedL s w l (bf w l (OR w rows)) (OR w rows)) = OR w (touch s l rows) := by
  have uk := usedL_keys (s := s) (w := w) (l := l) (b := bf w l (OR w rows)) (OR_keys g w)
  refine sort_eq (nodup_of_keys ?_) (nodup_of_keys ((g.touch hs l).keys w)) fun ⟨x, o⟩ => ?_
  · rw [List.map_cons, List.nodup_cons]
    exact ⟨fun h => (uk.2 _ h).2 rfl, uk.1⟩
  · rw [(g.touch hs l).mem hs, touch_row g hs]
    have old : ∀ n : Nat, n < w → x ≠ l → (row s rows x)[n]? = some x → ∃ m : Nat, older s l (bf w l (OR w rows)) (x, (n : Int)) = (m : Int) ∧ (if ix s x = ix s l then front l (row s rows l) else row s rows x)[m]? = some x := by
      intro n hn hx h
      by_cases e : ix s x = ix s l
      · have er : row s rows x = row s rows l := by
          unfold row
          rw [e]
        rw [er] at h
        refine ⟨_, ?_, by rw [if_pos e]; exact front_get (g.nd _ _ (g.row hs l)) hx h⟩
        unfold older
        by_cases hb : ∀ j, j ≤ n → (row s rows l)[j]? ≠ some l
        · rw [if_pos ⟨(ix_same hs).mpr e, (bf_spec g hs hn).mpr hb⟩, if_pos hb]
          rfl
        · rw [if_neg fun z => hb ((bf_spec g hs hn).mp z.2), if_neg hb]
      · refine ⟨n, ?_, by rw [if_neg e]; exact h⟩
        unfold older
        rw [if_neg fun z => e ((ix_same hs).mp z.1)]
    constructor
    · intro h
      rcases List.mem_cons.mp h with h | h
      · cases h
        exact ⟨0, rfl, hw, by rw [if_pos rfl]; rfl⟩
      · obtain ⟨a, ha, hx, e, ho⟩ := mem_usedL.mp h
        obtain ⟨n, rfl, hn, hr⟩ := (g.mem hs).mp (OR_mem.mp ha)
        obtain ⟨m, e2, h2⟩ := old n hn hx hr
        rw [e2] at e
        exact ⟨m, e, by omega, h2⟩
    · rintro ⟨m, rfl, hm, h⟩
      by_cases hx : x = l
      · subst hx
        rw [if_pos rfl] at h
        have nd := front_nodup (l := x) (g.nd _ _ (g.row hs x))
        have : m = 0 := (List.getElem?_inj (List.getElem?_eq_some_iff.mp h).1 nd).mp (h.trans rfl)
        subst this
        exact List.mem_cons_self
      · refine List.mem_cons_of_mem _ (mem_usedL.mpr ?_)
        have nd2 : (if ix s x = ix s l then front l (row s rows l) else row s rows x).Nodup := by
          split
          · exact front_nodup (g.nd _ _ (g.row hs l))
          · exact g.nd _ _ (g.row hs x)
        have ⟨n, hr⟩ : ∃ n : Nat, (row s rows x)[n]? = some x := by
          by_cases e : ix s x = ix s l
          · have er : row s rows x = row s rows l := by
              unfold row
              rw [e]
            rw [if_pos e] at h
            rcases List.mem_cons.mp (List.mem_iff_getElem?.mpr ⟨m, h⟩) with z | z
            · exact absurd z hx
            · rw [er]
              exact List.mem_iff_getElem?.mp (List.mem_filter.mp z).1
          · rw [if_neg e] at h
            exact ⟨m, h⟩
        have hn : n ≤ m := by
          by_cases e : ix s x = ix s l
          · have er : row s rows x = row s rows l := by
              unfold row
              rw [e]
            rw [er] at hr
            have z := front_get (g.nd _ _ (g.row hs l)) hx hr
            rw [if_pos e] at h nd2
            have q := (List.getElem?_inj (List.getElem?_eq_some_iff.mp h).1 nd2).mp (h.trans z.symm)
            rw [q]
            split <;> omega
          · rw [if_neg e] at h nd2
            exact Nat.le_of_eq ((List.getElem?_inj (List.getElem?_eq_some_iff.mp hr).1 nd2).mp (hr.trans h.symm))
        obtain ⟨m', e2, h2⟩ := old n (by omega) hx hr
        have q : m = m' := (List.getElem?_inj (List.getElem?_eq_some_iff.mp h).1 nd2).mp (h.trans h2.symm)
        subst q
        exact ⟨(n : Int), OR_mem.mpr ((g.mem hs).mpr ⟨n, rfl, by omega, hr⟩), hx, e2.symm, by omega⟩
theorem OR_nodup {s : Nat} {rows : List (List Int)} (g : Good s rows) (w : Nat) : (OR w rows).Nodup := nodup_of_keys (OR_keys g w)
theorem cut_OR {s : Nat} {rows : List (List Int)} (g : Good s rows) (hs : 0 < s) {w v : Nat} (h : w ≤ v) : ((OR v rows).filter fun p => decide (p.2 < (w : Int))) = OR w rows := by
  refine sortedP_uniq ((List.perm_ext_iff_of_nodup ((OR_nodup g v).filter _) (OR_nodup g w)).mpr fun ⟨x, a⟩ => ?_) ((sortP_sorted _).filter _) (sortP_sorted _)
  rw [List.mem_filter, OR_mem, OR_mem, g.mem hs, g.mem hs]
  refine ⟨fun ⟨⟨n, e, _, h2⟩, h3⟩ => ⟨n, e, ?_, h2⟩, fun ⟨n, e, h1, h2⟩ => ⟨⟨n, e, by omega, h2⟩, ?_⟩⟩
  · have z : a < (w : Int) := of_decide_eq_true h3
    omega
  · exact decide_eq_true (show a < (w : Int) by omega)
theorem has_OR {s : Nat} {rows : List (List Int)} (g : Good s rows) (hs : 0 < s) {w : Nat} {l : Int} : (∃ p ∈ OR w rows, p.1 = l) ↔ l ∈ (row s rows l).take w := by
  rw [List.mem_iff_getElem?]
  refine ⟨fun ⟨⟨x, a⟩, hp, e⟩ => ?_, fun ⟨n, h⟩ => ?_⟩
  · have e' : x = l := e
    subst e'
    obtain ⟨n, _, h1, h2⟩ := (g.mem hs).mp (OR_mem.mp hp)
    exact ⟨n, by rw [List.getElem?_take, if_pos h1]; exact h2⟩
  · rw [List.getElem?_take] at h
    split at h
    · exact ⟨(l, (n : Int)), OR_mem.mpr ((g.mem hs).mpr ⟨n, rfl, by assumption, h⟩), rfl⟩
    · cases h
theorem miss_OR {s : Nat} {rows : List (List Int)} (g : Good s rows) (hs : 0 < s) {w : Nat} {l : Int} (h : l ∉ (row s rows l).take w) : ((OR w rows).filter fun p => decide (p.1 ≠ l)) = OR w rows := by
  rw [List.filter_eq_self]
  intro p hp
  exact decide_eq_true fun e => h ((has_OR g hs).mp ⟨p, hp, e⟩)
def olderA (s : Nat) (l b : Int) (p : P) : Int := if p.1 % (s : Int) = l % (s : Int) ∧ p.2 ≤ b then p.2 + 1 else p.2
def agedF (s w : Nat) (l b : Int) (p : P) : Option P := if p.1 = l then none else if olderA s l b p < (w : Int) then some (p.1, olderA s l b p) else none
theorem fmap_congr {α β : Type} {f h : α → Option β} : ∀ {l : List α}, (∀ x ∈ l, f x = h x) → l.filterMap f = l.filterMap h
  | [], _ => rfl
  | x :: l, e => by
    rw [List.filterMap_cons, List.filterMap_cons, e x List.mem_cons_self, fmap_congr fun y hy => e y (List.mem_cons_of_mem _ hy)]
theorem aged_OR {s : Nat} {rows : List (List Int)} (g : Good s rows) (hs : 0 < s) {w : Nat} {l : Int} : (OR w rows).filterMap (agedF s w l (bf w l (OR w rows))) = usedL s w l (bf w l (OR w rows)) (OR w rows) := by
  unfold usedL
  refine fmap_congr ?_
  rintro ⟨x, a⟩ hp
  unfold agedF usedF
  by_cases e : x = l
  · rw [if_pos e, if_pos e]
  · rw [if_neg e, if_neg e]
    have same : olderA s l (bf w l (OR w rows)) (x, a) = older s l (bf w l (OR w rows)) (x, a) := by
      unfold olderA older
      by_cases em : x % (s : Int) = l % (s : Int)
      · have hne : a ≠ bf w l (OR w rows) := by
          intro z
          obtain ⟨n, rfl, hn, hx⟩ := (g.mem hs).mp (OR_mem.mp hp)
          unfold bf at z
          cases eb : lkP (OR w rows) l with
          | none =>
            rw [eb] at z
            have z' : (n : Int) = (w : Int) := z
            omega
          | some m =>
            rw [eb] at z
            have z' : (n : Int) = m := z
            subst z'
            obtain ⟨k, ek, _, hk⟩ := (g.mem hs).mp (OR_mem.mp ((lkP_some (OR_keys g w)).mp eb))
            have ek' : n = k := by omega
            subst ek'
            have er : row s rows x = row s rows l := by
              unfold row
              rw [(ix_same hs).mp em]
            rw [er, hk] at hx
            exact e (Option.some.inj hx).symm
        by_cases q : a < bf w l (OR w rows)
        · rw [if_pos ⟨em, by show a ≤ _; omega⟩, if_pos ⟨em, q⟩]
        · rw [if_neg (fun z => q (by have z2 : a ≤ bf w l (OR w rows) := z.2; omega)), if_neg fun z => q z.2]
      · rw [if_neg fun z => em z.1, if_neg fun z => em z.1]
    rw [same]
/-! the rows of a cache -/
theorem filter_out {l : Int} {r : List Int} (h : l ∉ r) : (r.filter fun x => decide (x ≠ l)) = r := List.filter_eq_self.mpr fun x hx => decide_eq_true fun z => h (by rw [← z]; exact hx)
theorem filter_len {l : Int} : ∀ {r : List Int}, r.Nodup → l ∈ r → (r.filter fun x => decide (x ≠ l)).length + 1 = r.length
  | [], _, h => by cases h
  | y :: t, nd, h => by
    rw [List.nodup_cons] at nd
    by_cases e : y = l
    · subst e
      rw [List.filter_cons, if_neg (by simp), List.length_cons, filter_out nd.1]
    · rw [List.filter_cons, if_pos (by simpa using e), List.length_cons, List.length_cons, filter_len nd.2 ((List.mem_cons.mp h).resolve_left fun z => e z.symm)]
theorem has_row {l : Int} {r : List Int} (nd : r.Nodup) {w : Nat} (h : l ∈ r.take w) : l :: ((r.take w).filter fun x => decide (x ≠ l)) = (front l r).take w := by
  cases w with
  | zero => simp at h
  | succ v =>
    unfold front
    rw [List.take_succ_cons]
    congr 1
    have nd' := nd
    rw [← List.take_append_drop (v + 1) r, List.nodup_append] at nd'
    have out : l ∉ r.drop (v + 1) := fun z => nd'.2.2 l h l z rfl
    have e : (r.filter fun x => decide (x ≠ l)) = ((r.take (v + 1)).filter fun x => decide (x ≠ l)) ++ r.drop (v + 1) := by
      conv => lhs; rw [← List.take_append_drop (v + 1) r]
      rw [List.filter_append, filter_out out]
    have len := filter_len (nd.sublist (List.take_sublist _ _)) h
    rw [e]
    rw [List.length_take] at len
    rcases Nat.le_total (v + 1) r.length with q | q
    · rw [List.take_append_of_le_length (by omega)]
      exact (List.take_of_length_le (by omega)).symm
    · rw [List.drop_of_length_le q, List.append_nil]
      exact (List.take_of_length_le (by omega)).symm
theorem fill_row {l : Int} {r : List Int} {w : Nat} (h : l ∉ r.take w) : (l :: ((r.take w).filter fun x => decide (x ≠ l))).take w = (front l r).take w := by
  rw [filter_out h]
  cases w with
  | zero => rfl
  | succ v =>
    unfold front
    rw [List.take_succ_cons, List.take_succ_cons]
    congr 1
    have e : (r.filter fun x => decide (x ≠ l)) = r.take (v + 1) ++ ((r.drop (v + 1)).filter fun x => decide (x ≠ l)) := by
      conv => lhs; rw [← List.take_append_drop (v + 1) r]
      rw [List.filter_append, filter_out h]
    rw [e]
    rcases Nat.le_total (v + 1) r.length with q | q
    · rw [List.take_append_of_le_length (by rw [List.length_take]; omega)]
    · rw [List.drop_of_length_le q, List.filter_nil, List.append_nil]
theorem front_pre {l : Int} {t r : List Int} (h : t <+: r) : front l t <+: front l r := by
  obtain ⟨u, rfl⟩ := h
  exact ⟨u.filter fun x => decide (x ≠ l), by unfold front; rw [List.filter_append]; rfl⟩
end M51
/-! K50b: what is known, one line later. -/
namespace K50
open PySem L2 FL M51
/-- the policy by a Bool -/
def pol (b : Bool) : Str := if b = true then "lru" else "fifo"
abbrev tD (s w : Nat) (u : Bool) : D := .tup [.int s, .int w, .str (pol u)]
def sur (w : Nat) (u : Bool) : Nat := if u = true then w else 1
abbrev kD (k : List P) : D := .tup (k.map pD)
section
variable {S : Sto} {Q : D → Sto → Prop}
theorem w_lru {u : Bool} : W (oEq (.str (pol u)) (.str "lru") S) Q ↔ Q (.bl u) S := by
  cases u with
  | true =>
    show W (oEq (.str "lru") (.str "lru") S) Q ↔ _
    rw [w_eqStr (by decide +kernel) (by decide +kernel)]
    rfl
  | false =>
    show W (oEq (.str "fifo") (.str "lru") S) Q ↔ _
    rw [w_eqStr (by decide +kernel) (by decide +kernel)]
    rfl
theorem ways_sure_ok {s w : Nat} {u : Bool} : W (f_ways_sure [tD s w u] S) Q ↔ Q (.int (sur w u)) S := by
  have go : ∀ Q : D → Sto → Prop, Q (.int (sur w u)) S → W (f_ways_sure [tD s w u] S) Q := fun Q h => by
    refine w_fn rfl ?_
    show W (b_ways_sure [some (tD s w u)] S) _
    unfold b_ways_sure
    simp only [w_seq, w_asg, w_ret, w_retN, w_drop, w_brk, w_cnt, w_nil, w_sif, w_c, w_ev, w_bin, w_un, w_anil, w_acons, w_tup, w_lst, w_call, w_tB, w_tNot, w_tAnd, w_tOr, w_eIf, w_isN, w_notN, w_gnm, w_gnils, w_gcns, w_gtp2, w_gtp3, w_gtp2p, w_ixT0, w_ixT1, w_ixT2, w_ch, w_chL, w_chK, w_par2, w_par3, w_add, w_sub, w_neg, w_lt, w_le, w_gt, w_ge, w_abs, w_int, w_intb, w_max2, w_min2, w_pno, w_ppart, w_sl, w_bm, w_yes, w_eqI, w_neI, w_eqB, w_neB, QS_nx, QS_rt, QS_bk, QS_ct, QF_nx, QF_rt, QL_nx, QL_ct, QL_bk, QL_rt, wipeE, List.set_cons_succ, List.set_cons_zero, List.getElem?_cons_succ, List.getElem?_cons_zero, D.bl.injEq, D.int.injEq, exists_eq_left', exists_eq_left, w_eAnd, w_tTru, tru_bl, if_true, if_false, Bool.false_eq_true, w_lru]
    cases u with
    | true => exact h
    | false => exact h
  refine ⟨fun h => ?_, go Q⟩
  obtain ⟨x, S1, e, q⟩ := h
  obtain ⟨x', S1', e', q1, q2⟩ := go (fun d S2 => d = .int (sur w u) ∧ S2 = S) ⟨rfl, rfl⟩
  rw [e] at e'
  cases e'
  subst q1
  subst q2
  exact q
def olG (u : Bool) (s : Nat) (l b : Int) (p : P) : Int := if u = true ∧ p.1 % (s : Int) = l % (s : Int) ∧ p.2 ≤ b then p.2 + 1 else p.2
def agG (u : Bool) (s w : Nat) (l b : Int) (p : P) : Option P := if p.1 = l then none else if olG u s l b p < (w : Int) then some (p.1, olG u s l b p) else none
theorem agedF_key {u : Bool} {s w : Nat} {l b : Int} : ∀ p q, agG u s w l b p = some q → q.1 = p.1 := fun p q h => by
  unfold agG at h
  split at h
  · cases h
  · split at h
    · cases h
      rfl
    · cases h
theorem agedF_ne {u : Bool} {s w : Nat} {l b : Int} : ∀ p q, agG u s w l b p = some q → p.1 ≠ l := fun p q h => by
  unfold agG at h
  split at h
  · cases h
  · assumption
theorem key_new {F : P → Option P} (hF : ∀ p q, F p = some q → q.1 = p.1) {l : Int} {k : List P} (nd : (k.map (·.1)).Nodup) {i : Nat} {p : P} (h : k[i]? = some p) (hp : p.1 ≠ l) : p.1 ∉ ((l, (0 : Int)) :: (k.take i).filterMap F).map (·.1) := by
  rw [List.map_cons, List.mem_cons]
  rintro (z | z)
  · exact hp z
  · exact fm_key hF nd h z
theorem fm_len {F : P → Option P} {k : List P} {i : Nat} : ((k.take i).filterMap F).length ≤ k.length := Nat.le_trans (List.length_filterMap_le _ _) (by rw [List.length_take]; omega)
theorem aged_ok {u : Bool} {s w : Nat} {l : Int} {k : List P} (hs : 0 < s) (hw : w ≤ 100) (nd : (k.map (·.1)).Nodup) (hz : k.length ≤ 1000) (hb : ∀ p ∈ k, 0 ≤ p.2 ∧ p.2 ≤ 1000) :
    W (f_aged [tD s w u, kD k, .int l] S) fun d S' => d = kD (sortP ((l, 0) :: k.filterMap (agG u s w l (bf w l k)))) ∧ Ap S S' := by
  have hs' : 0 < (s : Int) := by omega
  refine w_fn rfl ?_
  show W (b_aged [some (tD s w u), some (kD k), some (.int l), none, none, none, none, none, none] S) _
  unfold b_aged
  simp only [w_seq, w_asg]
  refine w_get2 ?_
  simp only [w_seq, w_asg, w_ret, w_retN, w_drop, w_brk, w_cnt, w_nil, w_sif, w_c, w_ev, w_bin, w_un, w_anil, w_acons, w_tup, w_lst, w_call, w_tB, w_tNot, w_tAnd, w_tOr, w_eIf, w_isN, w_notN, w_gnm, w_gnils, w_gcns, w_gtp2, w_gtp3, w_gtp2p, w_ixT0, w_ixT1, w_ixT2, w_ch, w_chL, w_chK, w_par2, w_par3, w_add, w_sub, w_neg, w_lt, w_le, w_gt, w_ge, w_abs, w_int, w_intb, w_max2, w_min2, w_pno, w_ppart, w_sl, w_bm, w_yes, w_eqI, w_neI, w_eqB, w_neB, QS_nx, QS_rt, QS_bk, QS_ct, QF_nx, QF_rt, QL_nx, QL_ct, QL_bk, QL_rt, wipeE, List.set_cons_succ, List.set_cons_zero, List.getElem?_cons_succ, List.getElem?_cons_zero, D.bl.injEq, D.int.injEq, exists_eq_left', exists_eq_left, w_eAnd, w_tTru, tru_bl, if_true, if_false, Bool.false_eq_true, w_dictT nd, W_some]
  refine ⟨_, _, rfl, List.getElem?_concat_length, k, List.getElem?_concat_length, fun d hd => ?_⟩
  have ed : d = .int (bf w l k) := by
    rw [hd]
    unfold bf lkP
    cases (k.find? fun p => decide (p.1 = l)).map (·.2) <;> rfl
  subst ed
  clear hd
  refine w_dic ?_
  simp only [aPairs, w_seq, w_asg, w_ret, w_retN, w_drop, w_brk, w_cnt, w_nil, w_sif, w_c, w_ev, w_bin, w_un, w_anil, w_acons, w_tup, w_lst, w_call, w_tB, w_tNot, w_tAnd, w_tOr, w_eIf, w_isN, w_notN, w_gnm, w_gnils, w_gcns, w_gtp2, w_gtp3, w_gtp2p, w_ixT0, w_ixT1, w_ixT2, w_ch, w_chL, w_chK, w_par2, w_par3, w_add, w_sub, w_neg, w_lt, w_le, w_gt, w_ge, w_abs, w_int, w_intb, w_max2, w_min2, w_pno, w_ppart, w_sl, w_bm, w_yes, w_eqI, w_neI, w_eqB, w_neB, QS_nx, QS_rt, QS_bk, QS_ct, QF_nx, QF_rt, QL_nx, QL_ct, QL_bk, QL_rt, wipeE, List.set_cons_succ, List.set_cons_zero, List.getElem?_cons_succ, List.getElem?_cons_zero, D.bl.injEq, D.int.injEq, exists_eq_left', exists_eq_left, w_eAnd, w_tTru, tru_bl, if_true, if_false, Bool.false_eq_true]
  have merge1 : mergeG [] [((.inl l : Key), D.int 0)] = [(l, (0 : Int))].map kvI := rfl
  refine ⟨new_at _ _, _, rfl, (by show 1 ≤ 15; decide), ?_⟩
  generalize eb : bf w l k = b
  have ap : Ap S (((S ++ [O.dic (k.map kvI)]) ++ [O.dic []]).set (S ++ [O.dic (k.map kvI)]).length (.dic (mergeG [] [((.inl l : Key), D.int 0)]))) := (Ap.trans (Ap.app S _) (Ap.app _ _)).set (by rw [List.length_append]; omega)
  have g0 := set_at (o' := O.dic (mergeG [] [((.inl l : Key), D.int 0)])) (new_at (S ++ [O.dic (k.map kvI)]) (O.dic []))
  rw [merge1] at ap g0 ⊢
  have hn : S.length ≤ (S ++ [O.dic (k.map kvI)]).length := by rw [List.length_append]; omega
  revert ap g0 hn
  generalize (S ++ [O.dic (k.map kvI)]).length = n
  generalize ((S ++ [O.dic (k.map kvI)]) ++ [O.dic []]).set n (O.dic ([(l, (0 : Int))].map kvI)) = S2
  intro ap g0 hn
  refine w_for.mpr (w_iseqT ?_)
  simp only [w_seq, w_asg, w_ret, w_retN, w_drop, w_brk, w_cnt, w_nil, w_sif, w_c, w_ev, w_bin, w_un, w_anil, w_acons, w_tup, w_lst, w_call, w_tB, w_tNot, w_tAnd, w_tOr, w_eIf, w_isN, w_notN, w_gnm, w_gnils, w_gcns, w_gtp2, w_gtp3, w_gtp2p, w_ixT0, w_ixT1, w_ixT2, w_ch, w_chL, w_chK, w_par2, w_par3, w_add, w_sub, w_neg, w_lt, w_le, w_gt, w_ge, w_abs, w_int, w_intb, w_max2, w_min2, w_pno, w_ppart, w_sl, w_bm, w_yes, w_eqI, w_neI, w_eqB, w_neB, QS_nx, QS_rt, QS_bk, QS_ct, QF_nx, QF_rt, QL_nx, QL_ct, QL_bk, QL_rt, wipeE, List.set_cons_succ, List.set_cons_zero, List.getElem?_cons_succ, List.getElem?_cons_zero, D.bl.injEq, D.int.injEq, exists_eq_left', exists_eq_left, w_eAnd, w_tTru, tru_bl, if_true, if_false, Bool.false_eq_true]
  refine ⟨_, rfl, ?_⟩
  refine for_fix (fun i env S' => ∃ x y z v, env = [some (tD s w u), some (kD k), some (.int l), some (.int b), some (.ref n), x, y, z, v] ∧ Ap S S' ∧ S'[n]? = some (.dic (((l, 0) :: (k.take i).filterMap (agG u s w l b)).map kvI))) ?_ ?_ ⟨_, _, _, _, rfl, ap, g0⟩
  · rintro i d env S' hd ⟨x, y, z, v, rfl, a, g⟩
    rw [List.getElem?_map] at hd
    obtain ⟨⟨p, q⟩, hp, rfl⟩ := Option.map_eq_some_iff.mp hd
    have hm := hb _ (List.mem_iff_getElem?.mpr ⟨i, hp⟩)
    have su := fm_succ (agG u s w l b) hp
    rw [su]
    have skip : agG u s w l b (p, q) = none → ∀ x y z v : Option D, ∃ x1 y1 z1 v1, [some (tD s w u), some (kD k), some (D.int l), some (D.int b), some (D.ref n), x, y, z, v] = [some (tD s w u), some (kD k), some (D.int l), some (D.int b), some (D.ref n), x1, y1, z1, v1] ∧ Ap S S' ∧ S'[n]? = some (.dic (((l, 0) :: ((k.take i).filterMap (agG u s w l b) ++ (agG u s w l b (p, q)).toList)).map kvI)) := fun e x y z v =>
      ⟨x, y, z, v, rfl, a, by rw [e]; simpa using g⟩
    have put : ∀ o : Int, agG u s w l b (p, q) = some (p, o) → ∀ y z v : Option D, W (gIx (eVar 4) (eVar 5) (D.int o) [some (tD s w u), some (kD k), some (D.int l), some (D.int b), some (D.ref n), some (D.int p), y, z, v] S') fun env S' => ∃ x1 y1 z1 v1, env = [some (tD s w u), some (kD k), some (D.int l), some (D.int b), some (D.ref n), x1, y1, z1, v1] ∧ Ap S S' ∧ S'[n]? = some (.dic (((l, 0) :: ((k.take i).filterMap (agG u s w l b) ++ (agG u s w l b (p, q)).toList)).map kvI)) := fun o e y z v => by
      have hk := key_new (agedF_key (u := u) (s := s) (w := w) (l := l) (b := b)) (l := l) nd hp (agedF_ne _ _ e)
      have hl : ((l, (0 : Int)) :: (k.take i).filterMap (agG u s w l b)).length < cap := by
        rw [List.length_cons]
        have := fm_len (F := agG u s w l b) (k := k) (i := i)
        unfold cap
        omega
      refine (w_setI rfl rfl g hl hk).mpr ⟨_, _, _, _, rfl, a.set hn, ?_⟩
      rw [set_at g, e]
      rfl
    have af : agG u s w l b (p, q) = if p = l then none else if (if u = true ∧ p % (s : Int) = l % (s : Int) ∧ q ≤ b then q + 1 else q) < (w : Int) then some (p, (if u = true ∧ p % (s : Int) = l % (s : Int) ∧ q ≤ b then q + 1 else q)) else none := rfl
    simp only [w_seq, w_asg, w_ret, w_retN, w_drop, w_brk, w_cnt, w_nil, w_sif, w_c, w_ev, w_bin, w_un, w_anil, w_acons, w_tup, w_lst, w_call, w_tB, w_tNot, w_tAnd, w_tOr, w_eIf, w_isN, w_notN, w_gnm, w_gnils, w_gcns, w_gtp2, w_gtp3, w_gtp2p, w_ixT0, w_ixT1, w_ixT2, w_ch, w_chL, w_chK, w_par2, w_par3, w_add, w_sub, w_neg, w_lt, w_le, w_gt, w_ge, w_abs, w_int, w_intb, w_max2, w_min2, w_pno, w_ppart, w_sl, w_bm, w_yes, w_eqI, w_neI, w_eqB, w_neB, QS_nx, QS_rt, QS_bk, QS_ct, QF_nx, QF_rt, QL_nx, QL_ct, QL_bk, QL_rt, wipeE, List.set_cons_succ, List.set_cons_zero, List.getElem?_cons_succ, List.getElem?_cons_zero, D.bl.injEq, D.int.injEq, exists_eq_left', exists_eq_left, w_eAnd, w_tTru, tru_bl, if_true, if_false, Bool.false_eq_true, w_lru, w_mod hs', decide_eq_true_eq]
    by_cases h1 : p = l
    · rw [if_neg (by rw [decide_eq_true h1]; decide)]
      exact skip (by rw [af, if_pos h1]) _ _ _ _
    · rw [if_pos (by rw [decide_eq_false h1]; rfl)]
      rw [if_neg h1] at af
      cases u with
      | false =>
        rw [if_neg Bool.false_ne_true]
        try simp only [w_seq, w_asg, w_ret, w_retN, w_drop, w_brk, w_cnt, w_nil, w_sif, w_c, w_ev, w_bin, w_un, w_anil, w_acons, w_tup, w_lst, w_call, w_tB, w_tNot, w_tAnd, w_tOr, w_eIf, w_isN, w_notN, w_gnm, w_gnils, w_gcns, w_gtp2, w_gtp3, w_gtp2p, w_ixT0, w_ixT1, w_ixT2, w_ch, w_chL, w_chK, w_par2, w_par3, w_add, w_sub, w_neg, w_lt, w_le, w_gt, w_ge, w_abs, w_int, w_intb, w_max2, w_min2, w_pno, w_ppart, w_sl, w_bm, w_yes, w_eqI, w_neI, w_eqB, w_neB, QS_nx, QS_rt, QS_bk, QS_ct, QF_nx, QF_rt, QL_nx, QL_ct, QL_bk, QL_rt, wipeE, List.set_cons_succ, List.set_cons_zero, List.getElem?_cons_succ, List.getElem?_cons_zero, D.bl.injEq, D.int.injEq, exists_eq_left', exists_eq_left, w_eAnd, w_tTru, tru_bl, if_true, if_false, Bool.false_eq_true, w_lru, w_mod hs', decide_eq_true_eq]
        rw [show (if false = true ∧ p % (s : Int) = l % (s : Int) ∧ q ≤ b then q + 1 else q) = q from if_neg fun z => Bool.false_ne_true z.1] at af
        by_cases h4 : q < (w : Int)
        · rw [if_pos h4] at af ⊢
          exact put _ af _ _ _
        · rw [if_neg h4] at af ⊢
          exact skip af _ _ _ _
      | true =>
        rw [if_pos rfl]
        try simp only [w_seq, w_asg, w_ret, w_retN, w_drop, w_brk, w_cnt, w_nil, w_sif, w_c, w_ev, w_bin, w_un, w_anil, w_acons, w_tup, w_lst, w_call, w_tB, w_tNot, w_tAnd, w_tOr, w_eIf, w_isN, w_notN, w_gnm, w_gnils, w_gcns, w_gtp2, w_gtp3, w_gtp2p, w_ixT0, w_ixT1, w_ixT2, w_ch, w_chL, w_chK, w_par2, w_par3, w_add, w_sub, w_neg, w_lt, w_le, w_gt, w_ge, w_abs, w_int, w_intb, w_max2, w_min2, w_pno, w_ppart, w_sl, w_bm, w_yes, w_eqI, w_neI, w_eqB, w_neB, QS_nx, QS_rt, QS_bk, QS_ct, QF_nx, QF_rt, QL_nx, QL_ct, QL_bk, QL_rt, wipeE, List.set_cons_succ, List.set_cons_zero, List.getElem?_cons_succ, List.getElem?_cons_zero, D.bl.injEq, D.int.injEq, exists_eq_left', exists_eq_left, w_eAnd, w_tTru, tru_bl, if_true, if_false, Bool.false_eq_true, w_lru, w_mod hs', decide_eq_true_eq]
        by_cases h2 : p % (s : Int) = l % (s : Int)
        · by_cases h3 : q ≤ b
          · rw [if_pos h2, if_pos h3]
            rw [show (if true = true ∧ p % (s : Int) = l % (s : Int) ∧ q ≤ b then q + 1 else q) = q + 1 from if_pos ⟨rfl, h2, h3⟩] at af
            by_cases h4 : q + 1 < (w : Int)
            · rw [if_pos h4] at af ⊢
              exact put _ af _ _ _
            · rw [if_neg h4] at af ⊢
              exact skip af _ _ _ _
          · rw [if_pos h2, if_neg h3]
            rw [show (if true = true ∧ p % (s : Int) = l % (s : Int) ∧ q ≤ b then q + 1 else q) = q from if_neg fun z => h3 z.2.2] at af
            by_cases h4 : q < (w : Int)
            · rw [if_pos h4] at af ⊢
              exact put _ af _ _ _
            · rw [if_neg h4] at af ⊢
              exact skip af _ _ _ _
        · rw [if_neg h2, if_neg h2]
          rw [show (if true = true ∧ p % (s : Int) = l % (s : Int) ∧ q ≤ b then q + 1 else q) = q from if_neg fun z => h2 z.2.1] at af
          by_cases h4 : q < (w : Int)
          · rw [if_pos h4] at af ⊢
            exact put _ af _ _ _
          · rw [if_neg h4] at af ⊢
            exact skip af _ _ _ _
  · rintro env S' ⟨x, y, z, v, rfl, a, g⟩
    have gk : S'[n]? = some (.dic (((l, 0) :: k.filterMap (agG u s w l b)).map kvI)) := by
      rw [g, List.length_map, List.take_length]
    simp only [w_seq, w_asg, w_ret, w_retN, w_drop, w_brk, w_cnt, w_nil, w_sif, w_c, w_ev, w_bin, w_un, w_anil, w_acons, w_tup, w_lst, w_call, w_tB, w_tNot, w_tAnd, w_tOr, w_eIf, w_isN, w_notN, w_gnm, w_gnils, w_gcns, w_gtp2, w_gtp3, w_gtp2p, w_ixT0, w_ixT1, w_ixT2, w_ch, w_chL, w_chK, w_par2, w_par3, w_add, w_sub, w_neg, w_lt, w_le, w_gt, w_ge, w_abs, w_int, w_intb, w_max2, w_min2, w_pno, w_ppart, w_sl, w_bm, w_yes, w_eqI, w_neI, w_eqB, w_neB, QS_nx, QS_rt, QS_bk, QS_ct, QF_nx, QF_rt, QL_nx, QL_ct, QL_bk, QL_rt, wipeE, List.set_cons_succ, List.set_cons_zero, List.getElem?_cons_succ, List.getElem?_cons_zero, D.bl.injEq, D.int.injEq, exists_eq_left', exists_eq_left, w_eAnd, w_tTru, tru_bl, if_true, if_false, Bool.false_eq_true]
    refine w_sortItems ?_
    simp only [w_seq, w_asg, w_ret, w_retN, w_drop, w_brk, w_cnt, w_nil, w_sif, w_c, w_ev, w_bin, w_un, w_anil, w_acons, w_tup, w_lst, w_call, w_tB, w_tNot, w_tAnd, w_tOr, w_eIf, w_isN, w_notN, w_gnm, w_gnils, w_gcns, w_gtp2, w_gtp3, w_gtp2p, w_ixT0, w_ixT1, w_ixT2, w_ch, w_chL, w_chK, w_par2, w_par3, w_add, w_sub, w_neg, w_lt, w_le, w_gt, w_ge, w_abs, w_int, w_intb, w_max2, w_min2, w_pno, w_ppart, w_sl, w_bm, w_yes, w_eqI, w_neI, w_eqB, w_neB, QS_nx, QS_rt, QS_bk, QS_ct, QF_nx, QF_rt, QL_nx, QL_ct, QL_bk, QL_rt, wipeE, List.set_cons_succ, List.set_cons_zero, List.getElem?_cons_succ, List.getElem?_cons_zero, D.bl.injEq, D.int.injEq, exists_eq_left', exists_eq_left, w_eAnd, w_tTru, tru_bl, if_true, if_false, Bool.false_eq_true, W_some]
    refine ⟨n, _, _, rfl, gk, intKV_kvI _, ?_, ?_⟩
    · have := fm_len (F := agG u s w l b) (k := k) (i := k.length)
      rw [List.take_length] at this
      rw [List.length_cons]
      unfold cap
      omega
    · rw [w_tupR (getL_of (new_at _ _))]
      exact ⟨rfl, a.trans (Ap.app _ _)⟩
theorem usedF_key {s w : Nat} {l b : Int} : ∀ p q, usedF s w l b p = some q → q.1 = p.1 := fun p q h => by rw [(usedF_some.mp h).2.1]
def uK (s w : Nat) (l : Int) (k : List P) : List P := sortP ((l, 0) :: usedL s w l (bf w l k) k)
def aK (u : Bool) (s w : Nat) (l : Int) (k : List P) : List P := sortP ((l, 0) :: k.filterMap (agG u s w l (bf w l k)))
def mD : Option (List P) → D
  | none => .non
  | some k => kD k
structure Kok (k : List P) : Prop where
  nd : (k.map (·.1)).Nodup
  len : k.length ≤ 1000
  age : ∀ p ∈ k, 0 ≤ p.2 ∧ p.2 ≤ 1000
theorem used_ok {u : Bool} {s w' : Nat} {l : Int} {k : List P} {m : Option (List P)} (hs : 0 < s) (hw : w' ≤ 100) (hk : Kok k) (hm : ∀ k2, m = some k2 → Kok k2) :
    W (f_used [tD s w' u, .tup [kD k, mD m], .int l] S) fun d S' => d = .tup [kD (uK s (sur w' u) l k), mD (m.map (aK u s w' l))] ∧ Ap S S' := by
  obtain ⟨nd, hz, hb⟩ := hk
  have hs' : 0 < (s : Int) := by omega
  refine w_fn rfl ?_
  show W (b_used [some (tD s w' u), some (.tup [kD k, mD m]), some (.int l), none, none, none, none, none, none, none, none] S) _
  unfold b_used
  simp only [w_seq, w_asg, w_ret, w_retN, w_drop, w_brk, w_cnt, w_nil, w_sif, w_c, w_ev, w_bin, w_un, w_anil, w_acons, w_tup, w_lst, w_call, w_tB, w_tNot, w_tAnd, w_tOr, w_eIf, w_isN, w_notN, w_gnm, w_gnils, w_gcns, w_gtp2, w_gtp3, w_gtp2p, w_ixT0, w_ixT1, w_ixT2, w_ch, w_chL, w_chK, w_par2, w_par3, w_add, w_sub, w_neg, w_lt, w_le, w_gt, w_ge, w_abs, w_int, w_intb, w_max2, w_min2, w_pno, w_ppart, w_sl, w_bm, w_yes, w_eqI, w_neI, w_eqB, w_neB, QS_nx, QS_rt, QS_bk, QS_ct, QF_nx, QF_rt, QL_nx, QL_ct, QL_bk, QL_rt, wipeE, List.set_cons_succ, List.set_cons_zero, List.getElem?_cons_succ, List.getElem?_cons_zero, D.bl.injEq, D.int.injEq, exists_eq_left', exists_eq_left, w_eAnd, w_tTru, tru_bl, if_true, if_false, Bool.false_eq_true, ways_sure_ok]
  generalize ew : sur w' u = w
  refine w_get2 ?_
  simp only [w_seq, w_asg, w_ret, w_retN, w_drop, w_brk, w_cnt, w_nil, w_sif, w_c, w_ev, w_bin, w_un, w_anil, w_acons, w_tup, w_lst, w_call, w_tB, w_tNot, w_tAnd, w_tOr, w_eIf, w_isN, w_notN, w_gnm, w_gnils, w_gcns, w_gtp2, w_gtp3, w_gtp2p, w_ixT0, w_ixT1, w_ixT2, w_ch, w_chL, w_chK, w_par2, w_par3, w_add, w_sub, w_neg, w_lt, w_le, w_gt, w_ge, w_abs, w_int, w_intb, w_max2, w_min2, w_pno, w_ppart, w_sl, w_bm, w_yes, w_eqI, w_neI, w_eqB, w_neB, QS_nx, QS_rt, QS_bk, QS_ct, QF_nx, QF_rt, QL_nx, QL_ct, QL_bk, QL_rt, wipeE, List.set_cons_succ, List.set_cons_zero, List.getElem?_cons_succ, List.getElem?_cons_zero, D.bl.injEq, D.int.injEq, exists_eq_left', exists_eq_left, w_eAnd, w_tTru, tru_bl, if_true, if_false, Bool.false_eq_true, w_dictT nd, W_some]
  refine ⟨_, _, rfl, List.getElem?_concat_length, k, List.getElem?_concat_length, fun d hd => ?_⟩
  have ed : d = .int (bf w l k) := by
    rw [hd]
    unfold bf lkP
    cases (k.find? fun p => decide (p.1 = l)).map (·.2) <;> rfl
  subst ed
  clear hd
  refine w_dic ?_
  simp only [aPairs, w_seq, w_asg, w_ret, w_retN, w_drop, w_brk, w_cnt, w_nil, w_sif, w_c, w_ev, w_bin, w_un, w_anil, w_acons, w_tup, w_lst, w_call, w_tB, w_tNot, w_tAnd, w_tOr, w_eIf, w_isN, w_notN, w_gnm, w_gnils, w_gcns, w_gtp2, w_gtp3, w_gtp2p, w_ixT0, w_ixT1, w_ixT2, w_ch, w_chL, w_chK, w_par2, w_par3, w_add, w_sub, w_neg, w_lt, w_le, w_gt, w_ge, w_abs, w_int, w_intb, w_max2, w_min2, w_pno, w_ppart, w_sl, w_bm, w_yes, w_eqI, w_neI, w_eqB, w_neB, QS_nx, QS_rt, QS_bk, QS_ct, QF_nx, QF_rt, QL_nx, QL_ct, QL_bk, QL_rt, wipeE, List.set_cons_succ, List.set_cons_zero, List.getElem?_cons_succ, List.getElem?_cons_zero, D.bl.injEq, D.int.injEq, exists_eq_left', exists_eq_left, w_eAnd, w_tTru, tru_bl, if_true, if_false, Bool.false_eq_true]
  have merge1 : mergeG [] [((.inl l : Key), D.int 0)] = [(l, (0 : Int))].map kvI := rfl
  refine ⟨new_at _ _, _, rfl, (by show 1 ≤ 15; decide), ?_⟩
  have eu : uK s w l k = sortP ((l, 0) :: usedL s w l (bf w l k) k) := rfl
  rw [eu]
  clear eu
  generalize eb : bf w l k = b
  have ap : Ap S (((S ++ [O.dic (k.map kvI)]) ++ [O.dic []]).set (S ++ [O.dic (k.map kvI)]).length (.dic (mergeG [] [((.inl l : Key), D.int 0)]))) := (Ap.trans (Ap.app S _) (Ap.app _ _)).set (by rw [List.length_append]; omega)
  have g0 := set_at (o' := O.dic (mergeG [] [((.inl l : Key), D.int 0)])) (new_at (S ++ [O.dic (k.map kvI)]) (O.dic []))
  rw [merge1] at ap g0 ⊢
  have hn : S.length ≤ (S ++ [O.dic (k.map kvI)]).length := by rw [List.length_append]; omega
  revert ap g0 hn
  generalize (S ++ [O.dic (k.map kvI)]).length = n
  generalize ((S ++ [O.dic (k.map kvI)]) ++ [O.dic []]).set n (O.dic ([(l, (0 : Int))].map kvI)) = S2
  intro ap g0 hn
  refine w_for.mpr (w_iseqT ?_)
  simp only [w_seq, w_asg, w_ret, w_retN, w_drop, w_brk, w_cnt, w_nil, w_sif, w_c, w_ev, w_bin, w_un, w_anil, w_acons, w_tup, w_lst, w_call, w_tB, w_tNot, w_tAnd, w_tOr, w_eIf, w_isN, w_notN, w_gnm, w_gnils, w_gcns, w_gtp2, w_gtp3, w_gtp2p, w_ixT0, w_ixT1, w_ixT2, w_ch, w_chL, w_chK, w_par2, w_par3, w_add, w_sub, w_neg, w_lt, w_le, w_gt, w_ge, w_abs, w_int, w_intb, w_max2, w_min2, w_pno, w_ppart, w_sl, w_bm, w_yes, w_eqI, w_neI, w_eqB, w_neB, QS_nx, QS_rt, QS_bk, QS_ct, QF_nx, QF_rt, QL_nx, QL_ct, QL_bk, QL_rt, wipeE, List.set_cons_succ, List.set_cons_zero, List.getElem?_cons_succ, List.getElem?_cons_zero, D.bl.injEq, D.int.injEq, exists_eq_left', exists_eq_left, w_eAnd, w_tTru, tru_bl, if_true, if_false, Bool.false_eq_true]
  refine ⟨_, rfl, ?_⟩
  refine for_fix (fun i env S' => ∃ x y z, env = [some (tD s w' u), some (.tup [kD k, mD m]), some (.int l), some (kD k), some (mD m), some (.int w), some (.int b), some (.ref n), x, y, z] ∧ Ap S S' ∧ S'[n]? = some (.dic (((l, 0) :: (k.take i).filterMap (usedF s w l b)).map kvI))) ?_ ?_ ⟨_, _, _, rfl, ap, g0⟩
  · rintro i d env S' hd ⟨x, y, z, rfl, a, g⟩
    rw [List.getElem?_map] at hd
    obtain ⟨⟨p, q⟩, hp, rfl⟩ := Option.map_eq_some_iff.mp hd
    have hm := hb _ (List.mem_iff_getElem?.mpr ⟨i, hp⟩)
    have su := fm_succ (usedF s w l b) hp
    rw [su]
    have skip : usedF s w l b (p, q) = none → ∀ x y z : Option D, ∃ x1 y1 z1, [some (tD s w' u), some (.tup [kD k, mD m]), some (.int l), some (kD k), some (mD m), some (.int w), some (.int b), some (.ref n), x, y, z] = [some (tD s w' u), some (.tup [kD k, mD m]), some (.int l), some (kD k), some (mD m), some (.int w), some (.int b), some (.ref n), x1, y1, z1] ∧ Ap S S' ∧ S'[n]? = some (.dic (((l, 0) :: ((k.take i).filterMap (usedF s w l b) ++ (usedF s w l b (p, q)).toList)).map kvI)) := fun e x y z =>
      ⟨x, y, z, rfl, a, by rw [e]; simpa using g⟩
    have put : ∀ o : Int, usedF s w l b (p, q) = some (p, o) → ∀ y z : Option D, W (gIx (eVar 7) (eVar 8) (D.int o) [some (tD s w' u), some (.tup [kD k, mD m]), some (.int l), some (kD k), some (mD m), some (.int w), some (.int b), some (.ref n), some (D.int p), y, z] S') fun env S' => ∃ x1 y1 z1, env = [some (tD s w' u), some (.tup [kD k, mD m]), some (.int l), some (kD k), some (mD m), some (.int w), some (.int b), some (.ref n), x1, y1, z1] ∧ Ap S S' ∧ S'[n]? = some (.dic (((l, 0) :: ((k.take i).filterMap (usedF s w l b) ++ (usedF s w l b (p, q)).toList)).map kvI)) := fun o e y z => by
      have hk := key_new (usedF_key (s := s) (w := w) (l := l) (b := b)) (l := l) nd hp (usedF_some.mp e).1
      have hl : ((l, (0 : Int)) :: (k.take i).filterMap (usedF s w l b)).length < cap := by
        rw [List.length_cons]
        have := fm_len (F := usedF s w l b) (k := k) (i := i)
        unfold cap
        omega
      refine (w_setI rfl rfl g hl hk).mpr ⟨_, _, _, rfl, a.set hn, ?_⟩
      rw [set_at g, e]
      rfl
    have af : usedF s w l b (p, q) = if p = l then none else if (if p % (s : Int) = l % (s : Int) ∧ q < b then q + 1 else q) < (w : Int) then some (p, (if p % (s : Int) = l % (s : Int) ∧ q < b then q + 1 else q)) else none := rfl
    simp only [w_seq, w_asg, w_ret, w_retN, w_drop, w_brk, w_cnt, w_nil, w_sif, w_c, w_ev, w_bin, w_un, w_anil, w_acons, w_tup, w_lst, w_call, w_tB, w_tNot, w_tAnd, w_tOr, w_eIf, w_isN, w_notN, w_gnm, w_gnils, w_gcns, w_gtp2, w_gtp3, w_gtp2p, w_ixT0, w_ixT1, w_ixT2, w_ch, w_chL, w_chK, w_par2, w_par3, w_add, w_sub, w_neg, w_lt, w_le, w_gt, w_ge, w_abs, w_int, w_intb, w_max2, w_min2, w_pno, w_ppart, w_sl, w_bm, w_yes, w_eqI, w_neI, w_eqB, w_neB, QS_nx, QS_rt, QS_bk, QS_ct, QF_nx, QF_rt, QL_nx, QL_ct, QL_bk, QL_rt, wipeE, List.set_cons_succ, List.set_cons_zero, List.getElem?_cons_succ, List.getElem?_cons_zero, D.bl.injEq, D.int.injEq, exists_eq_left', exists_eq_left, w_eAnd, w_tTru, tru_bl, if_true, if_false, Bool.false_eq_true, w_lru, w_mod hs', decide_eq_true_eq]
    by_cases h1 : p = l
    · rw [if_neg (by rw [decide_eq_true h1]; decide)]
      exact skip (by rw [af, if_pos h1]) _ _ _
    · rw [if_pos (by rw [decide_eq_false h1]; rfl)]
      rw [if_neg h1] at af
      by_cases h2 : p % (s : Int) = l % (s : Int)
      · by_cases h3 : q < b
        · rw [if_pos h2, if_pos h3]
          rw [show (if p % (s : Int) = l % (s : Int) ∧ q < b then q + 1 else q) = q + 1 from if_pos ⟨h2, h3⟩] at af
          by_cases h4 : q + 1 < (w : Int)
          · rw [if_pos h4] at af ⊢
            exact put _ af _ _
          · rw [if_neg h4] at af ⊢
            exact skip af _ _ _
        · rw [if_pos h2, if_neg h3]
          rw [show (if p % (s : Int) = l % (s : Int) ∧ q < b then q + 1 else q) = q from if_neg fun z => h3 z.2] at af
          by_cases h4 : q < (w : Int)
          · rw [if_pos h4] at af ⊢
            exact put _ af _ _
          · rw [if_neg h4] at af ⊢
            exact skip af _ _ _
      · rw [if_neg h2]
        rw [show (if p % (s : Int) = l % (s : Int) ∧ q < b then q + 1 else q) = q from if_neg fun z => h2 z.1] at af
        by_cases h4 : q < (w : Int)
        · rw [if_pos h4] at af ⊢
          exact put _ af _ _
        · rw [if_neg h4] at af ⊢
          exact skip af _ _ _
  · rintro env S' ⟨x, y, z, rfl, a, g⟩
    have gk : S'[n]? = some (.dic (((l, 0) :: usedL s w l b k).map kvI)) := by
      rw [g, List.length_map, List.take_length]
      rfl
    have hl : ((l, (0 : Int)) :: usedL s w l b k).length ≤ cap := by
      have := fm_len (F := usedF s w l b) (k := k) (i := k.length)
      rw [List.take_length] at this
      rw [List.length_cons]
      unfold cap usedL
      omega
    cases m with
    | none =>
      simp only [w_seq, w_asg, w_ret, w_retN, w_drop, w_brk, w_cnt, w_nil, w_sif, w_c, w_ev, w_bin, w_un, w_anil, w_acons, w_tup, w_lst, w_call, w_tB, w_tNot, w_tAnd, w_tOr, w_eIf, w_isN, w_notN, w_gnm, w_gnils, w_gcns, w_gtp2, w_gtp3, w_gtp2p, w_ixT0, w_ixT1, w_ixT2, w_ch, w_chL, w_chK, w_par2, w_par3, w_add, w_sub, w_neg, w_lt, w_le, w_gt, w_ge, w_abs, w_int, w_intb, w_max2, w_min2, w_pno, w_ppart, w_sl, w_bm, w_yes, w_eqI, w_neI, w_eqB, w_neB, QS_nx, QS_rt, QS_bk, QS_ct, QF_nx, QF_rt, QL_nx, QL_ct, QL_bk, QL_rt, wipeE, List.set_cons_succ, List.set_cons_zero, List.getElem?_cons_succ, List.getElem?_cons_zero, D.bl.injEq, D.int.injEq, exists_eq_left', exists_eq_left, w_eAnd, w_tTru, tru_bl, if_true, if_false, Bool.false_eq_true, mD, decide_true]
      refine w_sortItems ?_
      simp only [w_seq, w_asg, w_ret, w_retN, w_drop, w_brk, w_cnt, w_nil, w_sif, w_c, w_ev, w_bin, w_un, w_anil, w_acons, w_tup, w_lst, w_call, w_tB, w_tNot, w_tAnd, w_tOr, w_eIf, w_isN, w_notN, w_gnm, w_gnils, w_gcns, w_gtp2, w_gtp3, w_gtp2p, w_ixT0, w_ixT1, w_ixT2, w_ch, w_chL, w_chK, w_par2, w_par3, w_add, w_sub, w_neg, w_lt, w_le, w_gt, w_ge, w_abs, w_int, w_intb, w_max2, w_min2, w_pno, w_ppart, w_sl, w_bm, w_yes, w_eqI, w_neI, w_eqB, w_neB, QS_nx, QS_rt, QS_bk, QS_ct, QF_nx, QF_rt, QL_nx, QL_ct, QL_bk, QL_rt, wipeE, List.set_cons_succ, List.set_cons_zero, List.getElem?_cons_succ, List.getElem?_cons_zero, D.bl.injEq, D.int.injEq, exists_eq_left', exists_eq_left, w_eAnd, w_tTru, tru_bl, if_true, if_false, Bool.false_eq_true, W_some]
      refine ⟨n, _, _, rfl, gk, intKV_kvI _, hl, ?_⟩
      rw [w_tupR (getL_of (new_at _ _))]
      exact ⟨(by show 2 ≤ 10000000; decide), rfl, a.trans (Ap.app _ _)⟩
    | some k2 =>
      obtain ⟨nd2, hz2, hb2⟩ := hm k2 rfl
      simp only [w_seq, w_asg, w_ret, w_retN, w_drop, w_brk, w_cnt, w_nil, w_sif, w_c, w_ev, w_bin, w_un, w_anil, w_acons, w_tup, w_lst, w_call, w_tB, w_tNot, w_tAnd, w_tOr, w_eIf, w_isN, w_notN, w_gnm, w_gnils, w_gcns, w_gtp2, w_gtp3, w_gtp2p, w_ixT0, w_ixT1, w_ixT2, w_ch, w_chL, w_chK, w_par2, w_par3, w_add, w_sub, w_neg, w_lt, w_le, w_gt, w_ge, w_abs, w_int, w_intb, w_max2, w_min2, w_pno, w_ppart, w_sl, w_bm, w_yes, w_eqI, w_neI, w_eqB, w_neB, QS_nx, QS_rt, QS_bk, QS_ct, QF_nx, QF_rt, QL_nx, QL_ct, QL_bk, QL_rt, wipeE, List.set_cons_succ, List.set_cons_zero, List.getElem?_cons_succ, List.getElem?_cons_zero, D.bl.injEq, D.int.injEq, exists_eq_left', exists_eq_left, w_eAnd, w_tTru, tru_bl, if_true, if_false, Bool.false_eq_true, mD]
      refine w_sortItems ?_
      simp only [w_seq, w_asg, w_ret, w_retN, w_drop, w_brk, w_cnt, w_nil, w_sif, w_c, w_ev, w_bin, w_un, w_anil, w_acons, w_tup, w_lst, w_call, w_tB, w_tNot, w_tAnd, w_tOr, w_eIf, w_isN, w_notN, w_gnm, w_gnils, w_gcns, w_gtp2, w_gtp3, w_gtp2p, w_ixT0, w_ixT1, w_ixT2, w_ch, w_chL, w_chK, w_par2, w_par3, w_add, w_sub, w_neg, w_lt, w_le, w_gt, w_ge, w_abs, w_int, w_intb, w_max2, w_min2, w_pno, w_ppart, w_sl, w_bm, w_yes, w_eqI, w_neI, w_eqB, w_neB, QS_nx, QS_rt, QS_bk, QS_ct, QF_nx, QF_rt, QL_nx, QL_ct, QL_bk, QL_rt, wipeE, List.set_cons_succ, List.set_cons_zero, List.getElem?_cons_succ, List.getElem?_cons_zero, D.bl.injEq, D.int.injEq, exists_eq_left', exists_eq_left, w_eAnd, w_tTru, tru_bl, if_true, if_false, Bool.false_eq_true, W_some]
      refine ⟨n, _, _, rfl, gk, intKV_kvI _, hl, ?_⟩
      rw [w_tupR (getL_of (new_at _ _))]
      obtain ⟨d, S3, e, rfl, a3⟩ := aged_ok (S := S' ++ [.lst ((sortP ((l, 0) :: usedL s w l b k)).map pD)]) (l := l) hs hw nd2 hz2 hb2
      exact ⟨_, _, e, (by show 2 ≤ 10000000; decide), rfl, (a.trans (Ap.app _ _)).trans a3⟩
end
end K50
/-! K50c: filled, touched, missed, verdicts; one within another. -/
namespace K50
open PySem L2 FL M51
section
variable {S : Sto} {Q : D → Sto → Prop}
abbrev knD (k : List P) (m : Option (List P)) : D := .tup [kD k, mD m]
structure Kk (k : List P) (m : Option (List P)) : Prop where
  k : Kok k
  m : ∀ k2, m = some k2 → Kok k2
theorem filled_ok {u : Bool} {s w : Nat} {l : Int} {k : List P} {m : Option (List P)} (hs : 0 < s) (hw : w ≤ 100) (h : Kk k m) :
    W (f_filled [tD s w u, knD k m, .int l] S) fun d S' => d = knD (uK s (sur w u) l k) (m.map (aK u s w l)) ∧ Ap S S' := by
  refine w_fn rfl ?_
  show W (b_filled [some (tD s w u), some (knD k m), some (.int l)] S) _
  unfold b_filled
  simp only [w_seq, w_asg, w_ret, w_retN, w_drop, w_brk, w_cnt, w_nil, w_sif, w_c, w_ev, w_bin, w_un, w_anil, w_acons, w_tup, w_lst, w_call, w_tB, w_tNot, w_tAnd, w_tOr, w_eIf, w_isN, w_notN, w_gnm, w_gnils, w_gcns, w_gtp2, w_gtp3, w_gtp2p, w_ixT0, w_ixT1, w_ixT2, w_ch, w_chL, w_chK, w_par2, w_par3, w_add, w_sub, w_neg, w_lt, w_le, w_gt, w_ge, w_abs, w_int, w_intb, w_max2, w_min2, w_pno, w_ppart, w_sl, w_bm, w_yes, w_eqI, w_neI, w_eqB, w_neB, QS_nx, QS_rt, QS_bk, QS_ct, QF_nx, QF_rt, QL_nx, QL_ct, QL_bk, QL_rt, wipeE, List.set_cons_succ, List.set_cons_zero, List.getElem?_cons_succ, List.getElem?_cons_zero, D.bl.injEq, D.int.injEq, exists_eq_left', exists_eq_left, w_eAnd, w_tTru, tru_bl, if_true, if_false, Bool.false_eq_true]
  exact used_ok hs hw h.k h.m
theorem w_eOr (fa fb : FE) {env : FL.Env} : W (eOr fa fb env S) Q ↔ W (fa env S) fun x S1 => match tru x S1 with
    | some b => if b = true then Q x S1 else W (fb env S1) Q
    | none => False := by
  unfold eOr
  rw [W_th]
  have key : ∀ (x : D) (S1 : Sto), W (match tru x S1 with
      | some true => some (x, S1)
      | some false => fb env S1
      | none => none) Q ↔ match tru x S1 with
      | some b => if b = true then Q x S1 else W (fb env S1) Q
      | none => False := by
    intro x S1
    cases tru x S1 with
    | none => simp
    | some b => cases b <;> simp
  constructor
  · rintro ⟨x, S1, e, h⟩
    exact ⟨x, S1, e, (key x S1).mp h⟩
  · rintro ⟨x, S1, e, h⟩
    exact ⟨x, S1, e, (key x S1).mpr h⟩
def onQ (v : P → D) : D → D
  | .tup [.int a, .int b] => v (a, b)
  | d => d
def onP (f : P → Bool) : D → Bool
  | .tup [.int a, .int b] => f (a, b)
  | _ => false
theorem filter_pD (f : P → Bool) : ∀ k : List P, (k.map pD).filter (onP f) = (k.filter f).map pD
  | [] => rfl
  | p :: k => by
    rw [List.map_cons, List.filter_cons, List.filter_cons, show onP f (pD p) = f p from rfl, filter_pD f k]
    split <;> rfl
/-- a comprehension over a tuple of pairs -/
theorem w_lcP {fe : FE} {g : FG} {tt : FT} {te : FE} {vs : List Nat} {env : FL.Env} {k : List P} (f : P → Bool) (v : P → D)
    (hi : W (fe env S) fun d S1 => d = kD k ∧ S1 = S)
    (hb : ∀ p ∈ k, ∀ S2, Ap S S2 → W (g (pD p) (wipeE env vs) S2) fun e1 S3 => W (tt e1 S3) fun b S4 => b = f p ∧ Ap S2 S4 ∧ (f p = true → W (te e1 S4) fun y S5 => y = v p ∧ Ap S4 S5))
    (hl : Kok k) (hq : ∀ n S', Ap S S' → S.length ≤ n → S'[n]? = some (.lst ((k.filter f).map v)) → Q (.ref n) S') : W (eLc (iSeq fe) g tt te vs env S) Q := by
  refine w_lcm (ds := k.map pD) (onQ v) (onP f) ?_ (fun d hd S2 a => ?_) (by have := hl.len; rw [List.length_map]; unfold cap; omega) (fun n S' a l h => hq n S' a l ?_)
  · refine w_iseqT ?_
    obtain ⟨d, S2, e, rfl, rfl⟩ := hi
    exact ⟨_, _, e, _, rfl, Ap.refl _, by simp [ItD.fix], fun S2 a i => rfl⟩
  · obtain ⟨p, hp, rfl⟩ := List.mem_map.mp hd
    exact hb p hp S2 a
  · rw [h, filter_pD, List.map_map]
    rfl
theorem missed_ok {l : Int} {k : List P} {m : Option (List P)} (h : Kk k m) :
    W (f_missed [knD k m, .int l] S) fun d S' => d = knD k (m.map fun k2 => k2.filter fun p => decide (p.1 ≠ l)) ∧ Ap S S' := by
  refine w_fn rfl ?_
  show W (b_missed [some (knD k m), some (.int l), none, none, none] S) _
  unfold b_missed
  cases m with
  | none =>
    simp only [w_seq, w_asg, w_ret, w_retN, w_drop, w_brk, w_cnt, w_nil, w_sif, w_c, w_ev, w_bin, w_un, w_anil, w_acons, w_tup, w_lst, w_call, w_tB, w_tNot, w_tAnd, w_tOr, w_eIf, w_isN, w_notN, w_gnm, w_gnils, w_gcns, w_gtp2, w_gtp3, w_gtp2p, w_ixT0, w_ixT1, w_ixT2, w_ch, w_chL, w_chK, w_par2, w_par3, w_add, w_sub, w_neg, w_lt, w_le, w_gt, w_ge, w_abs, w_int, w_intb, w_max2, w_min2, w_pno, w_ppart, w_sl, w_bm, w_yes, w_eqI, w_neI, w_eqB, w_neB, QS_nx, QS_rt, QS_bk, QS_ct, QF_nx, QF_rt, QL_nx, QL_ct, QL_bk, QL_rt, wipeE, List.set_cons_succ, List.set_cons_zero, List.getElem?_cons_succ, List.getElem?_cons_zero, D.bl.injEq, D.int.injEq, exists_eq_left', exists_eq_left, w_eAnd, w_tTru, tru_bl, if_true, if_false, Bool.false_eq_true, mD, decide_true]
    exact ⟨(by show 2 ≤ 10000000; decide), rfl, Ap.refl _⟩
  | some k2 =>
    simp only [w_seq, w_asg, w_ret, w_retN, w_drop, w_brk, w_cnt, w_nil, w_sif, w_c, w_ev, w_bin, w_un, w_anil, w_acons, w_tup, w_lst, w_call, w_tB, w_tNot, w_tAnd, w_tOr, w_eIf, w_isN, w_notN, w_gnm, w_gnils, w_gcns, w_gtp2, w_gtp3, w_gtp2p, w_ixT0, w_ixT1, w_ixT2, w_ch, w_chL, w_chK, w_par2, w_par3, w_add, w_sub, w_neg, w_lt, w_le, w_gt, w_ge, w_abs, w_int, w_intb, w_max2, w_min2, w_pno, w_ppart, w_sl, w_bm, w_yes, w_eqI, w_neI, w_eqB, w_neB, QS_nx, QS_rt, QS_bk, QS_ct, QF_nx, QF_rt, QL_nx, QL_ct, QL_bk, QL_rt, wipeE, List.set_cons_succ, List.set_cons_zero, List.getElem?_cons_succ, List.getElem?_cons_zero, D.bl.injEq, D.int.injEq, exists_eq_left', exists_eq_left, w_eAnd, w_tTru, tru_bl, if_true, if_false, Bool.false_eq_true, mD]
    refine w_lcP (k := k2) (fun p => decide (p.1 ≠ l)) pD ?_ ?_ (h.m k2 rfl) fun n S' a hl g => ?_
    · simp only [w_seq, w_asg, w_ret, w_retN, w_drop, w_brk, w_cnt, w_nil, w_sif, w_c, w_ev, w_bin, w_un, w_anil, w_acons, w_tup, w_lst, w_call, w_tB, w_tNot, w_tAnd, w_tOr, w_eIf, w_isN, w_notN, w_gnm, w_gnils, w_gcns, w_gtp2, w_gtp3, w_gtp2p, w_ixT0, w_ixT1, w_ixT2, w_ch, w_chL, w_chK, w_par2, w_par3, w_add, w_sub, w_neg, w_lt, w_le, w_gt, w_ge, w_abs, w_int, w_intb, w_max2, w_min2, w_pno, w_ppart, w_sl, w_bm, w_yes, w_eqI, w_neI, w_eqB, w_neB, QS_nx, QS_rt, QS_bk, QS_ct, QF_nx, QF_rt, QL_nx, QL_ct, QL_bk, QL_rt, wipeE, List.set_cons_succ, List.set_cons_zero, List.getElem?_cons_succ, List.getElem?_cons_zero, D.bl.injEq, D.int.injEq, exists_eq_left', exists_eq_left, w_eAnd, w_tTru, tru_bl, if_true, if_false, Bool.false_eq_true]
      exact ⟨trivial, trivial⟩
    · intro p hp S2 a
      simp only [w_seq, w_asg, w_ret, w_retN, w_drop, w_brk, w_cnt, w_nil, w_sif, w_c, w_ev, w_bin, w_un, w_anil, w_acons, w_tup, w_lst, w_call, w_tB, w_tNot, w_tAnd, w_tOr, w_eIf, w_isN, w_notN, w_gnm, w_gnils, w_gcns, w_gtp2, w_gtp3, w_gtp2p, w_ixT0, w_ixT1, w_ixT2, w_ch, w_chL, w_chK, w_par2, w_par3, w_add, w_sub, w_neg, w_lt, w_le, w_gt, w_ge, w_abs, w_int, w_intb, w_max2, w_min2, w_pno, w_ppart, w_sl, w_bm, w_yes, w_eqI, w_neI, w_eqB, w_neB, QS_nx, QS_rt, QS_bk, QS_ct, QF_nx, QF_rt, QL_nx, QL_ct, QL_bk, QL_rt, wipeE, List.set_cons_succ, List.set_cons_zero, List.getElem?_cons_succ, List.getElem?_cons_zero, D.bl.injEq, D.int.injEq, exists_eq_left', exists_eq_left, w_eAnd, w_tTru, tru_bl, if_true, if_false, Bool.false_eq_true]
      exact ⟨by simp, Ap.refl _, fun _ => ⟨trivial, Ap.refl _⟩⟩
    · rw [w_tupR (getL_of g)]
      exact ⟨(by show 2 ≤ 10000000; decide), rfl, a⟩
theorem boolsD_map : ∀ bs : List Bool, boolsD (bs.map D.bl) = some bs
  | [] => rfl
  | b :: bs => by
    show (boolsD (bs.map D.bl)).map _ = _
    rw [boolsD_map bs]
    rfl
theorem w_any {n : Nat} {bs : List Bool} (h : getL S n = some (bs.map D.bl)) : W (fAny [.ref n] S) Q ↔ Q (.bl (bs.any id)) S := by
  have f : fAny [.ref n] S = some (.bl (bs.any id), S) := by
    unfold fAny bools1
    simp only [h, Option.bind_some, boolsD_map, Option.map_some]
  rw [f, W_some]
theorem w_all {n : Nat} {bs : List Bool} (h : getL S n = some (bs.map D.bl)) : W (fAll [.ref n] S) Q ↔ Q (.bl (bs.all id)) S := by
  have f : fAll [.ref n] S = some (.bl (bs.all id), S) := by
    unfold fAll bools1
    simp only [h, Option.bind_some, boolsD_map, Option.map_some]
  rw [f, W_some]
theorem filterT {α : Type} (l : List α) : l.filter (fun _ => true) = l := List.filter_eq_self.mpr fun _ _ => rfl
/-- any, all of a comprehension over pairs -/
theorem w_anyP {fe : FE} {g : FG} {te : FE} {vs : List Nat} {env : FL.Env} {k : List P} (v : P → Bool) (hi : W (fe env S) fun d S1 => d = kD k ∧ S1 = S)
    (hb : ∀ p ∈ k, ∀ S2, Ap S S2 → W (g (pD p) (wipeE env vs) S2) fun e1 S3 => W (tYs e1 S3) fun b S4 => b = true ∧ Ap S2 S4 ∧ (true = true → W (te e1 S4) fun y S5 => y = .bl (v p) ∧ Ap S4 S5))
    (hl : Kok k) (hq : ∀ S', Ap S S' → Q (.bl (k.any v)) S') : W (eLc (iSeq fe) g tYs te vs env S) fun x S1 => W (fAny [x] S1) Q := by
  refine w_lcP (fun _ => true) (fun p => .bl (v p)) hi hb hl fun n S' a _ h => ?_
  rw [filterT, show (fun p => D.bl (v p)) = D.bl ∘ v from rfl, ← List.map_map] at h
  rw [w_any (getL_of h), List.any_map]
  exact hq S' a
theorem w_allP {fe : FE} {g : FG} {te : FE} {vs : List Nat} {env : FL.Env} {k : List P} (v : P → Bool) (hi : W (fe env S) fun d S1 => d = kD k ∧ S1 = S)
    (hb : ∀ p ∈ k, ∀ S2, Ap S S2 → W (g (pD p) (wipeE env vs) S2) fun e1 S3 => W (tYs e1 S3) fun b S4 => b = true ∧ Ap S2 S4 ∧ (true = true → W (te e1 S4) fun y S5 => y = .bl (v p) ∧ Ap S4 S5))
    (hl : Kok k) (hq : ∀ S', Ap S S' → Q (.bl (k.all v)) S') : W (eLc (iSeq fe) g tYs te vs env S) fun x S1 => W (fAll [x] S1) Q := by
  refine w_lcP (fun _ => true) (fun p => .bl (v p)) hi hb hl fun n S' a _ h => ?_
  rw [filterT, show (fun p => D.bl (v p)) = D.bl ∘ v from rfl, ← List.map_map] at h
  rw [w_all (getL_of h), List.all_map]
  exact hq S' a
def hasK (k : List P) (l : Int) : Bool := k.any fun p => decide (p.1 = l)
def vds (k : List P) (m : Option (List P)) (l : Int) : List Bool := if hasK k l = true then [true] else match m with
  | none => [true, false]
  | some k2 => if hasK k2 l = true then [true, false] else [false]
theorem verdicts_ok {l : Int} {k : List P} {m : Option (List P)} (h : Kk k m) :
    W (f_verdicts [knD k m, .int l] S) fun d S' => ∃ n, d = .ref n ∧ S'[n]? = some (.lst ((vds k m l).map D.bl)) ∧ Ap S S' ∧ S.length ≤ n := by
  refine w_fn rfl ?_
  show W (b_verdicts [some (knD k m), some (.int l), none, none, none, none] S) _
  unfold b_verdicts
  simp only [w_seq, w_asg, w_ev, List.getElem?_cons_zero, w_gtp2, w_gcns, w_gnm, w_gnils, QS_nx, w_sif, w_tTru, w_call, w_acons, w_anil]
  refine w_anyP (k := k) (fun p => decide (p.1 = l)) (by simp only [w_seq, w_asg, w_ret, w_retN, w_drop, w_brk, w_cnt, w_nil, w_sif, w_c, w_ev, w_bin, w_un, w_anil, w_acons, w_tup, w_lst, w_call, w_tB, w_tNot, w_tAnd, w_tOr, w_eIf, w_isN, w_notN, w_gnm, w_gnils, w_gcns, w_gtp2, w_gtp3, w_gtp2p, w_ixT0, w_ixT1, w_ixT2, w_ch, w_chL, w_chK, w_par2, w_par3, w_add, w_sub, w_neg, w_lt, w_le, w_gt, w_ge, w_abs, w_int, w_intb, w_max2, w_min2, w_pno, w_ppart, w_sl, w_bm, w_yes, w_eqI, w_neI, w_eqB, w_neB, QS_nx, QS_rt, QS_bk, QS_ct, QF_nx, QF_rt, QL_nx, QL_ct, QL_bk, QL_rt, wipeE, List.set_cons_succ, List.set_cons_zero, List.getElem?_cons_succ, List.getElem?_cons_zero, D.bl.injEq, D.int.injEq, exists_eq_left', exists_eq_left, w_eAnd, w_tTru, tru_bl, if_true, if_false, Bool.false_eq_true]; exact ⟨trivial, trivial⟩) (fun p hp S2 a => ?_) h.k fun S1 a1 => ?_
  · simp only [w_seq, w_asg, w_ret, w_retN, w_drop, w_brk, w_cnt, w_nil, w_sif, w_c, w_ev, w_bin, w_un, w_anil, w_acons, w_tup, w_lst, w_call, w_tB, w_tNot, w_tAnd, w_tOr, w_eIf, w_isN, w_notN, w_gnm, w_gnils, w_gcns, w_gtp2, w_gtp3, w_gtp2p, w_ixT0, w_ixT1, w_ixT2, w_ch, w_chL, w_chK, w_par2, w_par3, w_add, w_sub, w_neg, w_lt, w_le, w_gt, w_ge, w_abs, w_int, w_intb, w_max2, w_min2, w_pno, w_ppart, w_sl, w_bm, w_yes, w_eqI, w_neI, w_eqB, w_neB, QS_nx, QS_rt, QS_bk, QS_ct, QF_nx, QF_rt, QL_nx, QL_ct, QL_bk, QL_rt, wipeE, List.set_cons_succ, List.set_cons_zero, List.getElem?_cons_succ, List.getElem?_cons_zero, D.bl.injEq, D.int.injEq, exists_eq_left', exists_eq_left, w_eAnd, w_tTru, tru_bl, if_true, if_false, Bool.false_eq_true]
    exact ⟨trivial, Ap.refl _, fun _ => ⟨trivial, Ap.refl _⟩⟩
  · simp only [tru_bl]
    show if hasK k l = true then _ else _
    unfold vds
    by_cases h1 : hasK k l = true
    · simp only [h1, if_true, w_seq, w_asg, w_ret, w_retN, w_drop, w_brk, w_cnt, w_nil, w_sif, w_c, w_ev, w_bin, w_un, w_anil, w_acons, w_tup, w_lst, w_call, w_tB, w_tNot, w_tAnd, w_tOr, w_eIf, w_isN, w_notN, w_gnm, w_gnils, w_gcns, w_gtp2, w_gtp3, w_gtp2p, w_ixT0, w_ixT1, w_ixT2, w_ch, w_chL, w_chK, w_par2, w_par3, w_add, w_sub, w_neg, w_lt, w_le, w_gt, w_ge, w_abs, w_int, w_intb, w_max2, w_min2, w_pno, w_ppart, w_sl, w_bm, w_yes, w_eqI, w_neI, w_eqB, w_neB, QS_nx, QS_rt, QS_bk, QS_ct, QF_nx, QF_rt, QL_nx, QL_ct, QL_bk, QL_rt, wipeE, List.set_cons_succ, List.set_cons_zero, List.getElem?_cons_succ, List.getElem?_cons_zero, D.bl.injEq, D.int.injEq, exists_eq_left', exists_eq_left, w_eAnd, w_tTru, tru_bl, if_true, if_false, Bool.false_eq_true, W_some]
      exact ⟨(by show 1 ≤ 10000000; decide), S1.length, rfl, new_at _ _, a1.trans (Ap.app _ _), a1.len⟩
    · rw [if_neg h1, if_neg h1]
      cases m with
      | none =>
        simp only [w_seq, w_asg, w_ret, w_retN, w_drop, w_brk, w_cnt, w_nil, w_sif, w_c, w_ev, w_bin, w_un, w_anil, w_acons, w_tup, w_lst, w_call, w_tB, w_tNot, w_tAnd, w_tOr, w_eIf, w_isN, w_notN, w_gnm, w_gnils, w_gcns, w_gtp2, w_gtp3, w_gtp2p, w_ixT0, w_ixT1, w_ixT2, w_ch, w_chL, w_chK, w_par2, w_par3, w_add, w_sub, w_neg, w_lt, w_le, w_gt, w_ge, w_abs, w_int, w_intb, w_max2, w_min2, w_pno, w_ppart, w_sl, w_bm, w_yes, w_eqI, w_neI, w_eqB, w_neB, QS_nx, QS_rt, QS_bk, QS_ct, QF_nx, QF_rt, QL_nx, QL_ct, QL_bk, QL_rt, wipeE, List.set_cons_succ, List.set_cons_zero, List.getElem?_cons_succ, List.getElem?_cons_zero, D.bl.injEq, D.int.injEq, exists_eq_left', exists_eq_left, w_eAnd, w_tTru, tru_bl, if_true, if_false, Bool.false_eq_true, mD, decide_true, Bool.not_true, W_some]
        exact ⟨(by show 2 ≤ 10000000; decide), S1.length, rfl, new_at _ _, a1.trans (Ap.app _ _), a1.len⟩
      | some k2 =>
        simp only [w_seq, w_asg, w_ret, w_retN, w_drop, w_brk, w_cnt, w_nil, w_sif, w_c, w_ev, w_bin, w_un, w_anil, w_acons, w_tup, w_lst, w_call, w_tB, w_tNot, w_tAnd, w_tOr, w_eIf, w_isN, w_notN, w_gnm, w_gnils, w_gcns, w_gtp2, w_gtp3, w_gtp2p, w_ixT0, w_ixT1, w_ixT2, w_ch, w_chL, w_chK, w_par2, w_par3, w_add, w_sub, w_neg, w_lt, w_le, w_gt, w_ge, w_abs, w_int, w_intb, w_max2, w_min2, w_pno, w_ppart, w_sl, w_bm, w_yes, w_eqI, w_neI, w_eqB, w_neB, QS_nx, QS_rt, QS_bk, QS_ct, QF_nx, QF_rt, QL_nx, QL_ct, QL_bk, QL_rt, wipeE, List.set_cons_succ, List.set_cons_zero, List.getElem?_cons_succ, List.getElem?_cons_zero, D.bl.injEq, D.int.injEq, exists_eq_left', exists_eq_left, w_eAnd, w_tTru, tru_bl, if_true, if_false, Bool.false_eq_true, mD]
        refine w_anyP (k := k2) (fun p => decide (p.1 = l)) (by simp only [w_seq, w_asg, w_ret, w_retN, w_drop, w_brk, w_cnt, w_nil, w_sif, w_c, w_ev, w_bin, w_un, w_anil, w_acons, w_tup, w_lst, w_call, w_tB, w_tNot, w_tAnd, w_tOr, w_eIf, w_isN, w_notN, w_gnm, w_gnils, w_gcns, w_gtp2, w_gtp3, w_gtp2p, w_ixT0, w_ixT1, w_ixT2, w_ch, w_chL, w_chK, w_par2, w_par3, w_add, w_sub, w_neg, w_lt, w_le, w_gt, w_ge, w_abs, w_int, w_intb, w_max2, w_min2, w_pno, w_ppart, w_sl, w_bm, w_yes, w_eqI, w_neI, w_eqB, w_neB, QS_nx, QS_rt, QS_bk, QS_ct, QF_nx, QF_rt, QL_nx, QL_ct, QL_bk, QL_rt, wipeE, List.set_cons_succ, List.set_cons_zero, List.getElem?_cons_succ, List.getElem?_cons_zero, D.bl.injEq, D.int.injEq, exists_eq_left', exists_eq_left, w_eAnd, w_tTru, tru_bl, if_true, if_false, Bool.false_eq_true]; exact ⟨trivial, trivial⟩) (fun p hp S2 a => ?_) (h.m k2 rfl) fun S2 a2 => ?_
        · simp only [w_seq, w_asg, w_ret, w_retN, w_drop, w_brk, w_cnt, w_nil, w_sif, w_c, w_ev, w_bin, w_un, w_anil, w_acons, w_tup, w_lst, w_call, w_tB, w_tNot, w_tAnd, w_tOr, w_eIf, w_isN, w_notN, w_gnm, w_gnils, w_gcns, w_gtp2, w_gtp3, w_gtp2p, w_ixT0, w_ixT1, w_ixT2, w_ch, w_chL, w_chK, w_par2, w_par3, w_add, w_sub, w_neg, w_lt, w_le, w_gt, w_ge, w_abs, w_int, w_intb, w_max2, w_min2, w_pno, w_ppart, w_sl, w_bm, w_yes, w_eqI, w_neI, w_eqB, w_neB, QS_nx, QS_rt, QS_bk, QS_ct, QF_nx, QF_rt, QL_nx, QL_ct, QL_bk, QL_rt, wipeE, List.set_cons_succ, List.set_cons_zero, List.getElem?_cons_succ, List.getElem?_cons_zero, D.bl.injEq, D.int.injEq, exists_eq_left', exists_eq_left, w_eAnd, w_tTru, tru_bl, if_true, if_false, Bool.false_eq_true]
          exact ⟨trivial, Ap.refl _, fun _ => ⟨trivial, Ap.refl _⟩⟩
        · simp only [tru_bl]
          show if (!hasK k2 l) = true then _ else _
          by_cases h2 : hasK k2 l = true
          · simp only [h2, Bool.not_true, Bool.false_eq_true, if_false, if_true, W_some]
            exact ⟨(by show 2 ≤ 10000000; decide), S2.length, rfl, new_at _ _, (a1.trans a2).trans (Ap.app _ _), (a1.trans a2).len⟩
          · simp only [h2, Bool.not_false, Bool.false_eq_true, if_false, if_true, W_some]
            exact ⟨(by show 1 ≤ 10000000; decide), S2.length, rfl, new_at _ _, (a1.trans a2).trans (Ap.app _ _), (a1.trans a2).len⟩
def tcK (u : Bool) (s w : Nat) (l : Int) (k : List P) : List P := if u = true then uK s w l k else if hasK k l = true then k else sortP (k ++ [(l, 0)])
def tcM (u : Bool) (s w : Nat) (l : Int) (m : Option (List P)) : Option (List P) := if u = true then m.map (aK u s w l) else m
theorem touched_ok {u : Bool} {s w : Nat} {l : Int} {k : List P} {m : Option (List P)} (hs : 0 < s) (hw : w ≤ 100) (h : Kk k m) :
    W (f_touched [tD s w u, knD k m, .int l] S) fun d S' => d = knD (tcK u s w l k) (tcM u s w l m) ∧ Ap S S' := by
  refine w_fn rfl ?_
  show W (b_touched [some (tD s w u), some (knD k m), some (.int l), none, none, none, none] S) _
  unfold b_touched
  cases u with
  | true =>
    simp only [w_seq, w_asg, w_ret, w_retN, w_drop, w_brk, w_cnt, w_nil, w_sif, w_c, w_ev, w_bin, w_un, w_anil, w_acons, w_tup, w_lst, w_call, w_tB, w_tNot, w_tAnd, w_tOr, w_eIf, w_isN, w_notN, w_gnm, w_gnils, w_gcns, w_gtp2, w_gtp3, w_gtp2p, w_ixT0, w_ixT1, w_ixT2, w_ch, w_chL, w_chK, w_par2, w_par3, w_add, w_sub, w_neg, w_lt, w_le, w_gt, w_ge, w_abs, w_int, w_intb, w_max2, w_min2, w_pno, w_ppart, w_sl, w_bm, w_yes, w_eqI, w_neI, w_eqB, w_neB, QS_nx, QS_rt, QS_bk, QS_ct, QF_nx, QF_rt, QL_nx, QL_ct, QL_bk, QL_rt, wipeE, List.set_cons_succ, List.set_cons_zero, List.getElem?_cons_succ, List.getElem?_cons_zero, D.bl.injEq, D.int.injEq, exists_eq_left', exists_eq_left, w_eAnd, w_tTru, tru_bl, if_true, if_false, Bool.false_eq_true, w_lru]
    exact used_ok hs hw h.k h.m
  | false =>
    simp only [w_seq, w_asg, w_ret, w_retN, w_drop, w_brk, w_cnt, w_nil, w_sif, w_c, w_ev, w_bin, w_un, w_anil, w_acons, w_tup, w_lst, w_call, w_tB, w_tNot, w_tAnd, w_tOr, w_eIf, w_isN, w_notN, w_gnm, w_gnils, w_gcns, w_gtp2, w_gtp3, w_gtp2p, w_ixT0, w_ixT1, w_ixT2, w_ch, w_chL, w_chK, w_par2, w_par3, w_add, w_sub, w_neg, w_lt, w_le, w_gt, w_ge, w_abs, w_int, w_intb, w_max2, w_min2, w_pno, w_ppart, w_sl, w_bm, w_yes, w_eqI, w_neI, w_eqB, w_neB, QS_nx, QS_rt, QS_bk, QS_ct, QF_nx, QF_rt, QL_nx, QL_ct, QL_bk, QL_rt, wipeE, List.set_cons_succ, List.set_cons_zero, List.getElem?_cons_succ, List.getElem?_cons_zero, D.bl.injEq, D.int.injEq, exists_eq_left', exists_eq_left, w_eAnd, w_tTru, tru_bl, if_true, if_false, Bool.false_eq_true, w_lru]
    refine w_anyP (k := k) (fun p => decide (p.1 = l)) (by simp only [w_seq, w_asg, w_ret, w_retN, w_drop, w_brk, w_cnt, w_nil, w_sif, w_c, w_ev, w_bin, w_un, w_anil, w_acons, w_tup, w_lst, w_call, w_tB, w_tNot, w_tAnd, w_tOr, w_eIf, w_isN, w_notN, w_gnm, w_gnils, w_gcns, w_gtp2, w_gtp3, w_gtp2p, w_ixT0, w_ixT1, w_ixT2, w_ch, w_chL, w_chK, w_par2, w_par3, w_add, w_sub, w_neg, w_lt, w_le, w_gt, w_ge, w_abs, w_int, w_intb, w_max2, w_min2, w_pno, w_ppart, w_sl, w_bm, w_yes, w_eqI, w_neI, w_eqB, w_neB, QS_nx, QS_rt, QS_bk, QS_ct, QF_nx, QF_rt, QL_nx, QL_ct, QL_bk, QL_rt, wipeE, List.set_cons_succ, List.set_cons_zero, List.getElem?_cons_succ, List.getElem?_cons_zero, D.bl.injEq, D.int.injEq, exists_eq_left', exists_eq_left, w_eAnd, w_tTru, tru_bl, if_true, if_false, Bool.false_eq_true]; exact ⟨trivial, trivial⟩) (fun p hp S2 a => ?_) h.k fun S1 a1 => ?_
    · simp only [w_seq, w_asg, w_ret, w_retN, w_drop, w_brk, w_cnt, w_nil, w_sif, w_c, w_ev, w_bin, w_un, w_anil, w_acons, w_tup, w_lst, w_call, w_tB, w_tNot, w_tAnd, w_tOr, w_eIf, w_isN, w_notN, w_gnm, w_gnils, w_gcns, w_gtp2, w_gtp3, w_gtp2p, w_ixT0, w_ixT1, w_ixT2, w_ch, w_chL, w_chK, w_par2, w_par3, w_add, w_sub, w_neg, w_lt, w_le, w_gt, w_ge, w_abs, w_int, w_intb, w_max2, w_min2, w_pno, w_ppart, w_sl, w_bm, w_yes, w_eqI, w_neI, w_eqB, w_neB, QS_nx, QS_rt, QS_bk, QS_ct, QF_nx, QF_rt, QL_nx, QL_ct, QL_bk, QL_rt, wipeE, List.set_cons_succ, List.set_cons_zero, List.getElem?_cons_succ, List.getElem?_cons_zero, D.bl.injEq, D.int.injEq, exists_eq_left', exists_eq_left, w_eAnd, w_tTru, tru_bl, if_true, if_false, Bool.false_eq_true]
      exact ⟨trivial, Ap.refl _, fun _ => ⟨trivial, Ap.refl _⟩⟩
    · simp only [tru_bl]
      show if hasK k l = true then _ else _
      unfold tcK tcM
      rw [if_neg Bool.false_ne_true, if_neg Bool.false_ne_true]
      by_cases h1 : hasK k l = true
      · simp only [h1, if_true]
        exact ⟨by trivial, a1⟩
      · simp only [h1, Bool.false_eq_true, if_false]
        refine ⟨(by show 2 ≤ 10000000; decide), (by show 1 ≤ 10000000; decide), ?_⟩
        rw [show [D.tup [.int l, .int 0]] = [(l, (0 : Int))].map pD from rfl, w_addT (by rw [List.length_map]; have := h.k.len; unfold cap; simp only [List.length_map, List.length_cons, List.length_nil]; omega), ← List.map_append, w_sortQT, W_some, w_tupR (getL_of (new_at _ _))]
        exact ⟨(by show 2 ≤ 10000000; decide), rfl, a1.trans (Ap.app _ _)⟩
/-! dicts of pairs -/
theorem w_inD {l : Int} {k : List P} {n : Nat} (h : S[n]? = some (.dic (k.map kvI)) ∨ S[n]? = some (.lck (k.map kvI))) : W (oIn (.int l) (.ref n) S) Q ↔ Q (.bl (lkP k l).isSome) S := by
  have e : oInB (.int l) (.ref n) S = some (lkP k l).isSome := by
    have gd : getD S n = some (k.map kvI) := by unfold getD; rcases h with h | h <;> simp [h]
    have gl : getL S n = none := by unfold getL; rcases h with h | h <;> simp [h]
    unfold oInB
    simp only [gl, gd, keyD]
    rw [valG_kvI]
    unfold lkP
    cases (k.find? fun p => decide (p.1 = l)).map (·.2) <;> simp
  unfold oIn
  rw [e]
  simp
theorem w_ninD {l : Int} {k : List P} {n : Nat} (h : S[n]? = some (.dic (k.map kvI)) ∨ S[n]? = some (.lck (k.map kvI))) : W (oNotIn (.int l) (.ref n) S) Q ↔ Q (.bl (!(lkP k l).isSome)) S := by
  have e := (w_inD (Q := fun d S' => d = .bl (lkP k l).isSome ∧ S' = S) h).mpr ⟨rfl, rfl⟩
  obtain ⟨d, S', e, rfl, rfl⟩ := e
  unfold oIn at e
  unfold oNotIn
  obtain ⟨b, e1, e2⟩ := Option.map_eq_some_iff.mp e
  rw [e1]
  cases e2
  simp
theorem w_ixD {l a : Int} {k : List P} {n : Nat} (h : S[n]? = some (.dic (k.map kvI)) ∨ S[n]? = some (.lck (k.map kvI))) (hl : lkP k l = some a) : W (oIx (.ref n) (.int l) S) Q ↔ Q (.int a) S := by
  have gd : getD S n = some (k.map kvI) := by unfold getD; rcases h with h | h <;> simp [h]
  have gl : getL S n = none := by unfold getL; rcases h with h | h <;> simp [h]
  have e : valG (k.map kvI) (.inl l) = some (.int a) := by
    rw [valG_kvI]
    unfold lkP at hl
    rw [hl]
    rfl
  unfold oIx
  simp only [gl, gd, keyD, e]
  simp
def lessK (k1 : List P) (p : P) : Bool := match lkP k1 p.1 with
  | none => true
  | some b => decide (p.2 < b)
def inM (j2 : List P) (p : P) : Bool := match lkP j2 p.1 with
  | none => false
  | some b => decide (b ≤ p.2)
def wiB (k1 : List P) (m1 : Option (List P)) (k2 : List P) (m2 : Option (List P)) : Bool := if k2.any (lessK k1) = true then false else match m2 with
  | none => true
  | some j2 => match m1 with
    | none => false
    | some j1 => j1.all (inM j2)
theorem within_ok {k1 k2 : List P} {m1 m2 : Option (List P)} (h1 : Kk k1 m1) (h2 : Kk k2 m2) :
    W (f_is_known_within [knD k1 m1, knD k2 m2] S) fun d S' => d = .bl (wiB k1 m1 k2 m2) ∧ Ap S S' := by
  refine w_fn rfl ?_
  show W (b_is_known_within [some (knD k1 m1), some (knD k2 m2), none, none, none, none] S) _
  unfold b_is_known_within
  simp only [w_seq, w_asg, w_ret, w_retN, w_drop, w_brk, w_cnt, w_nil, w_sif, w_c, w_ev, w_bin, w_un, w_anil, w_acons, w_tup, w_lst, w_call, w_tB, w_tNot, w_tAnd, w_tOr, w_eIf, w_isN, w_notN, w_gnm, w_gnils, w_gcns, w_gtp2, w_gtp3, w_gtp2p, w_ixT0, w_ixT1, w_ixT2, w_ch, w_chL, w_chK, w_par2, w_par3, w_add, w_sub, w_neg, w_lt, w_le, w_gt, w_ge, w_abs, w_int, w_intb, w_max2, w_min2, w_pno, w_ppart, w_sl, w_bm, w_yes, w_eqI, w_neI, w_eqB, w_neB, QS_nx, QS_rt, QS_bk, QS_ct, QF_nx, QF_rt, QL_nx, QL_ct, QL_bk, QL_rt, wipeE, List.set_cons_succ, List.set_cons_zero, List.getElem?_cons_succ, List.getElem?_cons_zero, D.bl.injEq, D.int.injEq, exists_eq_left', exists_eq_left, w_eAnd, w_tTru, tru_bl, if_true, if_false, Bool.false_eq_true, w_dictT h1.k.nd, W_some]
  have a0 : Ap S (S ++ [O.dic (k1.map kvI)]) := Ap.app _ _
  have g0 : (S ++ [O.dic (k1.map kvI)])[S.length]? = some (.dic (k1.map kvI)) := new_at _ _
  refine w_anyP (k := k2) (lessK k1) (by simp only [w_seq, w_asg, w_ret, w_retN, w_drop, w_brk, w_cnt, w_nil, w_sif, w_c, w_ev, w_bin, w_un, w_anil, w_acons, w_tup, w_lst, w_call, w_tB, w_tNot, w_tAnd, w_tOr, w_eIf, w_isN, w_notN, w_gnm, w_gnils, w_gcns, w_gtp2, w_gtp3, w_gtp2p, w_ixT0, w_ixT1, w_ixT2, w_ch, w_chL, w_chK, w_par2, w_par3, w_add, w_sub, w_neg, w_lt, w_le, w_gt, w_ge, w_abs, w_int, w_intb, w_max2, w_min2, w_pno, w_ppart, w_sl, w_bm, w_yes, w_eqI, w_neI, w_eqB, w_neB, QS_nx, QS_rt, QS_bk, QS_ct, QF_nx, QF_rt, QL_nx, QL_ct, QL_bk, QL_rt, wipeE, List.set_cons_succ, List.set_cons_zero, List.getElem?_cons_succ, List.getElem?_cons_zero, D.bl.injEq, D.int.injEq, exists_eq_left', exists_eq_left, w_eAnd, w_tTru, tru_bl, if_true, if_false, Bool.false_eq_true]; exact ⟨trivial, trivial⟩) (fun p hp S2 a => ?_) h2.k fun S1 a1 => ?_
  · simp only [w_seq, w_asg, w_ret, w_retN, w_drop, w_brk, w_cnt, w_nil, w_sif, w_c, w_ev, w_bin, w_un, w_anil, w_acons, w_tup, w_lst, w_call, w_tB, w_tNot, w_tAnd, w_tOr, w_eIf, w_isN, w_notN, w_gnm, w_gnils, w_gcns, w_gtp2, w_gtp3, w_gtp2p, w_ixT0, w_ixT1, w_ixT2, w_ch, w_chL, w_chK, w_par2, w_par3, w_add, w_sub, w_neg, w_lt, w_le, w_gt, w_ge, w_abs, w_int, w_intb, w_max2, w_min2, w_pno, w_ppart, w_sl, w_bm, w_yes, w_eqI, w_neI, w_eqB, w_neB, QS_nx, QS_rt, QS_bk, QS_ct, QF_nx, QF_rt, QL_nx, QL_ct, QL_bk, QL_rt, wipeE, List.set_cons_succ, List.set_cons_zero, List.getElem?_cons_succ, List.getElem?_cons_zero, D.bl.injEq, D.int.injEq, exists_eq_left', exists_eq_left, w_eAnd, w_tTru, tru_bl, if_true, if_false, Bool.false_eq_true, w_eOr]
    refine ⟨trivial, Ap.refl _, fun _ => ?_⟩
    rw [w_ninD (k := k1) (.inl (a _ _ g0))]
    simp only [tru_bl]
    cases e : lkP k1 p.1 with
    | none => exact ⟨by unfold lessK; rw [e]; rfl, Ap.refl _⟩
    | some b =>
      simp only [Option.isSome_some, Bool.not_true, Bool.false_eq_true, if_false]
      rw [w_ixD (k := k1) (.inl (a _ _ g0)) e]
      simp only [w_seq, w_asg, w_ret, w_retN, w_drop, w_brk, w_cnt, w_nil, w_sif, w_c, w_ev, w_bin, w_un, w_anil, w_acons, w_tup, w_lst, w_call, w_tB, w_tNot, w_tAnd, w_tOr, w_eIf, w_isN, w_notN, w_gnm, w_gnils, w_gcns, w_gtp2, w_gtp3, w_gtp2p, w_ixT0, w_ixT1, w_ixT2, w_ch, w_chL, w_chK, w_par2, w_par3, w_add, w_sub, w_neg, w_lt, w_le, w_gt, w_ge, w_abs, w_int, w_intb, w_max2, w_min2, w_pno, w_ppart, w_sl, w_bm, w_yes, w_eqI, w_neI, w_eqB, w_neB, QS_nx, QS_rt, QS_bk, QS_ct, QF_nx, QF_rt, QL_nx, QL_ct, QL_bk, QL_rt, wipeE, List.set_cons_succ, List.set_cons_zero, List.getElem?_cons_succ, List.getElem?_cons_zero, D.bl.injEq, D.int.injEq, exists_eq_left', exists_eq_left, w_eAnd, w_tTru, tru_bl, if_true, if_false, Bool.false_eq_true]
      exact ⟨by unfold lessK; rw [e], Ap.refl _⟩
  · simp only [tru_bl]
    unfold wiB
    by_cases h : k2.any (lessK k1) = true
    · simp only [h, if_true]
      exact ⟨trivial, a0.trans a1⟩
    · simp only [h, Bool.false_eq_true, if_false]
      cases m2 with
      | none =>
        simp only [mD, if_true]
        exact ⟨trivial, a0.trans a1⟩
      | some j2 =>
        cases m1 with
        | none =>
          simp only [mD, if_true, Bool.false_eq_true, if_false]
          exact ⟨trivial, a0.trans a1⟩
        | some j1 =>
          simp only [mD, Bool.false_eq_true, if_false, w_dictT (h2.m j2 rfl).nd, W_some]
          have g2 : (S1 ++ [O.dic (j2.map kvI)])[S1.length]? = some (.dic (j2.map kvI)) := new_at _ _
          refine w_allP (k := j1) (inM j2) (by simp only [w_seq, w_asg, w_ret, w_retN, w_drop, w_brk, w_cnt, w_nil, w_sif, w_c, w_ev, w_bin, w_un, w_anil, w_acons, w_tup, w_lst, w_call, w_tB, w_tNot, w_tAnd, w_tOr, w_eIf, w_isN, w_notN, w_gnm, w_gnils, w_gcns, w_gtp2, w_gtp3, w_gtp2p, w_ixT0, w_ixT1, w_ixT2, w_ch, w_chL, w_chK, w_par2, w_par3, w_add, w_sub, w_neg, w_lt, w_le, w_gt, w_ge, w_abs, w_int, w_intb, w_max2, w_min2, w_pno, w_ppart, w_sl, w_bm, w_yes, w_eqI, w_neI, w_eqB, w_neB, QS_nx, QS_rt, QS_bk, QS_ct, QF_nx, QF_rt, QL_nx, QL_ct, QL_bk, QL_rt, wipeE, List.set_cons_succ, List.set_cons_zero, List.getElem?_cons_succ, List.getElem?_cons_zero, D.bl.injEq, D.int.injEq, exists_eq_left', exists_eq_left, w_eAnd, w_tTru, tru_bl, if_true, if_false, Bool.false_eq_true]; exact ⟨by trivial, by trivial⟩) (fun p hp S2 a => ?_) (h1.m j1 rfl) fun S3 a3 => ⟨rfl, (a0.trans a1).trans ((Ap.app _ _).trans a3)⟩
          simp only [w_seq, w_asg, w_ret, w_retN, w_drop, w_brk, w_cnt, w_nil, w_sif, w_c, w_ev, w_bin, w_un, w_anil, w_acons, w_tup, w_lst, w_call, w_tB, w_tNot, w_tAnd, w_tOr, w_eIf, w_isN, w_notN, w_gnm, w_gnils, w_gcns, w_gtp2, w_gtp3, w_gtp2p, w_ixT0, w_ixT1, w_ixT2, w_ch, w_chL, w_chK, w_par2, w_par3, w_add, w_sub, w_neg, w_lt, w_le, w_gt, w_ge, w_abs, w_int, w_intb, w_max2, w_min2, w_pno, w_ppart, w_sl, w_bm, w_yes, w_eqI, w_neI, w_eqB, w_neB, QS_nx, QS_rt, QS_bk, QS_ct, QF_nx, QF_rt, QL_nx, QL_ct, QL_bk, QL_rt, wipeE, List.set_cons_succ, List.set_cons_zero, List.getElem?_cons_succ, List.getElem?_cons_zero, D.bl.injEq, D.int.injEq, exists_eq_left', exists_eq_left, w_eAnd, w_tTru, tru_bl, if_true, if_false, Bool.false_eq_true]
          refine ⟨trivial, Ap.refl _, fun _ => ?_⟩
          rw [w_inD (k := j2) (.inl (a _ _ g2))]
          simp only [tru_bl]
          cases e : lkP j2 p.1 with
          | none => exact ⟨by unfold inM; rw [e]; rfl, Ap.refl _⟩
          | some b =>
            simp only [Option.isSome_some, if_true]
            rw [w_ixD (k := j2) (.inl (a _ _ g2)) e]
            simp only [w_seq, w_asg, w_ret, w_retN, w_drop, w_brk, w_cnt, w_nil, w_sif, w_c, w_ev, w_bin, w_un, w_anil, w_acons, w_tup, w_lst, w_call, w_tB, w_tNot, w_tAnd, w_tOr, w_eIf, w_isN, w_notN, w_gnm, w_gnils, w_gcns, w_gtp2, w_gtp3, w_gtp2p, w_ixT0, w_ixT1, w_ixT2, w_ch, w_chL, w_chK, w_par2, w_par3, w_add, w_sub, w_neg, w_lt, w_le, w_gt, w_ge, w_abs, w_int, w_intb, w_max2, w_min2, w_pno, w_ppart, w_sl, w_bm, w_yes, w_eqI, w_neI, w_eqB, w_neB, QS_nx, QS_rt, QS_bk, QS_ct, QF_nx, QF_rt, QL_nx, QL_ct, QL_bk, QL_rt, wipeE, List.set_cons_succ, List.set_cons_zero, List.getElem?_cons_succ, List.getElem?_cons_zero, D.bl.injEq, D.int.injEq, exists_eq_left', exists_eq_left, w_eAnd, w_tTru, tru_bl, if_true, if_false, Bool.false_eq_true]
            exact ⟨by unfold inM; rw [e], Ap.refl _⟩
end
end K50
/-! K50d: parts, names, what is known of two. -/
namespace K50
open PySem L2 FL M51
section
variable {S : Sto} {Q : D → Sto → Prop}
def ptK (s : Nat) (i : Int) (k : List P) : List P := (k.filter fun p => decide (p.1 % (s : Int) = i)).map fun p => (p.1 / (s : Int), p.2)
theorem part_ok {s : Nat} {i : Int} {k : List P} {m : Option (List P)} (hs : 0 < s) (hs2 : s ≤ 1000) (h : Kk k m) :
    W (f__law_part_of [knD k m, .int s, .int i] S) fun d S' => d = knD (ptK s i k) (m.map (ptK s i)) ∧ Ap S S' := by
  have hs' : 0 < (s : Int) := by omega
  have hs3 : (s : Int) < 18446744073709551616 := by omega
  refine w_fn rfl ?_
  show W (b__law_part_of [some (knD k m), some (.int s), some (.int i), none, none, none] S) _
  unfold b__law_part_of
  simp only [w_seq, w_asg, w_ret, w_retN, w_drop, w_brk, w_cnt, w_nil, w_sif, w_c, w_ev, w_bin, w_un, w_anil, w_acons, w_tup, w_lst, w_call, w_tB, w_tNot, w_tAnd, w_tOr, w_eIf, w_isN, w_notN, w_gnm, w_gnils, w_gcns, w_gtp2, w_gtp3, w_gtp2p, w_ixT0, w_ixT1, w_ixT2, w_ch, w_chL, w_chK, w_par2, w_par3, w_add, w_sub, w_neg, w_lt, w_le, w_gt, w_ge, w_abs, w_int, w_intb, w_max2, w_min2, w_pno, w_ppart, w_sl, w_bm, w_yes, w_eqI, w_neI, w_eqB, w_neB, QS_nx, QS_rt, QS_bk, QS_ct, QF_nx, QF_rt, QL_nx, QL_ct, QL_bk, QL_rt, wipeE, List.set_cons_succ, List.set_cons_zero, List.getElem?_cons_succ, List.getElem?_cons_zero, D.bl.injEq, D.int.injEq, exists_eq_left', exists_eq_left, w_eAnd, w_tTru, tru_bl, if_true, if_false, Bool.false_eq_true]
  have fm : ∀ k : List P, (k.filter fun p => decide (p.1 % (s : Int) = i)).map (fun p => pD (p.1 / (s : Int), p.2)) = (ptK s i k).map pD := fun k => by
    unfold ptK
    rw [List.map_map]
    rfl
  refine w_lcP (k := k) (fun p => decide (p.1 % (s : Int) = i)) (fun p => pD (p.1 / (s : Int), p.2)) ?_ ?_ h.k fun n1 S1 a1 hl1 g1 => ?_
  · simp only [w_seq, w_asg, w_ret, w_retN, w_drop, w_brk, w_cnt, w_nil, w_sif, w_c, w_ev, w_bin, w_un, w_anil, w_acons, w_tup, w_lst, w_call, w_tB, w_tNot, w_tAnd, w_tOr, w_eIf, w_isN, w_notN, w_gnm, w_gnils, w_gcns, w_gtp2, w_gtp3, w_gtp2p, w_ixT0, w_ixT1, w_ixT2, w_ch, w_chL, w_chK, w_par2, w_par3, w_add, w_sub, w_neg, w_lt, w_le, w_gt, w_ge, w_abs, w_int, w_intb, w_max2, w_min2, w_pno, w_ppart, w_sl, w_bm, w_yes, w_eqI, w_neI, w_eqB, w_neB, QS_nx, QS_rt, QS_bk, QS_ct, QF_nx, QF_rt, QL_nx, QL_ct, QL_bk, QL_rt, wipeE, List.set_cons_succ, List.set_cons_zero, List.getElem?_cons_succ, List.getElem?_cons_zero, D.bl.injEq, D.int.injEq, exists_eq_left', exists_eq_left, w_eAnd, w_tTru, tru_bl, if_true, if_false, Bool.false_eq_true]
    exact ⟨by trivial, by trivial⟩
  · intro p hp S2 a
    simp only [w_seq, w_asg, w_ret, w_retN, w_drop, w_brk, w_cnt, w_nil, w_sif, w_c, w_ev, w_bin, w_un, w_anil, w_acons, w_tup, w_lst, w_call, w_tB, w_tNot, w_tAnd, w_tOr, w_eIf, w_isN, w_notN, w_gnm, w_gnils, w_gcns, w_gtp2, w_gtp3, w_gtp2p, w_ixT0, w_ixT1, w_ixT2, w_ch, w_chL, w_chK, w_par2, w_par3, w_add, w_sub, w_neg, w_lt, w_le, w_gt, w_ge, w_abs, w_int, w_intb, w_max2, w_min2, w_pno, w_ppart, w_sl, w_bm, w_yes, w_eqI, w_neI, w_eqB, w_neB, QS_nx, QS_rt, QS_bk, QS_ct, QF_nx, QF_rt, QL_nx, QL_ct, QL_bk, QL_rt, wipeE, List.set_cons_succ, List.set_cons_zero, List.getElem?_cons_succ, List.getElem?_cons_zero, D.bl.injEq, D.int.injEq, exists_eq_left', exists_eq_left, w_eAnd, w_tTru, tru_bl, if_true, if_false, Bool.false_eq_true, w_mod hs', w_div hs' hs3]
    exact ⟨by trivial, Ap.refl _, fun _ => ⟨(by show 2 ≤ 10000000; decide), by trivial, Ap.refl _⟩⟩
  · rw [fm] at g1
    rw [w_tupR (getL_of g1)]
    cases m with
    | none =>
      simp only [mD, if_true]
      exact ⟨(by show 2 ≤ 10000000; decide), rfl, a1⟩
    | some k2 =>
      simp only [mD, Bool.false_eq_true, if_false]
      refine w_lcP (k := k2) (fun p => decide (p.1 % (s : Int) = i)) (fun p => pD (p.1 / (s : Int), p.2)) ?_ ?_ (h.m k2 rfl) fun n2 S2 a2 hl2 g2 => ?_
      · simp only [w_seq, w_asg, w_ret, w_retN, w_drop, w_brk, w_cnt, w_nil, w_sif, w_c, w_ev, w_bin, w_un, w_anil, w_acons, w_tup, w_lst, w_call, w_tB, w_tNot, w_tAnd, w_tOr, w_eIf, w_isN, w_notN, w_gnm, w_gnils, w_gcns, w_gtp2, w_gtp3, w_gtp2p, w_ixT0, w_ixT1, w_ixT2, w_ch, w_chL, w_chK, w_par2, w_par3, w_add, w_sub, w_neg, w_lt, w_le, w_gt, w_ge, w_abs, w_int, w_intb, w_max2, w_min2, w_pno, w_ppart, w_sl, w_bm, w_yes, w_eqI, w_neI, w_eqB, w_neB, QS_nx, QS_rt, QS_bk, QS_ct, QF_nx, QF_rt, QL_nx, QL_ct, QL_bk, QL_rt, wipeE, List.set_cons_succ, List.set_cons_zero, List.getElem?_cons_succ, List.getElem?_cons_zero, D.bl.injEq, D.int.injEq, exists_eq_left', exists_eq_left, w_eAnd, w_tTru, tru_bl, if_true, if_false, Bool.false_eq_true, mD]
        exact ⟨by trivial, by trivial⟩
      · intro p hp S2 a
        simp only [w_seq, w_asg, w_ret, w_retN, w_drop, w_brk, w_cnt, w_nil, w_sif, w_c, w_ev, w_bin, w_un, w_anil, w_acons, w_tup, w_lst, w_call, w_tB, w_tNot, w_tAnd, w_tOr, w_eIf, w_isN, w_notN, w_gnm, w_gnils, w_gcns, w_gtp2, w_gtp3, w_gtp2p, w_ixT0, w_ixT1, w_ixT2, w_ch, w_chL, w_chK, w_par2, w_par3, w_add, w_sub, w_neg, w_lt, w_le, w_gt, w_ge, w_abs, w_int, w_intb, w_max2, w_min2, w_pno, w_ppart, w_sl, w_bm, w_yes, w_eqI, w_neI, w_eqB, w_neB, QS_nx, QS_rt, QS_bk, QS_ct, QF_nx, QF_rt, QL_nx, QL_ct, QL_bk, QL_rt, wipeE, List.set_cons_succ, List.set_cons_zero, List.getElem?_cons_succ, List.getElem?_cons_zero, D.bl.injEq, D.int.injEq, exists_eq_left', exists_eq_left, w_eAnd, w_tTru, tru_bl, if_true, if_false, Bool.false_eq_true, w_mod hs', w_div hs' hs3]
        exact ⟨by trivial, Ap.refl _, fun _ => ⟨(by show 2 ≤ 10000000; decide), by trivial, Ap.refl _⟩⟩
      · rw [fm] at g2
        rw [w_tupR (getL_of g2)]
        exact ⟨(by show 2 ≤ 10000000; decide), rfl, a1.trans a2⟩
def nmK (f : Int → Int) (k : List P) : List P := sortP (k.map fun p => (f p.1, p.2))
theorem named_ok {f : Int → Int} {nms : List P} {nd : Nat} {k : List P} {m : Option (List P)} (h : Kk k m) (g : S[nd]? = some (.dic (nms.map kvI))) (hk : ∀ p ∈ k, lkP nms p.1 = some (f p.1)) (hm : ∀ k2, m = some k2 → ∀ p ∈ k2, lkP nms p.1 = some (f p.1)) :
    W (f__law_named [knD k m, .ref nd] S) fun d S' => d = knD (nmK f k) (m.map (nmK f)) ∧ Ap S S' := by
  refine w_fn rfl ?_
  show W (b__law_named [some (knD k m), some (.ref nd), none, none] S) _
  unfold b__law_named
  simp only [w_seq, w_asg, w_ret, w_retN, w_drop, w_brk, w_cnt, w_nil, w_sif, w_c, w_ev, w_bin, w_un, w_anil, w_acons, w_tup, w_lst, w_call, w_tB, w_tNot, w_tAnd, w_tOr, w_eIf, w_isN, w_notN, w_gnm, w_gnils, w_gcns, w_gtp2, w_gtp3, w_gtp2p, w_ixT0, w_ixT1, w_ixT2, w_ch, w_chL, w_chK, w_par2, w_par3, w_add, w_sub, w_neg, w_lt, w_le, w_gt, w_ge, w_abs, w_int, w_intb, w_max2, w_min2, w_pno, w_ppart, w_sl, w_bm, w_yes, w_eqI, w_neI, w_eqB, w_neB, QS_nx, QS_rt, QS_bk, QS_ct, QF_nx, QF_rt, QL_nx, QL_ct, QL_bk, QL_rt, wipeE, List.set_cons_succ, List.set_cons_zero, List.getElem?_cons_succ, List.getElem?_cons_zero, D.bl.injEq, D.int.injEq, exists_eq_left', exists_eq_left, w_eAnd, w_tTru, tru_bl, if_true, if_false, Bool.false_eq_true]
  have fm : ∀ k : List P, (k.filter fun _ => true).map (fun p => pD (f p.1, p.2)) = (k.map fun p => (f p.1, p.2)).map pD := fun k => by
    rw [filterT, List.map_map]
    rfl
  refine w_lcP (k := k) (fun _ => true) (fun p => pD (f p.1, p.2)) ?_ ?_ h.k fun n1 S1 a1 hl1 g1 => ?_
  · simp only [w_seq, w_asg, w_ret, w_retN, w_drop, w_brk, w_cnt, w_nil, w_sif, w_c, w_ev, w_bin, w_un, w_anil, w_acons, w_tup, w_lst, w_call, w_tB, w_tNot, w_tAnd, w_tOr, w_eIf, w_isN, w_notN, w_gnm, w_gnils, w_gcns, w_gtp2, w_gtp3, w_gtp2p, w_ixT0, w_ixT1, w_ixT2, w_ch, w_chL, w_chK, w_par2, w_par3, w_add, w_sub, w_neg, w_lt, w_le, w_gt, w_ge, w_abs, w_int, w_intb, w_max2, w_min2, w_pno, w_ppart, w_sl, w_bm, w_yes, w_eqI, w_neI, w_eqB, w_neB, QS_nx, QS_rt, QS_bk, QS_ct, QF_nx, QF_rt, QL_nx, QL_ct, QL_bk, QL_rt, wipeE, List.set_cons_succ, List.set_cons_zero, List.getElem?_cons_succ, List.getElem?_cons_zero, D.bl.injEq, D.int.injEq, exists_eq_left', exists_eq_left, w_eAnd, w_tTru, tru_bl, if_true, if_false, Bool.false_eq_true]
    exact ⟨by trivial, by trivial⟩
  · intro p hp S2 a
    simp only [w_seq, w_asg, w_ret, w_retN, w_drop, w_brk, w_cnt, w_nil, w_sif, w_c, w_ev, w_bin, w_un, w_anil, w_acons, w_tup, w_lst, w_call, w_tB, w_tNot, w_tAnd, w_tOr, w_eIf, w_isN, w_notN, w_gnm, w_gnils, w_gcns, w_gtp2, w_gtp3, w_gtp2p, w_ixT0, w_ixT1, w_ixT2, w_ch, w_chL, w_chK, w_par2, w_par3, w_add, w_sub, w_neg, w_lt, w_le, w_gt, w_ge, w_abs, w_int, w_intb, w_max2, w_min2, w_pno, w_ppart, w_sl, w_bm, w_yes, w_eqI, w_neI, w_eqB, w_neB, QS_nx, QS_rt, QS_bk, QS_ct, QF_nx, QF_rt, QL_nx, QL_ct, QL_bk, QL_rt, wipeE, List.set_cons_succ, List.set_cons_zero, List.getElem?_cons_succ, List.getElem?_cons_zero, D.bl.injEq, D.int.injEq, exists_eq_left', exists_eq_left, w_eAnd, w_tTru, tru_bl, if_true, if_false, Bool.false_eq_true]
    rw [w_ixD (.inl (a _ _ g)) (hk p hp)]
    exact ⟨by trivial, Ap.refl _, fun _ => ⟨(by show 2 ≤ 10000000; decide), by trivial, Ap.refl _⟩⟩
  · rw [fm] at g1
    rw [w_sortQ (getL_of g1), W_some, w_tupR (getL_of (new_at _ _))]
    cases m with
    | none =>
      simp only [mD, if_true]
      exact ⟨(by show 2 ≤ 10000000; decide), rfl, a1.trans (Ap.app _ _)⟩
    | some k2 =>
      simp only [mD, Bool.false_eq_true, if_false]
      refine w_lcP (k := k2) (fun _ => true) (fun p => pD (f p.1, p.2)) ?_ ?_ (h.m k2 rfl) fun n2 S2 a2 hl2 g2 => ?_
      · simp only [w_seq, w_asg, w_ret, w_retN, w_drop, w_brk, w_cnt, w_nil, w_sif, w_c, w_ev, w_bin, w_un, w_anil, w_acons, w_tup, w_lst, w_call, w_tB, w_tNot, w_tAnd, w_tOr, w_eIf, w_isN, w_notN, w_gnm, w_gnils, w_gcns, w_gtp2, w_gtp3, w_gtp2p, w_ixT0, w_ixT1, w_ixT2, w_ch, w_chL, w_chK, w_par2, w_par3, w_add, w_sub, w_neg, w_lt, w_le, w_gt, w_ge, w_abs, w_int, w_intb, w_max2, w_min2, w_pno, w_ppart, w_sl, w_bm, w_yes, w_eqI, w_neI, w_eqB, w_neB, QS_nx, QS_rt, QS_bk, QS_ct, QF_nx, QF_rt, QL_nx, QL_ct, QL_bk, QL_rt, wipeE, List.set_cons_succ, List.set_cons_zero, List.getElem?_cons_succ, List.getElem?_cons_zero, D.bl.injEq, D.int.injEq, exists_eq_left', exists_eq_left, w_eAnd, w_tTru, tru_bl, if_true, if_false, Bool.false_eq_true, mD]
        exact ⟨by trivial, by trivial⟩
      · intro p hp S2 a
        simp only [w_seq, w_asg, w_ret, w_retN, w_drop, w_brk, w_cnt, w_nil, w_sif, w_c, w_ev, w_bin, w_un, w_anil, w_acons, w_tup, w_lst, w_call, w_tB, w_tNot, w_tAnd, w_tOr, w_eIf, w_isN, w_notN, w_gnm, w_gnils, w_gcns, w_gtp2, w_gtp3, w_gtp2p, w_ixT0, w_ixT1, w_ixT2, w_ch, w_chL, w_chK, w_par2, w_par3, w_add, w_sub, w_neg, w_lt, w_le, w_gt, w_ge, w_abs, w_int, w_intb, w_max2, w_min2, w_pno, w_ppart, w_sl, w_bm, w_yes, w_eqI, w_neI, w_eqB, w_neB, QS_nx, QS_rt, QS_bk, QS_ct, QF_nx, QF_rt, QL_nx, QL_ct, QL_bk, QL_rt, wipeE, List.set_cons_succ, List.set_cons_zero, List.getElem?_cons_succ, List.getElem?_cons_zero, D.bl.injEq, D.int.injEq, exists_eq_left', exists_eq_left, w_eAnd, w_tTru, tru_bl, if_true, if_false, Bool.false_eq_true]
        rw [w_ixD (.inl (a _ _ (Ap.app _ _ _ _ (a1 _ _ g)))) (hm k2 rfl p hp)]
        exact ⟨by trivial, Ap.refl _, fun _ => ⟨(by show 2 ≤ 10000000; decide), by trivial, Ap.refl _⟩⟩
      · rw [fm] at g2
        rw [w_sortQ (getL_of g2), W_some, w_tupR (getL_of (new_at _ _))]
        exact ⟨(by show 2 ≤ 10000000; decide), rfl, (a1.trans (Ap.app _ _)).trans (a2.trans (Ap.app _ _))⟩
/-! ### what is known of two -/
theorem w_lkS {i n : Nat} {s : FS} {env : FL.Env} {kvs : List (Key × D)} {QO : Out → Sto → Prop} (he : env[i]? = some (some (.ref n))) (h : S[n]? = some (.dic kvs)) (hq : W (s env (S.set n (.lck kvs))) fun o S2 => S2[n]? = some (.lck kvs) ∧ QO o (S2.set n (.dic kvs))) : W (lkS (eVar i) s env S) QO := by
  have e : eVar i env S = some (.ref n, S) := by unfold eVar; simp [he]
  unfold lkS
  rw [e]
  simp only [h]
  obtain ⟨o, S2, e2, g, q⟩ := hq
  refine ⟨o, S2.set n (.dic kvs), ?_, q⟩
  rw [e2]
  simp [th, g]
/-- a dict comprehension: keys that are new -/
theorem w_dcP {fi : FI} {g : FG} {tt : FT} {tk tv : FE} {vs : List Nat} {env : FL.Env} {ds : List D} (F : Nat → Option P)
    (hi : W (fi env S) fun it S1 => Ap S S1 ∧ ds.length ≤ it.len ∧ ∀ S2, Ap S1 S2 → ∀ i, it.it S2 i = some ds[i]?)
    (hb : ∀ i d, ds[i]? = some d → ∀ S2, Ap S S2 → W (g d (wipeE env vs) S2) fun e1 S3 => W (tt e1 S3) fun b S4 => b = (F i).isSome ∧ Ap S2 S4 ∧ (∀ p, F i = some p → W (tk e1 S4) fun y S5 => y = .int p.1 ∧ Ap S4 S5 ∧ W (tv e1 S5) fun z S6 => z = .int p.2 ∧ Ap S5 S6))
    (nd : (((List.range ds.length).filterMap F).map (·.1)).Nodup) (hl : ds.length ≤ 1000)
    (hq : ∀ n S', Ap S S' → S.length ≤ n → S'[n]? = some (.dic (((List.range ds.length).filterMap F).map kvI)) → Q (.ref n) S') : W (eDc fi g tt tk tv vs env S) Q := by
  unfold eDc
  rw [W_th]
  obtain ⟨it, S1, e, a1, hlen, hit⟩ := hi
  refine ⟨it, S1, e, ?_⟩
  have key : ∀ (m i : Nat) (S' : Sto), ds.length < i + m → i ≤ ds.length → Ap S1 S' → S'[S1.length]? = some (.dic (((List.range i).filterMap F).map kvI)) →
      ∃ S2, dcI it g tt tk tv S1.length (wipeE env vs) m i S' = some S2 ∧ Ap S1 S2 ∧ S2[S1.length]? = some (.dic (((List.range ds.length).filterMap F).map kvI)) := by
    intro m
    induction m with
    | zero => intro i S' h1 h2; omega
    | succ m ih =>
      intro i S' h1 h2 a hn
      unfold dcI
      rw [hit S' a i]
      by_cases hz : i < ds.length
      · rw [List.getElem?_eq_getElem hz]
        obtain ⟨e1, S3, q1, b, S4, q2, rfl, a4, h⟩ := hb i _ (List.getElem?_eq_getElem hz) S' (a1.trans a)
        simp only [q1, th_some, q2]
        have rs : (List.range (i + 1)).filterMap F = (List.range i).filterMap F ++ (F i).toList := by
          rw [List.range_succ, List.filterMap_append]
          cases e : F i <;> simp [e]
        cases e : F i with
        | none =>
          simp only [Option.isSome_none, Bool.false_eq_true, if_false]
          refine ih (i + 1) S4 (by omega) (by omega) (a.trans a4) ?_
          rw [rs, e]
          simpa using a4 _ _ hn
        | some p =>
          simp only [Option.isSome_some, if_true]
          obtain ⟨y, S5, q3, rfl, a5, z, S6, q4, rfl, a6⟩ := h p e
          have hn6 := a6 _ _ (a5 _ _ (a4 _ _ hn))
          have ll : ((List.range i).filterMap F).length < cap := by
            have := List.length_filterMap_le F (List.range i)
            rw [List.length_range] at this
            unfold cap
            omega
          have nw : p.1 ∉ ((List.range i).filterMap F).map (·.1) := by
            have sub : List.Sublist ((List.range (i + 1)).filterMap F) ((List.range ds.length).filterMap F) := by
              refine List.Sublist.filterMap _ ?_
              have e2 : List.range (i + 1) = (List.range ds.length).take (i + 1) := by rw [List.take_range, Nat.min_eq_left (by omega)]
              rw [e2]
              exact List.take_sublist _ _
            have nd2 := nd.sublist (sub.map (·.1))
            rw [rs, e, List.map_append, List.nodup_append] at nd2
            intro z
            exact nd2.2.2 _ z p.1 (by simp) rfl
          simp only [q3, th_some, q4, hn6, keyD, List.length_map, ll, if_true]
          rw [putG_kvI nw]
          refine ih (i + 1) _ (by omega) (by omega) ((a.trans (a4.trans (a5.trans a6))).set (Nat.le_refl _)) ?_
          rw [set_at hn6, rs, e]
          rfl
      · have e : i = ds.length := by omega
        subst e
        rw [List.getElem?_eq_none (Nat.le_refl _)]
        exact ⟨S', rfl, a, hn⟩
  obtain ⟨S2, r1, r2, r3⟩ := key (it.len + 1) 0 (S1 ++ [.dic []]) (by omega) (Nat.zero_le _) (Ap.app _ _) (new_at _ _)
  have := hq _ _ (a1.trans r2) a1.len r3
  simp only []
  rw [r1]
  simpa using this
/-- d[x] = a, on pairs -/
def putP (k : List P) (x a : Int) : List P := if x ∈ k.map (·.1) then k.map fun p => if p.1 = x then (p.1, a) else p else k ++ [(x, a)]
theorem putG_putP {k : List P} {x a : Int} : putG (k.map kvI) (.inl x) (.int a) = (putP k x a).map kvI := by
  unfold putP
  by_cases h : x ∈ k.map (·.1)
  · rw [if_pos h]
    unfold putG
    have : (k.map kvI).any (fun kv => decide (kv.1 = (.inl x : Key))) = true := by
      obtain ⟨p, hp, e⟩ := List.mem_map.mp h
      rw [List.any_eq_true]
      exact ⟨kvI p, List.mem_map.mpr ⟨p, hp, rfl⟩, decide_eq_true (by show (Sum.inl p.1 : Key) = _; rw [e])⟩
    rw [if_pos this, List.map_map, List.map_map]
    refine List.map_congr_left fun p _ => ?_
    show (if (kvI p).1 = (.inl x : Key) then _ else _) = kvI (if p.1 = x then (p.1, a) else p)
    by_cases e : p.1 = x
    · rw [if_pos e, if_pos (by show (Sum.inl p.1 : Key) = _; rw [e])]
      rfl
    · rw [if_neg e, if_neg fun z => e (by injection z)]
  · rw [if_neg h, putG_kvI h]
theorem w_setP {fo fi : FE} {n : Nat} {k : List P} {x a : Int} {env : FL.Env} {QE : FL.Env → Sto → Prop} (h1 : fo env S = some (.ref n, S)) (h2 : fi env S = some (.int x, S)) (h : S[n]? = some (.dic (k.map kvI))) (hz : k.length < cap) :
    W (gIx fo fi (.int a) env S) QE ↔ QE env (S.set n (.dic ((putP k x a).map kvI))) := by
  unfold gIx
  simp [h1, h2, h, keyD, hz, th, putG_putP]
def jnF (k2 : List P) (p : P) : Option P := (lkP k2 p.1).map fun b => (p.1, if b > p.2 then b else p.2)
def jnK (k1 k2 : List P) : List P := sortP (k1.filterMap (jnF k2))
def jnS (acc : List P) (p : P) : List P := putP acc p.1 (if (lkP acc p.1).getD p.2 < p.2 then (lkP acc p.1).getD p.2 else p.2)
def jnM (j1 j2 : List P) : List P := sortP (j2.foldl jnS j1)
def jnO : Option (List P) → Option (List P) → Option (List P)
  | some j1, some j2 => some (jnM j1 j2)
  | _, _ => none
theorem putP_len (k : List P) (x a : Int) : (putP k x a).length ≤ k.length + 1 := by
  unfold putP
  split <;> simp
theorem joined_ok {k1 k2 : List P} {m1 m2 : Option (List P)} (h1 : Kk k1 m1) (h2 : Kk k2 m2) :
    W (f_joined_known [knD k1 m1, knD k2 m2] S) fun d S' => d = knD (jnK k1 k2) (jnO m1 m2) ∧ Ap S S' := by
  refine w_fn rfl ?_
  show W (b_joined_known [some (knD k1 m1), some (knD k2 m2), none, none, none, none, none, none] S) _
  unfold b_joined_known
  rw [w_seq]
  simp only [w_asg, w_tup, w_acons, w_call, w_bin, w_anil, w_ev, List.getElem?_cons_zero, List.getElem?_cons_succ, w_c, w_ixT0, w_dictT h1.k.nd, w_dictT h2.k.nd, W_some]
  refine ⟨(by show 2 ≤ 10000000; decide), ?_⟩
  simp only [w_seq, w_asg, w_ret, w_retN, w_drop, w_brk, w_cnt, w_nil, w_sif, w_c, w_ev, w_bin, w_un, w_anil, w_acons, w_tup, w_lst, w_call, w_tB, w_tNot, w_tAnd, w_tOr, w_eIf, w_isN, w_notN, w_gnm, w_gnils, w_gcns, w_gtp2, w_gtp3, w_gtp2p, w_ixT0, w_ixT1, w_ixT2, w_ch, w_chL, w_chK, w_par2, w_par3, w_add, w_sub, w_neg, w_lt, w_le, w_gt, w_ge, w_abs, w_int, w_intb, w_max2, w_min2, w_pno, w_ppart, w_sl, w_bm, w_yes, w_eqI, w_neI, w_eqB, w_neB, QS_nx, QS_rt, QS_bk, QS_ct, QF_nx, QF_rt, QL_nx, QL_ct, QL_bk, QL_rt, wipeE, List.set_cons_succ, List.set_cons_zero, List.getElem?_cons_succ, List.getElem?_cons_zero, D.bl.injEq, D.int.injEq, exists_eq_left', exists_eq_left, w_eAnd, w_tTru, tru_bl, if_true, if_false, Bool.false_eq_true]
  have a1 : Ap S ((S ++ [O.dic (k1.map kvI)]) ++ [O.dic (k2.map kvI)]) := (Ap.app _ _).trans (Ap.app _ _)
  have g1 : ((S ++ [O.dic (k1.map kvI)]) ++ [O.dic (k2.map kvI)])[S.length]? = some (.dic (k1.map kvI)) := Ap.app _ _ _ _ (new_at _ _)
  have g2 : ((S ++ [O.dic (k1.map kvI)]) ++ [O.dic (k2.map kvI)])[(S ++ [O.dic (k1.map kvI)]).length]? = some (.dic (k2.map kvI)) := new_at _ _
  have l12 : S.length ≠ (S ++ [O.dic (k1.map kvI)]).length := by rw [List.length_append]; simp
  have l1 : S.length < ((S ++ [O.dic (k1.map kvI)]) ++ [O.dic (k2.map kvI)]).length := lt_of_at g1
  revert a1 g1 g2 l12 l1
  generalize (S ++ [O.dic (k1.map kvI)]).length = n2
  generalize (S ++ [O.dic (k1.map kvI)]) ++ [O.dic (k2.map kvI)] = S1
  intro a1 g1 g2 l12 l1
  refine w_lkS rfl g1 ?_
  have q1 : (S1.set S.length (.lck (k1.map kvI)))[S.length]? = some (.lck (k1.map kvI)) := set_at g1
  have q2 : (S1.set S.length (.lck (k1.map kvI)))[n2]? = some (.dic (k2.map kvI)) := by rw [List.getElem?_set_ne l12]; exact g2
  have q3 : (S1.set S.length (.lck (k1.map kvI))).length = S1.length := List.length_set
  have a2 : ∀ S3, Ap (S1.set S.length (.lck (k1.map kvI))) S3 → Ap S (S3.set S.length (.dic (k1.map kvI))) := fun S3 a => fun q o e => by
    have hq := lt_of_at e
    rw [List.getElem?_set_ne (by omega)]
    refine a _ _ ?_
    rw [List.getElem?_set_ne (by omega)]
    exact a1 _ _ e
  revert q1 q2 q3 a2
  generalize S1.set S.length (.lck (k1.map kvI)) = S2
  intro q1 q2 q3 a2
  simp only [w_asg]
  have lr : (List.range (k1.map (fun p : P => D.int p.1)).length).filterMap (fun i => (k1[i]?).bind (jnF k2)) = k1.filterMap (jnF k2) := by
    rw [List.length_map]
    clear g1 q1 a2 h1
    induction k1 with
    | nil => rfl
    | cons p k1 ih =>
      rw [List.length_cons, List.range_succ_eq_map, List.filterMap_cons, List.filterMap_map, List.filterMap_cons]
      have : List.filterMap ((fun i => ((p :: k1)[i]?).bind (jnF k2)) ∘ Nat.succ) (List.range k1.length) = k1.filterMap (jnF k2) := ih
      rw [this]
      rfl
  have ndk : ((k1.filterMap (jnF k2)).map (·.1)).Nodup := by
    have h : ∀ p q, jnF k2 p = some q → q.1 = p.1 := fun p q e => by
      unfold jnF at e
      obtain ⟨b, _, rfl⟩ := Option.map_eq_some_iff.mp e
      rfl
    have nd := h1.k.nd
    clear g1 q1 a2 lr h1
    induction k1 with
    | nil => exact List.Pairwise.nil
    | cons p k1 ih =>
      rw [List.map_cons, List.nodup_cons] at nd
      rw [List.filterMap_cons]
      split
      · exact ih nd.2
      · rename_i q hq
        rw [List.map_cons, List.nodup_cons]
        refine ⟨fun z => ?_, ih nd.2⟩
        obtain ⟨r, hr, e⟩ := List.mem_map.mp z
        obtain ⟨r', hr', e'⟩ := List.mem_filterMap.mp hr
        rw [h _ _ hq, h _ _ e'] at e
        exact nd.1 (List.mem_map.mpr ⟨r', hr', e⟩)
  refine w_dcP (ds := k1.map fun p => D.int p.1) (fun i => (k1[i]?).bind (jnF k2)) ?_ ?_ (by rw [lr]; exact ndk) (by rw [List.length_map]; exact h1.k.len) fun n3 S3 a3 l3 g3 => ?_
  · refine ⟨ItD.keys S.length k1.length, S2, ?_, Ap.refl _, by simp [ItD.keys], fun S4 a4 i => ?_⟩
    · unfold iSeq eVar
      simp [th, q1]
    · unfold ItD.keys
      simp only [a4 _ _ q1]
      rw [List.getElem?_map, List.getElem?_map, Option.map_map]
      rfl
  · intro i d hd S4 a4
    rw [List.getElem?_map] at hd
    obtain ⟨p, hp, rfl⟩ := Option.map_eq_some_iff.mp hd
    have lp : lkP k1 p.1 = some p.2 := (lkP_some h1.k.nd).mpr (List.mem_of_getElem? hp)
    simp only [w_seq, w_asg, w_ret, w_retN, w_drop, w_brk, w_cnt, w_nil, w_sif, w_c, w_ev, w_bin, w_un, w_anil, w_acons, w_tup, w_lst, w_call, w_tB, w_tNot, w_tAnd, w_tOr, w_eIf, w_isN, w_notN, w_gnm, w_gnils, w_gcns, w_gtp2, w_gtp3, w_gtp2p, w_ixT0, w_ixT1, w_ixT2, w_ch, w_chL, w_chK, w_par2, w_par3, w_add, w_sub, w_neg, w_lt, w_le, w_gt, w_ge, w_abs, w_int, w_intb, w_max2, w_min2, w_pno, w_ppart, w_sl, w_bm, w_yes, w_eqI, w_neI, w_eqB, w_neB, QS_nx, QS_rt, QS_bk, QS_ct, QF_nx, QF_rt, QL_nx, QL_ct, QL_bk, QL_rt, wipeE, List.set_cons_succ, List.set_cons_zero, List.getElem?_cons_succ, List.getElem?_cons_zero, D.bl.injEq, D.int.injEq, exists_eq_left', exists_eq_left, w_eAnd, w_tTru, tru_bl, if_true, if_false, Bool.false_eq_true]
    rw [w_inD (k := k2) (.inl (a4 _ _ q2))]
    refine ⟨_, rfl, by rw [hp]; unfold jnF; simp, Ap.refl _, fun r hr => ?_⟩
    rw [hp] at hr
    have hr' : jnF k2 p = some r := hr
    unfold jnF at hr'
    obtain ⟨b, e, rfl⟩ := Option.map_eq_some_iff.mp hr'
    refine ⟨rfl, Ap.refl _, ?_⟩
    rw [w_ixD (k := k1) (.inr (a4 _ _ q1)) lp, w_ixD (k := k2) (.inl (a4 _ _ q2)) e]
    simp only [w_seq, w_asg, w_ret, w_retN, w_drop, w_brk, w_cnt, w_nil, w_sif, w_c, w_ev, w_bin, w_un, w_anil, w_acons, w_tup, w_lst, w_call, w_tB, w_tNot, w_tAnd, w_tOr, w_eIf, w_isN, w_notN, w_gnm, w_gnils, w_gcns, w_gtp2, w_gtp3, w_gtp2p, w_ixT0, w_ixT1, w_ixT2, w_ch, w_chL, w_chK, w_par2, w_par3, w_add, w_sub, w_neg, w_lt, w_le, w_gt, w_ge, w_abs, w_int, w_intb, w_max2, w_min2, w_pno, w_ppart, w_sl, w_bm, w_yes, w_eqI, w_neI, w_eqB, w_neB, QS_nx, QS_rt, QS_bk, QS_ct, QF_nx, QF_rt, QL_nx, QL_ct, QL_bk, QL_rt, wipeE, List.set_cons_succ, List.set_cons_zero, List.getElem?_cons_succ, List.getElem?_cons_zero, D.bl.injEq, D.int.injEq, exists_eq_left', exists_eq_left, w_eAnd, w_tTru, tru_bl, if_true, if_false, Bool.false_eq_true]
    exact ⟨by trivial, Ap.refl _⟩
  · rw [lr] at g3
    simp only [w_gnm, List.set_cons_succ, List.set_cons_zero]
    refine ⟨a3 _ _ q1, ?_⟩
    have A3 := a2 _ a3
    have g3' : (S3.set S.length (.dic (k1.map kvI)))[n3]? = some (.dic ((k1.filterMap (jnF k2)).map kvI)) := by
      rw [List.getElem?_set_ne (by omega)]
      exact g3
    revert A3 g3'
    generalize S3.set S.length (.dic (k1.map kvI)) = S4
    intro A3 g3'
    simp only [w_seq, w_asg, w_ret, w_retN, w_drop, w_brk, w_cnt, w_nil, w_sif, w_c, w_ev, w_bin, w_un, w_anil, w_acons, w_tup, w_lst, w_call, w_tB, w_tNot, w_tAnd, w_tOr, w_eIf, w_isN, w_notN, w_gnm, w_gnils, w_gcns, w_gtp2, w_gtp3, w_gtp2p, w_ixT0, w_ixT1, w_ixT2, w_ch, w_chL, w_chK, w_par2, w_par3, w_add, w_sub, w_neg, w_lt, w_le, w_gt, w_ge, w_abs, w_int, w_intb, w_max2, w_min2, w_pno, w_ppart, w_sl, w_bm, w_yes, w_eqI, w_neI, w_eqB, w_neB, QS_nx, QS_rt, QS_bk, QS_ct, QF_nx, QF_rt, QL_nx, QL_ct, QL_bk, QL_rt, wipeE, List.set_cons_succ, List.set_cons_zero, List.getElem?_cons_succ, List.getElem?_cons_zero, D.bl.injEq, D.int.injEq, exists_eq_left', exists_eq_left, w_eAnd, w_tTru, tru_bl, if_true, if_false, Bool.false_eq_true]
    have lk : (k1.filterMap (jnF k2)).length ≤ cap := by
      have := List.length_filterMap_le (jnF k2) k1
      have := h1.k.len
      unfold cap
      omega
    have fin0 : ∀ (env : FL.Env) (S5 : Sto), env[4]? = some (some (.ref n3)) → S5[n3]? = some (.dic ((k1.filterMap (jnF k2)).map kvI)) → W (eSortItems (eVar 4) env S5) fun x S1 => W (fTuple [x] S1) fun y S2 => y = kD (jnK k1 k2) ∧ Ap S5 S2 := by
      intro env S5 he g5
      refine w_sortItems ?_
      rw [w_ev, he]
      refine ⟨n3, _, _, rfl, g5, intKV_kvI _, lk, ?_⟩
      rw [W_some, w_tupR (getL_of (new_at _ _))]
      exact ⟨rfl, Ap.app _ _⟩
    cases m1 with
    | none =>
      simp only [mD, if_true]
      refine (fin0 _ _ (by rfl) g3').mono fun x S5 h => ?_
      refine h.mono fun y S6 h => ?_
      exact ⟨by show 2 ≤ 10000000; decide, by rw [h.1]; cases m2 <;> rfl, A3.trans h.2⟩
    | some j1 =>
      cases m2 with
      | none =>
        simp only [mD, Bool.false_eq_true, if_false, if_true]
        refine (fin0 _ _ (by rfl) g3').mono fun x S5 h => ?_
        refine h.mono fun y S6 h => ?_
        exact ⟨by show 2 ≤ 10000000; decide, by rw [h.1]; rfl, A3.trans h.2⟩
      | some j2 =>
        simp only [mD, Bool.false_eq_true, if_false, w_dictT (h1.m j1 rfl).nd, W_some]
        have kj1 := h1.m j1 rfl
        have kj2 := h2.m j2 rfl
        have g4 : (S4 ++ [O.dic (j1.map kvI)])[S4.length]? = some (.dic (j1.map kvI)) := new_at _ _
        have A4 : Ap S4 (S4 ++ [O.dic (j1.map kvI)]) := Ap.app _ _
        have n34 := lt_of_at g3'
        refine w_for.mpr (w_iseqT ?_)
        simp only [w_seq, w_asg, w_ret, w_retN, w_drop, w_brk, w_cnt, w_nil, w_sif, w_c, w_ev, w_bin, w_un, w_anil, w_acons, w_tup, w_lst, w_call, w_tB, w_tNot, w_tAnd, w_tOr, w_eIf, w_isN, w_notN, w_gnm, w_gnils, w_gcns, w_gtp2, w_gtp3, w_gtp2p, w_ixT0, w_ixT1, w_ixT2, w_ch, w_chL, w_chK, w_par2, w_par3, w_add, w_sub, w_neg, w_lt, w_le, w_gt, w_ge, w_abs, w_int, w_intb, w_max2, w_min2, w_pno, w_ppart, w_sl, w_bm, w_yes, w_eqI, w_neI, w_eqB, w_neB, QS_nx, QS_rt, QS_bk, QS_ct, QF_nx, QF_rt, QL_nx, QL_ct, QL_bk, QL_rt, wipeE, List.set_cons_succ, List.set_cons_zero, List.getElem?_cons_succ, List.getElem?_cons_zero, D.bl.injEq, D.int.injEq, exists_eq_left', exists_eq_left, w_eAnd, w_tTru, tru_bl, if_true, if_false, Bool.false_eq_true]
        refine ⟨_, rfl, ?_⟩
        refine for_fix (fun i env S' => ∃ x y, env = [some (knD k1 (some j1)), some (knD k2 (some j2)), some (.ref S.length), some (.ref n2), some (.ref n3), some (.ref S4.length), x, y] ∧ Ap S4 S' ∧ S'[S4.length]? = some (.dic (((j2.take i).foldl jnS j1).map kvI)) ∧ ((j2.take i).foldl jnS j1).length ≤ j1.length + i) ?_ ?_ ⟨_, _, rfl, A4, by rw [List.take_zero]; exact g4, by rw [List.take_zero]; exact Nat.le_refl _⟩
        · rintro i d env S' hd ⟨x, y, rfl, a, g, hl⟩
          rw [List.getElem?_map] at hd
          obtain ⟨⟨l, b⟩, hp, rfl⟩ := Option.map_eq_some_iff.mp hd
          have hi := (List.getElem?_eq_some_iff.mp hp).1
          have tk : (j2.take (i + 1)).foldl jnS j1 = jnS ((j2.take i).foldl jnS j1) (l, b) := by
            rw [List.take_succ, hp, List.foldl_append]
            rfl
          rw [tk]
          revert g hl
          generalize (j2.take i).foldl jnS j1 = acc
          intro g hl
          simp only [w_seq, w_asg, w_ret, w_retN, w_drop, w_brk, w_cnt, w_nil, w_sif, w_c, w_ev, w_bin, w_un, w_anil, w_acons, w_tup, w_lst, w_call, w_tB, w_tNot, w_tAnd, w_tOr, w_eIf, w_isN, w_notN, w_gnm, w_gnils, w_gcns, w_gtp2, w_gtp3, w_gtp2p, w_ixT0, w_ixT1, w_ixT2, w_ch, w_chL, w_chK, w_par2, w_par3, w_add, w_sub, w_neg, w_lt, w_le, w_gt, w_ge, w_abs, w_int, w_intb, w_max2, w_min2, w_pno, w_ppart, w_sl, w_bm, w_yes, w_eqI, w_neI, w_eqB, w_neB, QS_nx, QS_rt, QS_bk, QS_ct, QF_nx, QF_rt, QL_nx, QL_ct, QL_bk, QL_rt, wipeE, List.set_cons_succ, List.set_cons_zero, List.getElem?_cons_succ, List.getElem?_cons_zero, D.bl.injEq, D.int.injEq, exists_eq_left', exists_eq_left, w_eAnd, w_tTru, tru_bl, if_true, if_false, Bool.false_eq_true]
          refine w_get2 ?_
          simp only [w_seq, w_asg, w_ret, w_retN, w_drop, w_brk, w_cnt, w_nil, w_sif, w_c, w_ev, w_bin, w_un, w_anil, w_acons, w_tup, w_lst, w_call, w_tB, w_tNot, w_tAnd, w_tOr, w_eIf, w_isN, w_notN, w_gnm, w_gnils, w_gcns, w_gtp2, w_gtp3, w_gtp2p, w_ixT0, w_ixT1, w_ixT2, w_ch, w_chL, w_chK, w_par2, w_par3, w_add, w_sub, w_neg, w_lt, w_le, w_gt, w_ge, w_abs, w_int, w_intb, w_max2, w_min2, w_pno, w_ppart, w_sl, w_bm, w_yes, w_eqI, w_neI, w_eqB, w_neB, QS_nx, QS_rt, QS_bk, QS_ct, QF_nx, QF_rt, QL_nx, QL_ct, QL_bk, QL_rt, wipeE, List.set_cons_succ, List.set_cons_zero, List.getElem?_cons_succ, List.getElem?_cons_zero, D.bl.injEq, D.int.injEq, exists_eq_left', exists_eq_left, w_eAnd, w_tTru, tru_bl, if_true, if_false, Bool.false_eq_true]
          refine ⟨_, _, rfl, g, acc, g, fun d hd => ?_⟩
          have ed : d = .int ((lkP acc l).getD b) := by
            rw [hd]
            unfold lkP
            cases (acc.find? fun p => decide (p.1 = l)).map (·.2) <;> rfl
          subst ed
          simp only [w_seq, w_asg, w_ret, w_retN, w_drop, w_brk, w_cnt, w_nil, w_sif, w_c, w_ev, w_bin, w_un, w_anil, w_acons, w_tup, w_lst, w_call, w_tB, w_tNot, w_tAnd, w_tOr, w_eIf, w_isN, w_notN, w_gnm, w_gnils, w_gcns, w_gtp2, w_gtp3, w_gtp2p, w_ixT0, w_ixT1, w_ixT2, w_ch, w_chL, w_chK, w_par2, w_par3, w_add, w_sub, w_neg, w_lt, w_le, w_gt, w_ge, w_abs, w_int, w_intb, w_max2, w_min2, w_pno, w_ppart, w_sl, w_bm, w_yes, w_eqI, w_neI, w_eqB, w_neB, QS_nx, QS_rt, QS_bk, QS_ct, QF_nx, QF_rt, QL_nx, QL_ct, QL_bk, QL_rt, wipeE, List.set_cons_succ, List.set_cons_zero, List.getElem?_cons_succ, List.getElem?_cons_zero, D.bl.injEq, D.int.injEq, exists_eq_left', exists_eq_left, w_eAnd, w_tTru, tru_bl, if_true, if_false, Bool.false_eq_true]
          have := kj1.len
          have := kj2.len
          rw [w_setP rfl rfl g (by unfold cap; omega)]
          refine ⟨_, _, rfl, a.set (Nat.le_refl _), by rw [set_at g]; rfl, ?_⟩
          unfold jnS
          refine Nat.le_trans (putP_len _ _ _) ?_
          omega
        · rintro env S' ⟨x, y, rfl, a, g, hl⟩
          rw [List.length_map, List.take_length] at g hl
          simp only [w_seq, w_asg, w_ret, w_retN, w_drop, w_brk, w_cnt, w_nil, w_sif, w_c, w_ev, w_bin, w_un, w_anil, w_acons, w_tup, w_lst, w_call, w_tB, w_tNot, w_tAnd, w_tOr, w_eIf, w_isN, w_notN, w_gnm, w_gnils, w_gcns, w_gtp2, w_gtp3, w_gtp2p, w_ixT0, w_ixT1, w_ixT2, w_ch, w_chL, w_chK, w_par2, w_par3, w_add, w_sub, w_neg, w_lt, w_le, w_gt, w_ge, w_abs, w_int, w_intb, w_max2, w_min2, w_pno, w_ppart, w_sl, w_bm, w_yes, w_eqI, w_neI, w_eqB, w_neB, QS_nx, QS_rt, QS_bk, QS_ct, QF_nx, QF_rt, QL_nx, QL_ct, QL_bk, QL_rt, wipeE, List.set_cons_succ, List.set_cons_zero, List.getElem?_cons_succ, List.getElem?_cons_zero, D.bl.injEq, D.int.injEq, exists_eq_left', exists_eq_left, w_eAnd, w_tTru, tru_bl, if_true, if_false, Bool.false_eq_true]
          refine (fin0 _ _ (by rfl) (a _ _ g3')).mono fun x S5 h => ?_
          refine h.mono fun y S6 h => ?_
          obtain ⟨rfl, a6⟩ := h
          refine w_sortItems ?_
          simp only [w_seq, w_asg, w_ret, w_retN, w_drop, w_brk, w_cnt, w_nil, w_sif, w_c, w_ev, w_bin, w_un, w_anil, w_acons, w_tup, w_lst, w_call, w_tB, w_tNot, w_tAnd, w_tOr, w_eIf, w_isN, w_notN, w_gnm, w_gnils, w_gcns, w_gtp2, w_gtp3, w_gtp2p, w_ixT0, w_ixT1, w_ixT2, w_ch, w_chL, w_chK, w_par2, w_par3, w_add, w_sub, w_neg, w_lt, w_le, w_gt, w_ge, w_abs, w_int, w_intb, w_max2, w_min2, w_pno, w_ppart, w_sl, w_bm, w_yes, w_eqI, w_neI, w_eqB, w_neB, QS_nx, QS_rt, QS_bk, QS_ct, QF_nx, QF_rt, QL_nx, QL_ct, QL_bk, QL_rt, wipeE, List.set_cons_succ, List.set_cons_zero, List.getElem?_cons_succ, List.getElem?_cons_zero, D.bl.injEq, D.int.injEq, exists_eq_left', exists_eq_left, w_eAnd, w_tTru, tru_bl, if_true, if_false, Bool.false_eq_true]
          have := kj1.len
          have := kj2.len
          refine ⟨_, _, _, rfl, a6 _ _ g, intKV_kvI _, by unfold cap; omega, ?_⟩
          rw [W_some, w_tupR (getL_of (new_at _ _))]
          exact ⟨by show 2 ≤ 10000000; decide, rfl, ((A3.trans a).trans a6).trans (Ap.app _ _)⟩
end
end K50
/-! K50d: caches. -/
namespace K50
open PySem L2 FL M51
section
variable {S : Sto} {Q : D → Sto → Prop}
abbrev rwD (r : List Int) : D := .tup (r.map D.int)
/-- a cache at place n, its rows at place m -/
def cFs (s w : Nat) (u : Bool) (m : Nat) : List (Str × D) := [("sets", .int s), ("ways", .int w), ("policy", .str (pol u)), ("rows", .ref m)]
def CA (S : Sto) (s w : Nat) (u : Bool) (n m : Nat) (rows : List (List Int)) : Prop := S[n]? = some (.ins "Cache" (cFs s w u m)) ∧ S[m]? = some (.lst (rows.map rwD)) ∧ n ≠ m
theorem lk_sets {s w m : Nat} {u : Bool} : (cFs s w u m).lookup (Str.ofString "sets") = some (D.int s) := by
  have : (Str.ofString "sets" == Str.ofString "sets") = true := by decide +kernel
  unfold cFs
  rw [List.lookup_cons, this]
theorem lk_ways {s w m : Nat} {u : Bool} : (cFs s w u m).lookup (Str.ofString "ways") = some (D.int w) := by
  have h1 : (Str.ofString "ways" == Str.ofString "sets") = false := by decide +kernel
  have h2 : (Str.ofString "ways" == Str.ofString "ways") = true := by decide +kernel
  unfold cFs
  rw [List.lookup_cons, h1, List.lookup_cons, h2]
theorem lk_policy {s w m : Nat} {u : Bool} : (cFs s w u m).lookup (Str.ofString "policy") = some (D.str (pol u)) := by
  have h1 : (Str.ofString "policy" == Str.ofString "sets") = false := by decide +kernel
  have h2 : (Str.ofString "policy" == Str.ofString "ways") = false := by decide +kernel
  have h3 : (Str.ofString "policy" == Str.ofString "policy") = true := by decide +kernel
  unfold cFs
  rw [List.lookup_cons, h1, List.lookup_cons, h2, List.lookup_cons, h3]
theorem lk_rows {s w m : Nat} {u : Bool} : (cFs s w u m).lookup (Str.ofString "rows") = some (D.ref m) := by
  have h1 : (Str.ofString "rows" == Str.ofString "sets") = false := by decide +kernel
  have h2 : (Str.ofString "rows" == Str.ofString "ways") = false := by decide +kernel
  have h3 : (Str.ofString "rows" == Str.ofString "policy") = false := by decide +kernel
  have h4 : (Str.ofString "rows" == Str.ofString "rows") = true := by decide +kernel
  unfold cFs
  rw [List.lookup_cons, h1, List.lookup_cons, h2, List.lookup_cons, h3, List.lookup_cons, h4]
theorem w_fldC {s w n m : Nat} {u : Bool} {f : Str} {d : D} {i : Nat} {env : FL.Env} (h : S[n]? = some (.ins "Cache" (cFs s w u m))) (he : env[i]? = some (some (.ref n))) (hl : (cFs s w u m).lookup f = some d) : W (eFld ["Cache"] (eVar i) f env S) Q ↔ Q d S := by
  rw [w_fld, w_ev, he]
  constructor
  · rintro ⟨n', k, fs, d', e, g, _, hl2, q⟩
    cases e
    rw [h] at g
    cases g
    rw [hl] at hl2
    cases hl2
    exact q
  · intro q
    exact ⟨n, _, _, d, rfl, h, List.mem_cons_self, hl, q⟩
theorem lines_ok {s w n m : Nat} {u : Bool} {rows : List (List Int)} (h : CA S s w u n m rows) : W (f_Cache_lines [.ref n] S) fun d S' => d = .tup (rows.map rwD) ∧ S' = S := by
  refine w_fn rfl ?_
  show W (b_Cache_lines [some (.ref n)] S) _
  unfold b_Cache_lines
  simp only [w_ret, w_call, w_acons, w_anil]
  rw [w_fldC h.1 rfl lk_rows, w_tupR (getL_of h.2.1)]
  exact ⟨rfl, rfl⟩
theorem inD_int (l : Int) : ∀ r : List Int, inD (.int l) (r.map D.int) = decide (l ∈ r)
  | [] => rfl
  | x :: r => by
    have := inD_int l r
    unfold inD at this ⊢
    rw [List.map_cons, List.any_cons, this]
    simp only [eqD, List.mem_cons]
    by_cases e : l = x
    · simp [e]
    · simp [e, Ne.symm e]
theorem flat_int (r : List Int) : (r.map D.int).all flatD = true := by
  rw [List.all_eq_true]
  intro d hd
  obtain ⟨x, _, rfl⟩ := List.mem_map.mp hd
  rfl
theorem oInB_T (l : Int) (r : List Int) : oInB (.int l) (.tup (r.map D.int)) S = some (decide (l ∈ r)) := by
  unfold oInB
  simp only
  rw [if_pos (by rw [flat_int]; rfl), inD_int]
theorem oInB_L (l : Int) {r : List Int} {n : Nat} (h : getL S n = some (r.map D.int)) : oInB (.int l) (.ref n) S = some (decide (l ∈ r)) := by
  unfold oInB
  simp only [h]
  rw [if_pos (by rw [flat_int]; rfl), inD_int]
theorem w_ninT {l : Int} {r : List Int} : W (oNotIn (.int l) (rwD r) S) Q ↔ Q (.bl (!decide (l ∈ r))) S := by
  unfold oNotIn
  rw [oInB_T]
  simp
theorem w_inL {l : Int} {r : List Int} {n : Nat} (h : getL S n = some (r.map D.int)) : W (oIn (.int l) (.ref n) S) Q ↔ Q (.bl (decide (l ∈ r))) S := by
  unfold oIn
  rw [oInB_L l h]
  simp
theorem w_ninL {l : Int} {r : List Int} {n : Nat} (h : getL S n = some (r.map D.int)) : W (oNotIn (.int l) (.ref n) S) Q ↔ Q (.bl (!decide (l ∈ r))) S := by
  unfold oNotIn
  rw [oInB_L l h]
  simp
theorem row_at {s : Nat} (hs : 0 < s) {rows : List (List Int)} (hl : rows.length = s) (l : Int) : atI (rows.map rwD) (l % (s : Int)) = some (rwD (row s rows l)) := by
  rw [← ix_eq hs l]
  refine FL.atI_nat ?_
  rw [List.getElem?_map, List.getElem?_eq_getElem (by rw [hl]; exact ix_lt hs l)]
  unfold row
  rw [List.getD_eq_getElem?_getD, List.getElem?_eq_getElem (by rw [hl]; exact ix_lt hs l)]
  rfl
theorem w_setL {fo fi : FE} {env : FL.Env} {QE : FL.Env → Sto → Prop} {m j : Nat} {us : List D} {i : Int} {d : D} (h1 : fo env S = some (.ref m, S)) (h2 : fi env S = some (.int i, S)) (h : S[m]? = some (.lst us)) (hi : ixN us.length i = some j) :
    W (gIx fo fi d env S) QE ↔ QE env (S.set m (.lst (us.set j d))) := by
  unfold gIx
  simp [h1, h2, h, hi, th]
theorem fld_eq {s w n m : Nat} {u : Bool} {f : Str} {d : D} {i : Nat} {env : FL.Env} (h : S[n]? = some (.ins "Cache" (cFs s w u m))) (he : env[i]? = some (some (.ref n))) (hl : (cFs s w u m).lookup f = some d) : eFld ["Cache"] (eVar i) f env S = some (d, S) := by
  obtain ⟨x, S1, e, rfl, rfl⟩ := (w_fldC (Q := fun x S1 => x = d ∧ S1 = S) h he hl).mpr ⟨rfl, rfl⟩
  exact e
theorem row_ix {s : Nat} (hs : 0 < s) {rows : List (List Int)} (hl : rows.length = s) (l : Int) : ixN (rows.map rwD).length (l % (s : Int)) = some (ix s l) := by
  rw [← ix_eq hs l, List.length_map, hl]
  have := ix_lt hs l
  unfold ixN
  rw [if_pos (by omega), if_pos (by omega)]
  rfl
theorem w_filtR {fe : FE} {env : FL.Env} {r : List Int} {l : Int} {i j : Nat} (hz : r.length ≤ 1000) (he : W (fe env S) fun d S1 => d = rwD r ∧ S1 = S)
    (hb : ∀ x : Int, ∀ S2, W (gNm i (.int x) (wipeE env [i]) S2) fun e1 S3 => W (FL.tB (eBin oNe (eVar i) (eVar j)) e1 S3) fun k S4 => k = decide (x ≠ l) ∧ Ap S2 S4 ∧ (decide (x ≠ l) = true → W (eVar i e1 S4) fun y S5 => y = .int x ∧ Ap S4 S5))
    (hq : ∀ n S', Ap S S' → S.length ≤ n → S'[n]? = some (.lst ((r.filter fun x => decide (x ≠ l)).map D.int)) → Q (.ref n) S') : W (eLc (iSeq fe) (gNm i) (FL.tB (eBin oNe (eVar i) (eVar j))) (eVar i) [i] env S) Q := by
  refine w_lci (ns := r) id (fun x => decide (x ≠ l)) ?_ (fun x _ S2 _ => hb x S2) (by unfold cap; omega) fun n S' a hl g => hq n S' a hl (by rw [g, List.map_id])
  refine w_iseqT ?_
  obtain ⟨d, S2, e, rfl, rfl⟩ := he
  exact ⟨_, _, e, _, rfl, Ap.refl _, by simp [ItD.fix], fun S2 a i => rfl⟩
def hasR (u : Bool) (s : Nat) (l : Int) (rows : List (List Int)) : List (List Int) := if l ∈ row s rows l then (if u = true then rows.set (ix s l) (l :: (row s rows l).filter fun x => decide (x ≠ l)) else rows) else rows
def filR (s w : Nat) (l : Int) (rows : List (List Int)) : List (List Int) := rows.set (ix s l) ((l :: (row s rows l).filter fun x => decide (x ≠ l)).take w)
theorem has_ok {s w n m : Nat} {u : Bool} {rows : List (List Int)} {l : Int} (hs : 0 < s) (hl : rows.length = s) (hz : ∀ r ∈ rows, r.length ≤ 1000) (h : CA S s w u n m rows) :
    W (f_Cache_has [.ref n, .int l] S) fun d S' => d = .bl (decide (l ∈ row s rows l)) ∧ CA S' s w u n m (hasR u s l rows) ∧ Kn m S S' := by
  have hs' : 0 < (s : Int) := by omega
  refine w_fn rfl ?_
  show W (b_Cache_has [some (.ref n), some (.int l), none, none, none] S) _
  unfold b_Cache_has
  simp only [w_seq, w_asg, w_bin, w_ev, List.getElem?_cons_succ, List.getElem?_cons_zero]
  rw [w_fldC h.1 rfl lk_sets, w_mod hs']
  simp only [w_seq, w_asg, w_ret, w_retN, w_drop, w_brk, w_cnt, w_nil, w_sif, w_c, w_ev, w_bin, w_un, w_anil, w_acons, w_tup, w_lst, w_call, w_tB, w_tNot, w_tAnd, w_tOr, w_eIf, w_isN, w_notN, w_gnm, w_gnils, w_gcns, w_gtp2, w_gtp3, w_gtp2p, w_ixT0, w_ixT1, w_ixT2, w_ch, w_chL, w_chK, w_par2, w_par3, w_add, w_sub, w_neg, w_lt, w_le, w_gt, w_ge, w_abs, w_int, w_intb, w_max2, w_min2, w_pno, w_ppart, w_sl, w_bm, w_yes, w_eqI, w_neI, w_eqB, w_neB, QS_nx, QS_rt, QS_bk, QS_ct, QF_nx, QF_rt, QL_nx, QL_ct, QL_bk, QL_rt, wipeE, List.set_cons_succ, List.set_cons_zero, List.getElem?_cons_succ, List.getElem?_cons_zero, D.bl.injEq, D.int.injEq, exists_eq_left', exists_eq_left, w_eAnd, w_tTru, tru_bl, if_true, if_false, Bool.false_eq_true]
  rw [w_fldC h.1 rfl lk_rows, w_ixL (getL_of h.2.1) (row_at hs hl l)]
  simp only [w_ninT]
  have hr : (row s rows l).length ≤ 1000 := by
    refine hz _ (List.mem_iff_getElem?.mpr ⟨ix s l, ?_⟩)
    unfold row
    rw [List.getD_eq_getElem?_getD, List.getElem?_eq_getElem (by rw [hl]; exact ix_lt hs l)]
    rfl
  by_cases hm : l ∈ row s rows l
  · refine ⟨false, by rw [decide_eq_true hm]; rfl, ?_⟩
    rw [if_neg Bool.false_ne_true, w_fldC h.1 rfl lk_policy, w_lru]
    unfold hasR
    rw [if_pos hm]
    refine ⟨u, rfl, ?_⟩
    cases u with
    | false =>
      rw [if_neg Bool.false_ne_true, if_neg Bool.false_ne_true]
      exact ⟨(decide_eq_true hm).symm, h, fun _ _ _ e => e⟩
    | true =>
    rw [if_pos rfl, if_pos rfl]
    refine ⟨(by show 1 ≤ 10000000; decide), ?_⟩
    refine w_filtR (l := l) hr (by simp only [w_seq, w_asg, w_ret, w_retN, w_drop, w_brk, w_cnt, w_nil, w_sif, w_c, w_ev, w_bin, w_un, w_anil, w_acons, w_tup, w_lst, w_call, w_tB, w_tNot, w_tAnd, w_tOr, w_eIf, w_isN, w_notN, w_gnm, w_gnils, w_gcns, w_gtp2, w_gtp3, w_gtp2p, w_ixT0, w_ixT1, w_ixT2, w_ch, w_chL, w_chK, w_par2, w_par3, w_add, w_sub, w_neg, w_lt, w_le, w_gt, w_ge, w_abs, w_int, w_intb, w_max2, w_min2, w_pno, w_ppart, w_sl, w_bm, w_yes, w_eqI, w_neI, w_eqB, w_neB, QS_nx, QS_rt, QS_bk, QS_ct, QF_nx, QF_rt, QL_nx, QL_ct, QL_bk, QL_rt, wipeE, List.set_cons_succ, List.set_cons_zero, List.getElem?_cons_succ, List.getElem?_cons_zero, D.bl.injEq, D.int.injEq, exists_eq_left', exists_eq_left, w_eAnd, w_tTru, tru_bl, if_true, if_false, Bool.false_eq_true]; exact ⟨trivial, trivial⟩) (fun x S2 => ?_) fun q S1 a1 hq g1 => ?_
    · simp only [w_seq, w_asg, w_ret, w_retN, w_drop, w_brk, w_cnt, w_nil, w_sif, w_c, w_ev, w_bin, w_un, w_anil, w_acons, w_tup, w_lst, w_call, w_tB, w_tNot, w_tAnd, w_tOr, w_eIf, w_isN, w_notN, w_gnm, w_gnils, w_gcns, w_gtp2, w_gtp3, w_gtp2p, w_ixT0, w_ixT1, w_ixT2, w_ch, w_chL, w_chK, w_par2, w_par3, w_add, w_sub, w_neg, w_lt, w_le, w_gt, w_ge, w_abs, w_int, w_intb, w_max2, w_min2, w_pno, w_ppart, w_sl, w_bm, w_yes, w_eqI, w_neI, w_eqB, w_neB, QS_nx, QS_rt, QS_bk, QS_ct, QF_nx, QF_rt, QL_nx, QL_ct, QL_bk, QL_rt, wipeE, List.set_cons_succ, List.set_cons_zero, List.getElem?_cons_succ, List.getElem?_cons_zero, D.bl.injEq, D.int.injEq, exists_eq_left', exists_eq_left, w_eAnd, w_tTru, tru_bl, if_true, if_false, Bool.false_eq_true]
      exact ⟨by simp, Ap.refl _, fun _ => ⟨trivial, Ap.refl _⟩⟩
    · have fl : ((row s rows l).filter fun x => decide (x ≠ l)).length ≤ 1000 := Nat.le_trans (List.length_filter_le _ _) hr
      rw [w_tupR (getL_of g1), show [D.int l] = [l].map D.int from rfl, w_addT (by rw [List.length_map, List.length_map]; unfold cap; simp only [List.length_cons, List.length_nil]; omega), ← List.map_append]
      rw [w_setL (fld_eq (a1 _ _ h.1) rfl lk_rows) (by show eVar 2 _ _ = _; rfl) (a1 _ _ h.2.1) (row_ix hs hl l)]
      refine ⟨(decide_eq_true hm).symm, ⟨?_, ?_, h.2.2⟩, ?_⟩
      · rw [List.getElem?_set_ne (Ne.symm h.2.2)]
        exact a1 _ _ h.1
      · rw [set_at (a1 _ _ h.2.1), List.map_set]
        rfl
      · intro m' o hne e
        rw [List.getElem?_set_ne (Ne.symm hne)]
        exact a1 _ _ e
  · refine ⟨true, by rw [decide_eq_false hm]; rfl, ?_⟩
    unfold hasR
    rw [if_pos rfl, if_neg hm]
    exact ⟨(decide_eq_false hm).symm, h, fun _ _ _ e => e⟩
theorem fill_ok {s w n m : Nat} {u : Bool} {rows : List (List Int)} {l : Int} (hs : 0 < s) (hl : rows.length = s) (hz : ∀ r ∈ rows, r.length ≤ 1000) (h : CA S s w u n m rows) :
    W (f_Cache_fill [.ref n, .int l] S) fun d S' => d = .non ∧ CA S' s w u n m (filR s w l rows) ∧ Kn m S S' := by
  have hs' : 0 < (s : Int) := by omega
  refine w_fn rfl ?_
  show W (b_Cache_fill [some (.ref n), some (.int l), none, none, none] S) _
  unfold b_Cache_fill
  simp only [w_seq, w_asg, w_bin, w_ev, List.getElem?_cons_succ, List.getElem?_cons_zero]
  rw [w_fldC h.1 rfl lk_sets, w_mod hs']
  have hr : (row s rows l).length ≤ 1000 := by
    refine hz _ (List.mem_iff_getElem?.mpr ⟨ix s l, ?_⟩)
    unfold row
    rw [List.getD_eq_getElem?_getD, List.getElem?_eq_getElem (by rw [hl]; exact ix_lt hs l)]
    rfl
  simp only [w_seq, w_asg, w_ret, w_retN, w_drop, w_brk, w_cnt, w_nil, w_sif, w_c, w_ev, w_bin, w_un, w_anil, w_acons, w_tup, w_lst, w_call, w_tB, w_tNot, w_tAnd, w_tOr, w_eIf, w_isN, w_notN, w_gnm, w_gnils, w_gcns, w_gtp2, w_gtp3, w_gtp2p, w_ixT0, w_ixT1, w_ixT2, w_ch, w_chL, w_chK, w_par2, w_par3, w_add, w_sub, w_neg, w_lt, w_le, w_gt, w_ge, w_abs, w_int, w_intb, w_max2, w_min2, w_pno, w_ppart, w_sl, w_bm, w_yes, w_eqI, w_neI, w_eqB, w_neB, QS_nx, QS_rt, QS_bk, QS_ct, QF_nx, QF_rt, QL_nx, QL_ct, QL_bk, QL_rt, wipeE, List.set_cons_succ, List.set_cons_zero, List.getElem?_cons_succ, List.getElem?_cons_zero, D.bl.injEq, D.int.injEq, exists_eq_left', exists_eq_left, w_eAnd, w_tTru, tru_bl, if_true, if_false, Bool.false_eq_true]
  refine w_filtR (r := row s rows l) (l := l) hr ?_ (fun x S2 => ?_) fun q S1 a1 hq g1 => ?_
  · simp only [w_bin, w_seq, w_asg, w_ret, w_retN, w_drop, w_brk, w_cnt, w_nil, w_sif, w_c, w_ev, w_bin, w_un, w_anil, w_acons, w_tup, w_lst, w_call, w_tB, w_tNot, w_tAnd, w_tOr, w_eIf, w_isN, w_notN, w_gnm, w_gnils, w_gcns, w_gtp2, w_gtp3, w_gtp2p, w_ixT0, w_ixT1, w_ixT2, w_ch, w_chL, w_chK, w_par2, w_par3, w_add, w_sub, w_neg, w_lt, w_le, w_gt, w_ge, w_abs, w_int, w_intb, w_max2, w_min2, w_pno, w_ppart, w_sl, w_bm, w_yes, w_eqI, w_neI, w_eqB, w_neB, QS_nx, QS_rt, QS_bk, QS_ct, QF_nx, QF_rt, QL_nx, QL_ct, QL_bk, QL_rt, wipeE, List.set_cons_succ, List.set_cons_zero, List.getElem?_cons_succ, List.getElem?_cons_zero, D.bl.injEq, D.int.injEq, exists_eq_left', exists_eq_left, w_eAnd, w_tTru, tru_bl, if_true, if_false, Bool.false_eq_true]
    rw [w_fldC h.1 rfl lk_rows, w_ixL (getL_of h.2.1) (row_at hs hl l)]
    exact ⟨rfl, rfl⟩
  · simp only [w_seq, w_asg, w_ret, w_retN, w_drop, w_brk, w_cnt, w_nil, w_sif, w_c, w_ev, w_bin, w_un, w_anil, w_acons, w_tup, w_lst, w_call, w_tB, w_tNot, w_tAnd, w_tOr, w_eIf, w_isN, w_notN, w_gnm, w_gnils, w_gcns, w_gtp2, w_gtp3, w_gtp2p, w_ixT0, w_ixT1, w_ixT2, w_ch, w_chL, w_chK, w_par2, w_par3, w_add, w_sub, w_neg, w_lt, w_le, w_gt, w_ge, w_abs, w_int, w_intb, w_max2, w_min2, w_pno, w_ppart, w_sl, w_bm, w_yes, w_eqI, w_neI, w_eqB, w_neB, QS_nx, QS_rt, QS_bk, QS_ct, QF_nx, QF_rt, QL_nx, QL_ct, QL_bk, QL_rt, wipeE, List.set_cons_succ, List.set_cons_zero, List.getElem?_cons_succ, List.getElem?_cons_zero, D.bl.injEq, D.int.injEq, exists_eq_left', exists_eq_left, w_eAnd, w_tTru, tru_bl, if_true, if_false, Bool.false_eq_true]
    exact ⟨by simp, Ap.refl _, fun _ => ⟨trivial, Ap.refl _⟩⟩
  · have fl : ((row s rows l).filter fun x => decide (x ≠ l)).length ≤ 1000 := Nat.le_trans (List.length_filter_le _ _) hr
    rw [w_tupR (getL_of g1)]
    refine ⟨(by show 1 ≤ 10000000; decide), ?_⟩
    rw [show [D.int l] = [l].map D.int from rfl, w_addT (by rw [List.length_map, List.length_map]; unfold cap; simp only [List.length_cons, List.length_nil]; omega), ← List.map_append]
    rw [w_fldC (a1 _ _ h.1) rfl lk_ways]
    refine ⟨_, rfl, ?_⟩
    have sl : oSl (.tup (([l] ++ (row s rows l).filter fun x => decide (x ≠ l)).map D.int)) none (some (w : Int)) S1 = some (rwD ((l :: (row s rows l).filter fun x => decide (x ≠ l)).take w), S1) := by
      show some (D.tup (cutG _ none (some (w : Int))), S1) = _
      rw [cut_none, ← List.map_take]
      rfl
    rw [sl, W_some]
    rw [w_setL (fld_eq (a1 _ _ h.1) rfl lk_rows) (by show eVar 2 _ _ = _; rfl) (a1 _ _ h.2.1) (row_ix hs hl l)]
    refine ⟨trivial, ⟨?_, ?_, h.2.2⟩, ?_⟩
    · rw [List.getElem?_set_ne (Ne.symm h.2.2)]
      exact a1 _ _ h.1
    · unfold filR
      rw [set_at (a1 _ _ h.2.1), List.map_set]
    · intro m' o hne e
      rw [List.getElem?_set_ne (Ne.symm hne)]
      exact a1 _ _ e
end
end K50
/-! K50f: a new cache; what is known of a cache that is known; starts. -/
namespace K50
open PySem L2 FL M51
section
variable {S : Sto} {Q : D → Sto → Prop}
theorem put_flds {s w m : Nat} {u : Bool} : FL.putF (Str.ofString "rows") (.ref m) (FL.putF (Str.ofString "policy") (.str (pol u)) (FL.putF (Str.ofString "ways") (.int w) (FL.putF (Str.ofString "sets") (.int s) []))) = cFs s w u m := by
  have h1 : ¬ (Str.ofString "sets" = Str.ofString "ways") := by decide +kernel
  have h2 : ¬ (Str.ofString "sets" = Str.ofString "policy") := by decide +kernel
  have h3 : ¬ (Str.ofString "ways" = Str.ofString "policy") := by decide +kernel
  have h4 : ¬ (Str.ofString "sets" = Str.ofString "rows") := by decide +kernel
  have h5 : ¬ (Str.ofString "ways" = Str.ofString "rows") := by decide +kernel
  have h6 : ¬ (Str.ofString "policy" = Str.ofString "rows") := by decide +kernel
  simp only [FL.putF, if_neg h1, if_neg h2, if_neg h3, if_neg h4, if_neg h5, if_neg h6]
  rfl
theorem putF_len (f : Str) (d : D) : ∀ fs : List (Str × D), (FL.putF f d fs).length ≤ fs.length + 1
  | [] => Nat.le_refl _
  | (g, x) :: r => by
    unfold FL.putF
    split
    · simp
    · rw [List.length_cons, List.length_cons]
      have := putF_len f d r
      omega
theorem init_ok {s w n : Nat} {u : Bool} {rows : List (List Int)} (hz : rows.length ≤ 1000) (h : S[n]? = some (.ins "Cache" [])) :
    W (f_Cache___init__ [.ref n, tD s w u, .tup (rows.map rwD)] S) fun d S' => ∃ m, d = .non ∧ CA S' s w u n m rows ∧ Kn n S S' ∧ S.length ≤ m := by
  refine w_fn rfl ?_
  show W (b_Cache___init__ [some (.ref n), some (tD s w u), some (.tup (rows.map rwD)), none] S) _
  unfold b_Cache___init__
  simp only [w_seq, w_asg, w_ev, List.getElem?_cons_succ, List.getElem?_cons_zero, w_gtp3, w_gcns, w_gnils]
  rw [w_gfd (show eVar 0 _ _ = _ from rfl) h (List.mem_cons_self) (by decide)]
  rw [w_gfd (show eVar 0 _ _ = _ from rfl) (set_at h) (List.mem_cons_self) (Nat.lt_of_le_of_lt (putF_len _ _ _) (by decide)), w_gfd (show eVar 0 _ _ = _ from rfl) (set_at (set_at h)) (List.mem_cons_self) (Nat.lt_of_le_of_lt (Nat.le_trans (putF_len _ _ _) (Nat.succ_le_succ (putF_len _ _ _))) (by decide))]
  have g3 := set_at (o' := O.ins (Str.ofString "Cache") (FL.putF (Str.ofString "policy") (.str (pol u)) (FL.putF (Str.ofString "ways") (.int w) (FL.putF (Str.ofString "sets") (.int s) [])))) (set_at (o' := O.ins (Str.ofString "Cache") (FL.putF (Str.ofString "ways") (.int w) (FL.putF (Str.ofString "sets") (.int s) []))) (set_at (o' := O.ins (Str.ofString "Cache") (FL.putF (Str.ofString "sets") (.int s) [])) h))
  simp only [List.set_set] at g3 ⊢
  simp only [QS_nx, w_asg]
  revert g3
  generalize eS : S.set n (O.ins (Str.ofString "Cache") (FL.putF (Str.ofString "policy") (.str (pol u)) (FL.putF (Str.ofString "ways") (.int w) (FL.putF (Str.ofString "sets") (.int s) [])))) = S2
  intro g3
  have l2 : S2.length = S.length := by rw [← eS, List.length_set]
  refine w_lcm (ds := rows.map rwD) id (fun _ => true) ?_ (fun d hd S3 a => ?_) (by rw [List.length_map]; unfold cap; omega) fun m S3 a3 hm g => ?_
  · refine w_iseqT ?_
    simp only [w_seq, w_asg, w_ret, w_retN, w_drop, w_brk, w_cnt, w_nil, w_sif, w_c, w_ev, w_bin, w_un, w_anil, w_acons, w_tup, w_lst, w_call, w_tB, w_tNot, w_tAnd, w_tOr, w_eIf, w_isN, w_notN, w_gnm, w_gnils, w_gcns, w_gtp2, w_gtp3, w_gtp2p, w_ixT0, w_ixT1, w_ixT2, w_ch, w_chL, w_chK, w_par2, w_par3, w_add, w_sub, w_neg, w_lt, w_le, w_gt, w_ge, w_abs, w_int, w_intb, w_max2, w_min2, w_pno, w_ppart, w_sl, w_bm, w_yes, w_eqI, w_neI, w_eqB, w_neB, QS_nx, QS_rt, QS_bk, QS_ct, QF_nx, QF_rt, QL_nx, QL_ct, QL_bk, QL_rt, wipeE, List.set_cons_succ, List.set_cons_zero, List.getElem?_cons_succ, List.getElem?_cons_zero, D.bl.injEq, D.int.injEq, exists_eq_left', exists_eq_left, w_eAnd, w_tTru, tru_bl, if_true, if_false, Bool.false_eq_true]
    exact ⟨_, rfl, Ap.refl _, by simp [ItD.fix], fun S2 a i => rfl⟩
  · obtain ⟨r, _, rfl⟩ := List.mem_map.mp hd
    simp only [w_seq, w_asg, w_ret, w_retN, w_drop, w_brk, w_cnt, w_nil, w_sif, w_c, w_ev, w_bin, w_un, w_anil, w_acons, w_tup, w_lst, w_call, w_tB, w_tNot, w_tAnd, w_tOr, w_eIf, w_isN, w_notN, w_gnm, w_gnils, w_gcns, w_gtp2, w_gtp3, w_gtp2p, w_ixT0, w_ixT1, w_ixT2, w_ch, w_chL, w_chK, w_par2, w_par3, w_add, w_sub, w_neg, w_lt, w_le, w_gt, w_ge, w_abs, w_int, w_intb, w_max2, w_min2, w_pno, w_ppart, w_sl, w_bm, w_yes, w_eqI, w_neI, w_eqB, w_neB, QS_nx, QS_rt, QS_bk, QS_ct, QF_nx, QF_rt, QL_nx, QL_ct, QL_bk, QL_rt, wipeE, List.set_cons_succ, List.set_cons_zero, List.getElem?_cons_succ, List.getElem?_cons_zero, D.bl.injEq, D.int.injEq, exists_eq_left', exists_eq_left, w_eAnd, w_tTru, tru_bl, if_true, if_false, Bool.false_eq_true, w_tupT]
    exact ⟨trivial, Ap.refl _, fun _ => ⟨rfl, Ap.refl _⟩⟩
  · have hn := (List.getElem?_eq_some_iff.mp h).1
    rw [w_gfd (show eVar 0 _ _ = _ from rfl) (a3 _ _ g3) (List.mem_cons_self) (Nat.lt_of_le_of_lt (Nat.le_trans (putF_len _ _ _) (Nat.succ_le_succ (Nat.le_trans (putF_len _ _ _) (Nat.succ_le_succ (putF_len _ _ _))))) (by decide)), put_flds]
    refine ⟨m, rfl, ⟨set_at (a3 _ _ g3), ?_, by omega⟩, fun m' o hne e => ?_, by omega⟩
    · rw [List.getElem?_set_ne (by omega), g, List.filter_eq_self.mpr fun _ _ => rfl, List.map_id]
    · rw [List.getElem?_set_ne (Ne.symm hne)]
      refine a3 _ _ ?_
      rw [← eS, List.getElem?_set_ne (Ne.symm hne)]
      exact e
theorem kok_OR {s w : Nat} {rows : List (List Int)} (g : Good s rows) (hs4 : s ≤ 4) (hw : w ≤ 4) : Kok (OR w rows) := by
  refine ⟨OR_keys g w, ?_, fun p hp => ?_⟩
  · have : (OR w rows).length = (prs w rows).length := (sortP_perm _).length_eq
    rw [this]
    unfold prs
    rw [List.length_flatMap]
    have h : ∀ l : List (List Int), (l.map fun r => (prw w r).length).sum ≤ 4 * l.length := by
      intro l
      induction l with
      | nil => simp
      | cons r l ih =>
        rw [List.map_cons, List.sum_cons, List.length_cons]
        have : (prw w r).length ≤ 4 := by
          unfold prw
          rw [List.length_mapIdx, List.length_take]
          omega
        omega
    have := h rows
    rw [g.len] at this
    omega
  · have hp' := OR_mem.mp hp
    unfold prs at hp'
    obtain ⟨r, _, h⟩ := List.mem_flatMap.mp hp'
    obtain ⟨a, b⟩ := p
    obtain ⟨n, e, hn, _⟩ := mem_prw.mp h
    show 0 ≤ b ∧ b ≤ 1000
    omega
theorem prs_succ {w i : Nat} {rows : List (List Int)} {r : List Int} (h : rows[i]? = some r) : prs w (rows.take (i + 1)) = prs w (rows.take i) ++ prw w r := by
  unfold prs
  rw [List.take_succ, h, List.flatMap_append]
  simp
theorem prw_get {w j : Nat} {r : List Int} {l : Int} (hw : r.length ≤ w) (h : r[j]? = some l) : (prw w r)[j]? = some (l, (j : Int)) := by
  unfold prw
  rw [List.take_of_length_le hw, List.getElem?_mapIdx, h]
  rfl
theorem keys_new {s w i j : Nat} {rows : List (List Int)} {r : List Int} {l : Int} (g : Good s rows) (hw : r.length ≤ w) (h : rows[i]? = some r) (hl : r[j]? = some l) : l ∉ (prs w (rows.take i) ++ (prw w r).take j).map (·.1) := by
  have nd := g.keys w
  have e : prs w rows = (prs w (rows.take i) ++ prw w r) ++ prs w (rows.drop (i + 1)) := by
    rw [← prs_succ h]
    unfold prs
    rw [← List.flatMap_append, List.take_append_drop]
  have pj := prw_get hw hl
  have e2 : prw w r = (prw w r).take j ++ (l, (j : Int)) :: (prw w r).drop (j + 1) := by
    have hj := (List.getElem?_eq_some_iff.mp pj)
    obtain ⟨h1, h2⟩ := hj
    rw [← h2, List.getElem_cons_drop, List.take_append_drop]
  rw [e, List.map_append, List.nodup_append] at nd
  have nd1 := nd.1
  rw [e2, ← List.append_assoc, List.map_append, List.nodup_append] at nd1
  intro z
  exact nd1.2.2 _ z _ (by rw [List.map_cons]; exact List.mem_cons_self) rfl
def zU (u : Bool) (p : P) : P := (p.1, if u = true then p.2 else 0)
def ocK (u : Bool) (w : Nat) (rows : List (List Int)) : List P := sortP ((prs w rows).map (zU u))
theorem zU_keys (u : Bool) (k : List P) : (k.map (zU u)).map (·.1) = k.map (·.1) := by rw [List.map_map]; rfl
theorem of_cache_ok {s w : Nat} {u : Bool} {rows : List (List Int)} (g : Good s rows) (hw : ∀ r ∈ rows, r.length ≤ w) (hs4 : s ≤ 4) (hw4 : w ≤ 4) :
    W (f_of_cache [tD s w u, .tup (rows.map rwD)] S) fun d S' => d = knD (ocK u w rows) (some (OR w rows)) ∧ Ap S S' := by
  refine w_fn rfl ?_
  show W (b_of_cache [some (tD s w u), some (.tup (rows.map rwD)), none, none, none, none, none] S) _
  unfold b_of_cache
  have d0 : ∀ (env : FL.Env) (S : Sto) (Q : D → Sto → Prop), W (eDic0 env S) Q ↔ W (some (D.ref S.length, S ++ [.dic []])) Q := fun _ _ _ => Iff.rfl
  simp only [w_seq, w_asg, d0, W_some, w_gnm, QS_nx, List.set_cons_succ, List.set_cons_zero]
  refine w_for.mpr (w_iseqT ?_)
  simp only [w_seq, w_asg, w_ret, w_retN, w_drop, w_brk, w_cnt, w_nil, w_sif, w_c, w_ev, w_bin, w_un, w_anil, w_acons, w_tup, w_lst, w_call, w_tB, w_tNot, w_tAnd, w_tOr, w_eIf, w_isN, w_notN, w_gnm, w_gnils, w_gcns, w_gtp2, w_gtp3, w_gtp2p, w_ixT0, w_ixT1, w_ixT2, w_ch, w_chL, w_chK, w_par2, w_par3, w_add, w_sub, w_neg, w_lt, w_le, w_gt, w_ge, w_abs, w_int, w_intb, w_max2, w_min2, w_pno, w_ppart, w_sl, w_bm, w_yes, w_eqI, w_neI, w_eqB, w_neB, QS_nx, QS_rt, QS_bk, QS_ct, QF_nx, QF_rt, QL_nx, QL_ct, QL_bk, QL_rt, wipeE, List.set_cons_succ, List.set_cons_zero, List.getElem?_cons_succ, List.getElem?_cons_zero, D.bl.injEq, D.int.injEq, exists_eq_left', exists_eq_left, w_eAnd, w_tTru, tru_bl, if_true, if_false, Bool.false_eq_true]
  refine ⟨_, rfl, ?_⟩
  refine for_fix (fun i env S' => ∃ x y z, env = [some (tD s w u), some (.tup (rows.map rwD)), some (.ref S.length), some (.ref (S.length + 1)), x, y, z] ∧ Ap S S' ∧ S'[S.length]? = some (.dic (((prs w (rows.take i)).map (zU u)).map kvI)) ∧ S'[S.length + 1]? = some (.dic ((prs w (rows.take i)).map kvI))) ?_ ?_ ?_
  · rintro i d env S' hd ⟨x, y, z, rfl, a, g1, g2⟩
    rw [List.getElem?_map] at hd
    obtain ⟨r, hr, rfl⟩ := Option.map_eq_some_iff.mp hd
    have hrw := hw r (List.mem_iff_getElem?.mpr ⟨i, hr⟩)
    rw [prs_succ hr]
    simp only [w_gnm, List.set_cons_succ, List.set_cons_zero]
    refine w_for.mpr (w_enumT ?_)
    simp only [w_seq, w_asg, w_ret, w_retN, w_drop, w_brk, w_cnt, w_nil, w_sif, w_c, w_ev, w_bin, w_un, w_anil, w_acons, w_tup, w_lst, w_call, w_tB, w_tNot, w_tAnd, w_tOr, w_eIf, w_isN, w_notN, w_gnm, w_gnils, w_gcns, w_gtp2, w_gtp3, w_gtp2p, w_ixT0, w_ixT1, w_ixT2, w_ch, w_chL, w_chK, w_par2, w_par3, w_add, w_sub, w_neg, w_lt, w_le, w_gt, w_ge, w_abs, w_int, w_intb, w_max2, w_min2, w_pno, w_ppart, w_sl, w_bm, w_yes, w_eqI, w_neI, w_eqB, w_neB, QS_nx, QS_rt, QS_bk, QS_ct, QF_nx, QF_rt, QL_nx, QL_ct, QL_bk, QL_rt, wipeE, List.set_cons_succ, List.set_cons_zero, List.getElem?_cons_succ, List.getElem?_cons_zero, D.bl.injEq, D.int.injEq, exists_eq_left', exists_eq_left, w_eAnd, w_tTru, tru_bl, if_true, if_false, Bool.false_eq_true]
    refine ⟨_, rfl, ?_⟩
    refine for_fix (fun j env S' => ∃ y z, env = [some (tD s w u), some (.tup (rows.map rwD)), some (.ref S.length), some (.ref (S.length + 1)), some (rwD r), y, z] ∧ Ap S S' ∧ S'[S.length]? = some (.dic (((prs w (rows.take i) ++ (prw w r).take j).map (zU u)).map kvI)) ∧ S'[S.length + 1]? = some (.dic ((prs w (rows.take i) ++ (prw w r).take j).map kvI))) ?_ ?_ ⟨_, _, rfl, a, by rw [List.take_zero, List.append_nil]; exact g1, by rw [List.take_zero, List.append_nil]; exact g2⟩
    · rintro j d env S3 hd ⟨y, z, rfl, a3, h1, h2⟩
      rw [List.getElem?_mapIdx] at hd
      obtain ⟨d', hd', rfl⟩ := Option.map_eq_some_iff.mp hd
      rw [List.getElem?_map] at hd'
      obtain ⟨l, hl, rfl⟩ := Option.map_eq_some_iff.mp hd'
      have nk := keys_new g hrw hr hl
      have len : (prs w (rows.take i) ++ (prw w r).take j).length < cap := by
        have e : (OR w rows).length = (prs w rows).length := (sortP_perm _).length_eq
        have k1 := (kok_OR g hs4 hw4).len
        have k2 : (prs w (rows.take i)).length ≤ (prs w rows).length := by
          have e2 : prs w rows = prs w (rows.take i) ++ prs w (rows.drop i) := by
            unfold prs
            rw [← List.flatMap_append, List.take_append_drop]
          rw [e2, List.length_append]
          omega
        have k3 : ((prw w r).take j).length ≤ 4 := by
          rw [List.length_take]
          unfold prw
          rw [List.length_mapIdx, List.length_take]
          omega
        rw [List.length_append]
        unfold cap
        omega
      have tk : (prw w r).take (j + 1) = (prw w r).take j ++ [(l, (j : Int))] := by
        rw [List.take_succ, prw_get hrw hl]
        rfl
      show W (gTp 2 (gCns (gNm 5) (gCns (gNm 6) gNils)) (.pr [.int j, .int l]) _ S3) _
      simp only [w_seq, w_asg, w_ret, w_retN, w_drop, w_brk, w_cnt, w_nil, w_sif, w_c, w_ev, w_bin, w_un, w_anil, w_acons, w_tup, w_lst, w_call, w_tB, w_tNot, w_tAnd, w_tOr, w_eIf, w_isN, w_notN, w_gnm, w_gnils, w_gcns, w_gtp2, w_gtp3, w_gtp2p, w_ixT0, w_ixT1, w_ixT2, w_ch, w_chL, w_chK, w_par2, w_par3, w_add, w_sub, w_neg, w_lt, w_le, w_gt, w_ge, w_abs, w_int, w_intb, w_max2, w_min2, w_pno, w_ppart, w_sl, w_bm, w_yes, w_eqI, w_neI, w_eqB, w_neB, QS_nx, QS_rt, QS_bk, QS_ct, QF_nx, QF_rt, QL_nx, QL_ct, QL_bk, QL_rt, wipeE, List.set_cons_succ, List.set_cons_zero, List.getElem?_cons_succ, List.getElem?_cons_zero, D.bl.injEq, D.int.injEq, exists_eq_left', exists_eq_left, w_eAnd, w_tTru, tru_bl, if_true, if_false, Bool.false_eq_true]
      rw [w_setI (ks := prs w (rows.take i) ++ (prw w r).take j) (x := l) (by show eVar 3 _ _ = _; rfl) (by show eVar 6 _ _ = _; rfl) h2 len nk]
      simp only [w_seq, w_asg, w_ret, w_retN, w_drop, w_brk, w_cnt, w_nil, w_sif, w_c, w_ev, w_bin, w_un, w_anil, w_acons, w_tup, w_lst, w_call, w_tB, w_tNot, w_tAnd, w_tOr, w_eIf, w_isN, w_notN, w_gnm, w_gnils, w_gcns, w_gtp2, w_gtp3, w_gtp2p, w_ixT0, w_ixT1, w_ixT2, w_ch, w_chL, w_chK, w_par2, w_par3, w_add, w_sub, w_neg, w_lt, w_le, w_gt, w_ge, w_abs, w_int, w_intb, w_max2, w_min2, w_pno, w_ppart, w_sl, w_bm, w_yes, w_eqI, w_neI, w_eqB, w_neB, QS_nx, QS_rt, QS_bk, QS_ct, QF_nx, QF_rt, QL_nx, QL_ct, QL_bk, QL_rt, wipeE, List.set_cons_succ, List.set_cons_zero, List.getElem?_cons_succ, List.getElem?_cons_zero, D.bl.injEq, D.int.injEq, exists_eq_left', exists_eq_left, w_eAnd, w_tTru, tru_bl, if_true, if_false, Bool.false_eq_true, w_lru]
      have hne : S.length + 1 ≠ S.length := by omega
      have h1' : (S3.set (S.length + 1) (.dic (((prs w (rows.take i) ++ (prw w r).take j) ++ [(l, (j : Int))]).map kvI)))[S.length]? = some (.dic (((prs w (rows.take i) ++ (prw w r).take j).map (zU u)).map kvI)) := by
        rw [List.getElem?_set_ne hne]
        exact h1
      have nk' : l ∉ ((prs w (rows.take i) ++ (prw w r).take j).map (zU u)).map (·.1) := by rw [zU_keys]; exact nk
      have len' : ((prs w (rows.take i) ++ (prw w r).take j).map (zU u)).length < cap := by rw [List.length_map]; exact len
      cases u with
      | true =>
        rw [if_pos rfl, w_setI (ks := (prs w (rows.take i) ++ (prw w r).take j).map (zU true)) (x := l) (by show eVar 2 _ _ = _; rfl) (by show eVar 6 _ _ = _; rfl) h1' len' nk']
        refine ⟨_, _, rfl, (a3.set (by omega)).set (Nat.le_refl _), ?_, ?_⟩
        · rw [set_at h1', tk]
          simp [zU]
        · rw [List.getElem?_set_ne hne.symm, set_at h2, tk, List.append_assoc]
      | false =>
        rw [if_neg Bool.false_ne_true, w_setI (ks := (prs w (rows.take i) ++ (prw w r).take j).map (zU false)) (x := l) (by show eVar 2 _ _ = _; rfl) (by show eVar 6 _ _ = _; rfl) h1' len' nk']
        refine ⟨_, _, rfl, (a3.set (by omega)).set (Nat.le_refl _), ?_, ?_⟩
        · rw [set_at h1', tk]
          simp [zU]
        · rw [List.getElem?_set_ne hne.symm, set_at h2, tk, List.append_assoc]
    · rintro env S3 ⟨y, z, rfl, a3, h1, h2⟩
      have e : (prw w r).take ((r.map D.int).mapIdx enumD).length = prw w r := by
        rw [List.length_mapIdx, List.length_map]
        refine List.take_of_length_le ?_
        unfold prw
        rw [List.length_mapIdx, List.length_take]
        omega
      rw [e] at h1 h2
      exact ⟨_, _, _, rfl, a3, h1, h2⟩
  · rintro env S' ⟨x, y, z, rfl, a, g1, g2⟩
    rw [List.length_map, List.take_length] at g1 g2
    have hl : (prs w rows).length ≤ cap := by
      have e : (OR w rows).length = (prs w rows).length := (sortP_perm _).length_eq
      have := (kok_OR g hs4 hw4).len
      unfold cap
      omega
    simp only [w_seq, w_asg, w_ret, w_retN, w_drop, w_brk, w_cnt, w_nil, w_sif, w_c, w_ev, w_bin, w_un, w_anil, w_acons, w_tup, w_lst, w_call, w_tB, w_tNot, w_tAnd, w_tOr, w_eIf, w_isN, w_notN, w_gnm, w_gnils, w_gcns, w_gtp2, w_gtp3, w_gtp2p, w_ixT0, w_ixT1, w_ixT2, w_ch, w_chL, w_chK, w_par2, w_par3, w_add, w_sub, w_neg, w_lt, w_le, w_gt, w_ge, w_abs, w_int, w_intb, w_max2, w_min2, w_pno, w_ppart, w_sl, w_bm, w_yes, w_eqI, w_neI, w_eqB, w_neB, QS_nx, QS_rt, QS_bk, QS_ct, QF_nx, QF_rt, QL_nx, QL_ct, QL_bk, QL_rt, wipeE, List.set_cons_succ, List.set_cons_zero, List.getElem?_cons_succ, List.getElem?_cons_zero, D.bl.injEq, D.int.injEq, exists_eq_left', exists_eq_left, w_eAnd, w_tTru, tru_bl, if_true, if_false, Bool.false_eq_true]
    refine w_sortItems ?_
    simp only [w_seq, w_asg, w_ret, w_retN, w_drop, w_brk, w_cnt, w_nil, w_sif, w_c, w_ev, w_bin, w_un, w_anil, w_acons, w_tup, w_lst, w_call, w_tB, w_tNot, w_tAnd, w_tOr, w_eIf, w_isN, w_notN, w_gnm, w_gnils, w_gcns, w_gtp2, w_gtp3, w_gtp2p, w_ixT0, w_ixT1, w_ixT2, w_ch, w_chL, w_chK, w_par2, w_par3, w_add, w_sub, w_neg, w_lt, w_le, w_gt, w_ge, w_abs, w_int, w_intb, w_max2, w_min2, w_pno, w_ppart, w_sl, w_bm, w_yes, w_eqI, w_neI, w_eqB, w_neB, QS_nx, QS_rt, QS_bk, QS_ct, QF_nx, QF_rt, QL_nx, QL_ct, QL_bk, QL_rt, wipeE, List.set_cons_succ, List.set_cons_zero, List.getElem?_cons_succ, List.getElem?_cons_zero, D.bl.injEq, D.int.injEq, exists_eq_left', exists_eq_left, w_eAnd, w_tTru, tru_bl, if_true, if_false, Bool.false_eq_true, W_some]
    refine ⟨_, _, _, rfl, g1, intKV_kvI _, by rw [List.length_map]; exact hl, ?_⟩
    rw [w_tupR (getL_of (new_at _ _))]
    refine w_sortItems ?_
    simp only [w_seq, w_asg, w_ret, w_retN, w_drop, w_brk, w_cnt, w_nil, w_sif, w_c, w_ev, w_bin, w_un, w_anil, w_acons, w_tup, w_lst, w_call, w_tB, w_tNot, w_tAnd, w_tOr, w_eIf, w_isN, w_notN, w_gnm, w_gnils, w_gcns, w_gtp2, w_gtp3, w_gtp2p, w_ixT0, w_ixT1, w_ixT2, w_ch, w_chL, w_chK, w_par2, w_par3, w_add, w_sub, w_neg, w_lt, w_le, w_gt, w_ge, w_abs, w_int, w_intb, w_max2, w_min2, w_pno, w_ppart, w_sl, w_bm, w_yes, w_eqI, w_neI, w_eqB, w_neB, QS_nx, QS_rt, QS_bk, QS_ct, QF_nx, QF_rt, QL_nx, QL_ct, QL_bk, QL_rt, wipeE, List.set_cons_succ, List.set_cons_zero, List.getElem?_cons_succ, List.getElem?_cons_zero, D.bl.injEq, D.int.injEq, exists_eq_left', exists_eq_left, w_eAnd, w_tTru, tru_bl, if_true, if_false, Bool.false_eq_true, W_some]
    refine ⟨_, _, _, rfl, Ap.app _ _ _ _ g2, intKV_kvI _, hl, ?_⟩
    rw [w_tupR (getL_of (new_at _ _))]
    exact ⟨(by show 2 ≤ 10000000; decide), rfl, (a.trans (Ap.app _ _)).trans (Ap.app _ _)⟩
  · refine ⟨_, _, _, by rw [List.length_append]; rfl, (Ap.app _ _).trans (Ap.app _ _), ?_, ?_⟩
    · exact Ap.app _ _ _ _ (new_at _ _)
    · have z := new_at (S ++ [O.dic []]) (O.dic [])
      rw [List.length_append] at z
      exact z
end
end K50
/-! K50g: starts. -/
namespace K50
open PySem L2 FL M51
section
variable {S : Sto} {Q : D → Sto → Prop}
theorem is_start_ok {s w : Nat} {u : Bool} {rows : List (List Int)} (hs : 0 < s) (g : Good s rows) (hw : ∀ r ∈ rows, r.length ≤ w) (hs4 : s ≤ 4) (hw4 : w ≤ 4) :
    W (f_is_start [tD s w u, .tup (rows.map rwD)] S) fun d S' => d = .bl true ∧ Ap S S' := by
  have hs' : 0 < (s : Int) := by omega
  refine w_fn rfl ?_
  show W (b_is_start [some (tD s w u), some (.tup (rows.map rwD)), none, none, none] S) _
  unfold b_is_start
  simp only [w_seq, w_asg, w_ret, w_retN, w_drop, w_brk, w_cnt, w_nil, w_sif, w_c, w_ev, w_bin, w_un, w_anil, w_acons, w_tup, w_lst, w_call, w_tB, w_tNot, w_tAnd, w_tOr, w_eIf, w_isN, w_notN, w_gnm, w_gnils, w_gcns, w_gtp2, w_gtp3, w_gtp2p, w_ixT0, w_ixT1, w_ixT2, w_ch, w_chL, w_chK, w_par2, w_par3, w_add, w_sub, w_neg, w_lt, w_le, w_gt, w_ge, w_abs, w_int, w_intb, w_max2, w_min2, w_pno, w_ppart, w_sl, w_bm, w_yes, w_eqI, w_neI, w_eqB, w_neB, QS_nx, QS_rt, QS_bk, QS_ct, QF_nx, QF_rt, QL_nx, QL_ct, QL_bk, QL_rt, wipeE, List.set_cons_succ, List.set_cons_zero, List.getElem?_cons_succ, List.getElem?_cons_zero, D.bl.injEq, D.int.injEq, exists_eq_left', exists_eq_left, w_eAnd, w_tTru, tru_bl, if_true, if_false, Bool.false_eq_true, w_lenT]
  rw [List.length_map, g.len, decide_eq_true rfl]
  simp only [Bool.not_true, Bool.false_eq_true, if_false]
  refine w_for.mpr (w_enumT ?_)
  simp only [w_seq, w_asg, w_ret, w_retN, w_drop, w_brk, w_cnt, w_nil, w_sif, w_c, w_ev, w_bin, w_un, w_anil, w_acons, w_tup, w_lst, w_call, w_tB, w_tNot, w_tAnd, w_tOr, w_eIf, w_isN, w_notN, w_gnm, w_gnils, w_gcns, w_gtp2, w_gtp3, w_gtp2p, w_ixT0, w_ixT1, w_ixT2, w_ch, w_chL, w_chK, w_par2, w_par3, w_add, w_sub, w_neg, w_lt, w_le, w_gt, w_ge, w_abs, w_int, w_intb, w_max2, w_min2, w_pno, w_ppart, w_sl, w_bm, w_yes, w_eqI, w_neI, w_eqB, w_neB, QS_nx, QS_rt, QS_bk, QS_ct, QF_nx, QF_rt, QL_nx, QL_ct, QL_bk, QL_rt, wipeE, List.set_cons_succ, List.set_cons_zero, List.getElem?_cons_succ, List.getElem?_cons_zero, D.bl.injEq, D.int.injEq, exists_eq_left', exists_eq_left, w_eAnd, w_tTru, tru_bl, if_true, if_false, Bool.false_eq_true]
  refine ⟨_, rfl, ?_⟩
  refine for_fix (fun i env S' => ∃ x y z, env = [some (tD s w u), some (.tup (rows.map rwD)), x, y, z] ∧ Ap S S') ?_ ?_ ⟨_, _, _, rfl, Ap.refl _⟩
  · rintro i d env S1 hd ⟨x, y, z, rfl, a⟩
    rw [List.getElem?_mapIdx] at hd
    obtain ⟨d', hd', rfl⟩ := Option.map_eq_some_iff.mp hd
    rw [List.getElem?_map] at hd'
    obtain ⟨r, hr, rfl⟩ := Option.map_eq_some_iff.mp hd'
    have hrw := hw r (List.mem_of_getElem? hr)
    have nd := g.nd i r hr
    show W (gTp 2 (gCns (gNm 2) (gCns (gNm 3) gNils)) (.pr [.int i, rwD r]) _ S1) _
    simp only [w_seq, w_asg, w_ret, w_retN, w_drop, w_brk, w_cnt, w_nil, w_sif, w_c, w_ev, w_bin, w_un, w_anil, w_acons, w_tup, w_lst, w_call, w_tB, w_tNot, w_tAnd, w_tOr, w_eIf, w_isN, w_notN, w_gnm, w_gnils, w_gcns, w_gtp2, w_gtp3, w_gtp2p, w_ixT0, w_ixT1, w_ixT2, w_ch, w_chL, w_chK, w_par2, w_par3, w_add, w_sub, w_neg, w_lt, w_le, w_gt, w_ge, w_abs, w_int, w_intb, w_max2, w_min2, w_pno, w_ppart, w_sl, w_bm, w_yes, w_eqI, w_neI, w_eqB, w_neB, QS_nx, QS_rt, QS_bk, QS_ct, QF_nx, QF_rt, QL_nx, QL_ct, QL_bk, QL_rt, wipeE, List.set_cons_succ, List.set_cons_zero, List.getElem?_cons_succ, List.getElem?_cons_zero, D.bl.injEq, D.int.injEq, exists_eq_left', exists_eq_left, w_eAnd, w_tTru, tru_bl, if_true, if_false, Bool.false_eq_true, w_lenT]
    rw [decide_eq_false (by rw [List.length_map]; omega)]
    simp only [Bool.false_eq_true, if_false]
    refine w_dcD (ds := r.map D.int) (fun i => (r[i]?).map fun l => (l, D.bl true)) ?_ ?_ ?_ (by rw [List.length_map]; omega) fun n S2 a2 l2 g2 => ?_
    · refine w_iseqT ?_
      simp only [w_seq, w_asg, w_ret, w_retN, w_drop, w_brk, w_cnt, w_nil, w_sif, w_c, w_ev, w_bin, w_un, w_anil, w_acons, w_tup, w_lst, w_call, w_tB, w_tNot, w_tAnd, w_tOr, w_eIf, w_isN, w_notN, w_gnm, w_gnils, w_gcns, w_gtp2, w_gtp3, w_gtp2p, w_ixT0, w_ixT1, w_ixT2, w_ch, w_chL, w_chK, w_par2, w_par3, w_add, w_sub, w_neg, w_lt, w_le, w_gt, w_ge, w_abs, w_int, w_intb, w_max2, w_min2, w_pno, w_ppart, w_sl, w_bm, w_yes, w_eqI, w_neI, w_eqB, w_neB, QS_nx, QS_rt, QS_bk, QS_ct, QF_nx, QF_rt, QL_nx, QL_ct, QL_bk, QL_rt, wipeE, List.set_cons_succ, List.set_cons_zero, List.getElem?_cons_succ, List.getElem?_cons_zero, D.bl.injEq, D.int.injEq, exists_eq_left', exists_eq_left, w_eAnd, w_tTru, tru_bl, if_true, if_false, Bool.false_eq_true]
      exact ⟨_, rfl, Ap.refl _, by simp [ItD.fix], fun S2 a i => rfl⟩
    · intro j d hd S2 a2
      rw [List.getElem?_map] at hd
      obtain ⟨l, hl, rfl⟩ := Option.map_eq_some_iff.mp hd
      simp only [w_seq, w_asg, w_ret, w_retN, w_drop, w_brk, w_cnt, w_nil, w_sif, w_c, w_ev, w_bin, w_un, w_anil, w_acons, w_tup, w_lst, w_call, w_tB, w_tNot, w_tAnd, w_tOr, w_eIf, w_isN, w_notN, w_gnm, w_gnils, w_gcns, w_gtp2, w_gtp3, w_gtp2p, w_ixT0, w_ixT1, w_ixT2, w_ch, w_chL, w_chK, w_par2, w_par3, w_add, w_sub, w_neg, w_lt, w_le, w_gt, w_ge, w_abs, w_int, w_intb, w_max2, w_min2, w_pno, w_ppart, w_sl, w_bm, w_yes, w_eqI, w_neI, w_eqB, w_neB, QS_nx, QS_rt, QS_bk, QS_ct, QF_nx, QF_rt, QL_nx, QL_ct, QL_bk, QL_rt, wipeE, List.set_cons_succ, List.set_cons_zero, List.getElem?_cons_succ, List.getElem?_cons_zero, D.bl.injEq, D.int.injEq, exists_eq_left', exists_eq_left, w_eAnd, w_tTru, tru_bl, if_true, if_false, Bool.false_eq_true, hl]
      refine ⟨rfl, Ap.refl _, fun p hp => ?_⟩
      cases hp
      exact ⟨rfl, Ap.refl _, rfl, Ap.refl _⟩
    · rw [List.length_map, rangeFM, List.map_map]
      show (r.map fun l => l).Nodup
      rw [List.map_id']
      exact nd
    · rw [List.length_map, rangeFM, List.map_map] at g2
      rw [w_lenD g2]
      simp only [w_seq, w_asg, w_ret, w_retN, w_drop, w_brk, w_cnt, w_nil, w_sif, w_c, w_ev, w_bin, w_un, w_anil, w_acons, w_tup, w_lst, w_call, w_tB, w_tNot, w_tAnd, w_tOr, w_eIf, w_isN, w_notN, w_gnm, w_gnils, w_gcns, w_gtp2, w_gtp3, w_gtp2p, w_ixT0, w_ixT1, w_ixT2, w_ch, w_chL, w_chK, w_par2, w_par3, w_add, w_sub, w_neg, w_lt, w_le, w_gt, w_ge, w_abs, w_int, w_intb, w_max2, w_min2, w_pno, w_ppart, w_sl, w_bm, w_yes, w_eqI, w_neI, w_eqB, w_neB, QS_nx, QS_rt, QS_bk, QS_ct, QF_nx, QF_rt, QL_nx, QL_ct, QL_bk, QL_rt, wipeE, List.set_cons_succ, List.set_cons_zero, List.getElem?_cons_succ, List.getElem?_cons_zero, D.bl.injEq, D.int.injEq, exists_eq_left', exists_eq_left, w_eAnd, w_tTru, tru_bl, if_true, if_false, Bool.false_eq_true, w_lenT, List.length_map, decide_true, Bool.not_true, Bool.false_eq_true, if_false]
      refine w_lcm (ds := r.map D.int) (fun _ => .bl false) (fun _ => true) ?_ (fun d hd S3 a3 => ?_) (by rw [List.length_map]; unfold cap; omega) fun n3 S3 a3 l3 g3 => ?_
      · refine w_iseqT ?_
        simp only [w_seq, w_asg, w_ret, w_retN, w_drop, w_brk, w_cnt, w_nil, w_sif, w_c, w_ev, w_bin, w_un, w_anil, w_acons, w_tup, w_lst, w_call, w_tB, w_tNot, w_tAnd, w_tOr, w_eIf, w_isN, w_notN, w_gnm, w_gnils, w_gcns, w_gtp2, w_gtp3, w_gtp2p, w_ixT0, w_ixT1, w_ixT2, w_ch, w_chL, w_chK, w_par2, w_par3, w_add, w_sub, w_neg, w_lt, w_le, w_gt, w_ge, w_abs, w_int, w_intb, w_max2, w_min2, w_pno, w_ppart, w_sl, w_bm, w_yes, w_eqI, w_neI, w_eqB, w_neB, QS_nx, QS_rt, QS_bk, QS_ct, QF_nx, QF_rt, QL_nx, QL_ct, QL_bk, QL_rt, wipeE, List.set_cons_succ, List.set_cons_zero, List.getElem?_cons_succ, List.getElem?_cons_zero, D.bl.injEq, D.int.injEq, exists_eq_left', exists_eq_left, w_eAnd, w_tTru, tru_bl, if_true, if_false, Bool.false_eq_true]
        exact ⟨_, rfl, Ap.refl _, by simp [ItD.fix], fun S2 a i => rfl⟩
      · obtain ⟨l, hl, rfl⟩ := List.mem_map.mp hd
        have := g.md i r l hr hl
        simp only [w_seq, w_asg, w_ret, w_retN, w_drop, w_brk, w_cnt, w_nil, w_sif, w_c, w_ev, w_bin, w_un, w_anil, w_acons, w_tup, w_lst, w_call, w_tB, w_tNot, w_tAnd, w_tOr, w_eIf, w_isN, w_notN, w_gnm, w_gnils, w_gcns, w_gtp2, w_gtp3, w_gtp2p, w_ixT0, w_ixT1, w_ixT2, w_ch, w_chL, w_chK, w_par2, w_par3, w_add, w_sub, w_neg, w_lt, w_le, w_gt, w_ge, w_abs, w_int, w_intb, w_max2, w_min2, w_pno, w_ppart, w_sl, w_bm, w_yes, w_eqI, w_neI, w_eqB, w_neB, QS_nx, QS_rt, QS_bk, QS_ct, QF_nx, QF_rt, QL_nx, QL_ct, QL_bk, QL_rt, wipeE, List.set_cons_succ, List.set_cons_zero, List.getElem?_cons_succ, List.getElem?_cons_zero, D.bl.injEq, D.int.injEq, exists_eq_left', exists_eq_left, w_eAnd, w_tTru, tru_bl, if_true, if_false, Bool.false_eq_true, w_mod hs']
        refine ⟨by trivial, Ap.refl _, fun _ => ⟨by rw [this]; simp, Ap.refl _⟩⟩
      · have e : ((r.map D.int).filter fun _ => true).map (fun _ => D.bl false) = (List.replicate r.length false).map D.bl := by
          rw [filterT, List.map_map, List.map_replicate]
          show r.map (fun _ => D.bl false) = _
          rw [List.map_const']
        rw [e] at g3
        rw [w_anyB (getL_of g3)]
        have e5 : (List.replicate r.length false).any id = false := by
          rw [List.any_eq_false]
          intro x hx
          rw [List.eq_of_mem_replicate hx]
          exact Bool.false_ne_true
        rw [e5]
        simp only [tru_bl, Bool.false_eq_true, if_false]
        exact ⟨_, _, _, rfl, (a.trans a2).trans a3⟩
  · rintro env S' ⟨x, y, z, rfl, a⟩
    simp only [w_seq, w_asg, w_ret, w_retN, w_drop, w_brk, w_cnt, w_nil, w_sif, w_c, w_ev, w_bin, w_un, w_anil, w_acons, w_tup, w_lst, w_call, w_tB, w_tNot, w_tAnd, w_tOr, w_eIf, w_isN, w_notN, w_gnm, w_gnils, w_gcns, w_gtp2, w_gtp3, w_gtp2p, w_ixT0, w_ixT1, w_ixT2, w_ch, w_chL, w_chK, w_par2, w_par3, w_add, w_sub, w_neg, w_lt, w_le, w_gt, w_ge, w_abs, w_int, w_intb, w_max2, w_min2, w_pno, w_ppart, w_sl, w_bm, w_yes, w_eqI, w_neI, w_eqB, w_neB, QS_nx, QS_rt, QS_bk, QS_ct, QF_nx, QF_rt, QL_nx, QL_ct, QL_bk, QL_rt, wipeE, List.set_cons_succ, List.set_cons_zero, List.getElem?_cons_succ, List.getElem?_cons_zero, D.bl.injEq, D.int.injEq, exists_eq_left', exists_eq_left, w_eAnd, w_tTru, tru_bl, if_true, if_false, Bool.false_eq_true]
    exact ⟨by trivial, a⟩
end
end K50
/-! M50: the plain law of k50: what is known, as functions from lines to ages. -/
namespace K50
open FL M51
/-! ### lists by what they tell -/
def Asc (k : List P) : Prop := k.Pairwise fun p q => p.1 < q.1
theorem Asc.nd {k : List P} (h : Asc k) : (k.map (·.1)).Nodup := by
  rw [List.Nodup, List.pairwise_map]
  exact h.imp fun h e => by rw [e] at h; exact Int.lt_irrefl _ h
theorem Asc.later {k : List P} (h : Asc k) : k.Pairwise later := h.imp fun h => by
  rw [later_iff]
  omega
theorem asc_sortP {l : List P} (h : (l.map (·.1)).Nodup) : Asc (sortP l) := by
  have h2 : ((sortP l).map (·.1)).Nodup := ((sortP_perm l).map _).nodup_iff.mpr h
  rw [List.Nodup, List.pairwise_map] at h2
  refine (List.Pairwise.and (sortP_sorted l) h2).imp fun ⟨a, b⟩ => ?_
  rw [later_iff] at a
  omega
theorem lk_mem {k : List P} (h : (k.map (·.1)).Nodup) {x a : Int} : lkP k x = some a ↔ (x, a) ∈ k := lkP_some h
theorem lk_ext {k k' : List P} (h : Asc k) (h' : Asc k') (e : ∀ x, lkP k x = lkP k' x) : k = k' := by
  refine sortedP_uniq ((List.perm_ext_iff_of_nodup (nodup_of_keys h.nd) (nodup_of_keys h'.nd)).mpr fun ⟨x, a⟩ => ?_) h.later h'.later
  rw [← lk_mem h.nd, ← lk_mem h'.nd, e]
theorem lk_opt {k k' : List P} (h : (k.map (·.1)).Nodup) (h' : (k'.map (·.1)).Nodup) {x y : Int} (e : ∀ a, (x, a) ∈ k ↔ (y, a) ∈ k') : lkP k x = lkP k' y := by
  cases e1 : lkP k x with
  | some a =>
    have := (e a).mp ((lk_mem h).mp e1)
    rw [(lk_mem h').mpr this]
  | none =>
    cases e2 : lkP k' y with
    | none => rfl
    | some a =>
      have := (e a).mpr ((lk_mem h').mp e2)
      rw [(lk_mem h).mpr this] at e1
      cases e1
theorem lk_sortP {l : List P} (h : (l.map (·.1)).Nodup) (x : Int) : lkP (sortP l) x = lkP l x := lk_opt (((sortP_perm l).map _).nodup_iff.mpr h) h fun a => (sortP_perm l).mem_iff
theorem lk_cons (l a : Int) (k : List P) (x : Int) : lkP ((l, a) :: k) x = if x = l then some a else lkP k x := by
  unfold lkP
  rw [List.find?_cons]
  by_cases e : x = l
  · subst e
    rw [if_pos rfl, decide_eq_true rfl]
    rfl
  · rw [if_neg e, decide_eq_false (fun z => e z.symm)]
theorem keys_sub {F : P → Option P} (hF : ∀ p q, F p = some q → q.1 = p.1) {k : List P} {x : Int} (h : x ∈ (k.filterMap F).map (·.1)) : x ∈ k.map (·.1) := by
  obtain ⟨q, hq, e⟩ := List.mem_map.mp h
  obtain ⟨p, hp, e2⟩ := List.mem_filterMap.mp hq
  exact List.mem_map.mpr ⟨p, hp, by rw [← hF p q e2, e]⟩
theorem keys_fm {F : P → Option P} (hF : ∀ p q, F p = some q → q.1 = p.1) : ∀ {k : List P}, (k.map (·.1)).Nodup → ((k.filterMap F).map (·.1)).Nodup
  | [], _ => List.Pairwise.nil
  | p :: k, h => by
    rw [List.map_cons, List.nodup_cons] at h
    rw [List.filterMap_cons]
    split
    · exact keys_fm hF h.2
    · rename_i q hq
      rw [List.map_cons, List.nodup_cons, hF p q hq]
      exact ⟨fun z => h.1 (keys_sub hF z), keys_fm hF h.2⟩
theorem lk_fm {F : P → Option P} (hF : ∀ p q, F p = some q → q.1 = p.1) {k : List P} (h : (k.map (·.1)).Nodup) (x : Int) : lkP (k.filterMap F) x = (lkP k x).bind fun a => (F (x, a)).map (·.2) := by
  cases e : lkP k x with
  | none =>
    cases e2 : lkP (k.filterMap F) x with
    | none => rfl
    | some b =>
      obtain ⟨p, hp, e3⟩ := List.mem_filterMap.mp ((lk_mem (keys_fm hF h)).mp e2)
      have e4 : p.1 = x := (hF p _ e3).symm
      have : (x, p.2) ∈ k := by rw [← e4]; exact hp
      rw [(lk_mem h).mpr this] at e
      cases e
  | some a =>
    have ha := (lk_mem h).mp e
    rw [Option.bind_some]
    cases e2 : F (x, a) with
    | some q =>
      have e3 : q.1 = x := hF _ _ e2
      refine (lk_mem (keys_fm hF h)).mpr (List.mem_filterMap.mpr ⟨(x, a), ha, ?_⟩)
      rw [e2, ← e3]
    | none =>
      cases e5 : lkP (k.filterMap F) x with
      | none => rfl
      | some b =>
        obtain ⟨p, hp, e3⟩ := List.mem_filterMap.mp ((lk_mem (keys_fm hF h)).mp e5)
        have e4 : p.1 = x := (hF p _ e3).symm
        have : (x, p.2) ∈ k := by rw [← e4]; exact hp
        have e6 : p.2 = a := Option.some.inj (((lk_mem h).mpr this).symm.trans e)
        have e7 : p = (x, a) := Prod.ext e4 e6
        rw [e7, e2] at e3
        cases e3
theorem filter_fm (f : P → Bool) (k : List P) : k.filter f = k.filterMap fun p => if f p = true then some p else none := by
  induction k with
  | nil => rfl
  | cons p k ih =>
    rw [List.filter_cons, List.filterMap_cons, ih]
    by_cases h : f p = true
    · simp [h]
    · simp [h]
theorem lk_filter (f : P → Bool) {k : List P} (h : (k.map (·.1)).Nodup) (x : Int) : lkP (k.filter f) x = (lkP k x).bind fun a => if f (x, a) = true then some a else none := by
  rw [filter_fm, lk_fm (fun p q e => by split at e <;> cases e; rfl) h]
  congr 1
  funext a
  split <;> rfl
theorem asc_filter (f : P → Bool) {k : List P} (h : Asc k) : Asc (k.filter f) := h.filter f
/-! ### the steps -/
abbrev Fn := Int → Option Int
def uF (s v : Nat) (l : Int) (f : Fn) : Fn := fun x => if x = l then some 0 else (f x).bind fun a => if (if x % (s : Int) = l % (s : Int) ∧ a < (f l).getD v then a + 1 else a) < (v : Int) then some (if x % (s : Int) = l % (s : Int) ∧ a < (f l).getD v then a + 1 else a) else none
def aF (u : Bool) (s w : Nat) (l : Int) (f : Fn) : Fn := fun x => if x = l then some 0 else (f x).bind fun a => if (if u = true ∧ x % (s : Int) = l % (s : Int) ∧ a ≤ (f l).getD w then a + 1 else a) < (w : Int) then some (if u = true ∧ x % (s : Int) = l % (s : Int) ∧ a ≤ (f l).getD w then a + 1 else a) else none
def tF (u : Bool) (s w : Nat) (l : Int) (f : Fn) : Fn := if u = true then uF s w l f else fun x => if x = l then some ((f l).getD 0) else f x
def mF (l : Int) (f : Fn) : Fn := fun x => if x = l then none else f x
theorem nd_cons {F : P → Option P} (hF : ∀ p q, F p = some q → q.1 = p.1) {l : Int} (hl : ∀ p q, F p = some q → p.1 ≠ l) {k : List P} (h : (k.map (·.1)).Nodup) : (((l, (0 : Int)) :: k.filterMap F).map (·.1)).Nodup := by
  rw [List.map_cons, List.nodup_cons]
  refine ⟨fun z => ?_, keys_fm hF h⟩
  obtain ⟨q, hq, e⟩ := List.mem_map.mp z
  obtain ⟨p, hp, e2⟩ := List.mem_filterMap.mp hq
  exact hl p q e2 (by rw [← hF p q e2, e])
theorem usedF_ne {s w : Nat} {l b : Int} : ∀ p q, usedF s w l b p = some q → p.1 ≠ l := fun p q h => (usedF_some.mp h).1
theorem uK_asc {s v : Nat} {l : Int} {k : List P} (h : Asc k) : Asc (uK s v l k) := asc_sortP (nd_cons usedF_key usedF_ne h.nd)
theorem lk_uK {s v : Nat} {l : Int} {k : List P} (h : Asc k) (x : Int) : lkP (uK s v l k) x = uF s v l (lkP k) x := by
  unfold uK uF usedL
  rw [lk_sortP (nd_cons usedF_key usedF_ne h.nd), lk_cons]
  by_cases e : x = l
  · rw [if_pos e, if_pos e]
  · rw [if_neg e, if_neg e, lk_fm usedF_key h.nd]
    congr 1
    funext a
    unfold usedF older bf
    rw [if_neg e]
    show Option.map (fun x => x.2) (if (if x % (s : Int) = l % (s : Int) ∧ a < (lkP k l).getD v then a + 1 else a) < (v : Int) then some (x, if x % (s : Int) = l % (s : Int) ∧ a < (lkP k l).getD v then a + 1 else a) else none) = _
    generalize (if x % (s : Int) = l % (s : Int) ∧ a < (lkP k l).getD v then a + 1 else a) = o
    split <;> rfl
theorem aK_asc {u : Bool} {s w : Nat} {l : Int} {k : List P} (h : Asc k) : Asc (aK u s w l k) := asc_sortP (nd_cons agedF_key agedF_ne h.nd)
theorem lk_aK {u : Bool} {s w : Nat} {l : Int} {k : List P} (h : Asc k) (x : Int) : lkP (aK u s w l k) x = aF u s w l (lkP k) x := by
  unfold aK aF
  rw [lk_sortP (nd_cons agedF_key agedF_ne h.nd), lk_cons]
  by_cases e : x = l
  · rw [if_pos e, if_pos e]
  · rw [if_neg e, if_neg e, lk_fm agedF_key h.nd]
    congr 1
    funext a
    unfold agG olG bf
    rw [if_neg e]
    show Option.map (fun x => x.2) (if (if u = true ∧ x % (s : Int) = l % (s : Int) ∧ a ≤ (lkP k l).getD w then a + 1 else a) < (w : Int) then some (x, if u = true ∧ x % (s : Int) = l % (s : Int) ∧ a ≤ (lkP k l).getD w then a + 1 else a) else none) = _
    generalize (if u = true ∧ x % (s : Int) = l % (s : Int) ∧ a ≤ (lkP k l).getD w then a + 1 else a) = o
    split <;> rfl
theorem hasK_iff {k : List P} (h : (k.map (·.1)).Nodup) (l : Int) : hasK k l = (lkP k l).isSome := by
  unfold hasK lkP
  rw [Option.isSome_map, List.isSome_find?]
theorem tcK_asc {u : Bool} {s w : Nat} {l : Int} {k : List P} (h : Asc k) : Asc (tcK u s w l k) := by
  unfold tcK
  split
  · exact uK_asc h
  · split
    · exact h
    · rename_i z
      refine asc_sortP ?_
      rw [List.map_append, List.nodup_append]
      refine ⟨h.nd, by simp, fun a ha b hb e => ?_⟩
      have hb' : b = l := by simpa using hb
      subst hb'
      subst e
      obtain ⟨p, hp, e⟩ := List.mem_map.mp ha
      apply z
      unfold hasK
      rw [List.any_eq_true]
      exact ⟨p, hp, decide_eq_true e⟩
theorem lk_app {k : List P} {l : Int} (h : hasK k l ≠ true) (x : Int) : lkP (k ++ [(l, 0)]) x = if x = l then some 0 else lkP k x := by
  induction k with
  | nil => exact lk_cons l 0 [] x
  | cons p k ih =>
    unfold hasK at h
    rw [List.any_cons] at h
    have hp : p.1 ≠ l := fun e => h (by rw [decide_eq_true e]; rfl)
    have hk : hasK k l ≠ true := fun e => h (by unfold hasK at e; rw [e, Bool.or_true])
    rw [List.cons_append, show p = (p.1, p.2) from rfl, lk_cons, lk_cons, ih hk]
    by_cases e : x = l
    · subst e
      rw [if_neg (fun z => hp z.symm), if_pos rfl, if_pos rfl]
    · rw [if_neg e, if_neg e]
theorem lk_tcK {u : Bool} {s w : Nat} {l : Int} {k : List P} (h : Asc k) (x : Int) : lkP (tcK u s w l k) x = tF u s w l (lkP k) x := by
  unfold tF
  have ha := tcK_asc (u := u) (s := s) (w := w) (l := l) h
  unfold tcK at ha ⊢
  by_cases hu : u = true
  · rw [if_pos hu, if_pos hu]
    exact lk_uK h x
  · rw [if_neg hu] at ha ⊢
    rw [if_neg hu]
    by_cases hh : hasK k l = true
    · rw [if_pos hh]
      rw [hasK_iff h.nd] at hh
      by_cases e : x = l
      · rw [if_pos e, e]
        obtain ⟨a, e2⟩ := Option.isSome_iff_exists.mp hh
        rw [e2]
        rfl
      · rw [if_neg e]
    · rw [if_neg hh] at ha ⊢
      have hn : lkP k l = none := by
        rw [hasK_iff h.nd] at hh
        simpa using hh
      have nd : ((k ++ [(l, (0 : Int))]).map (·.1)).Nodup := ((sortP_perm _).map _).nodup_iff.mp ha.nd
      rw [lk_sortP nd, lk_app hh]
      by_cases e : x = l
      · rw [if_pos e, if_pos e, hn]
        rfl
      · rw [if_neg e, if_neg e]
def msK (l : Int) (k : List P) : List P := k.filter fun p => decide (p.1 ≠ l)
theorem msK_asc {l : Int} {k : List P} (h : Asc k) : Asc (msK l k) := asc_filter _ h
theorem lk_msK {l : Int} {k : List P} (h : Asc k) (x : Int) : lkP (msK l k) x = mF l (lkP k) x := by
  unfold msK mF
  rw [lk_filter _ h.nd]
  by_cases e : x = l
  · rw [if_pos e]
    cases lkP k x <;> simp [e]
  · rw [if_neg e]
    cases lkP k x <;> simp [e]
/-! ### parts and names -/
theorem ptK_asc {s : Nat} {i : Int} {k : List P} (hs : 0 < s) (h : Asc k) : Asc (ptK s i k) := by
  unfold ptK Asc
  rw [List.pairwise_map]
  refine (List.Pairwise.and_mem.mp (h.filter _)).imp fun {p q} ⟨h1, h2, h3⟩ => ?_
  have e1 := of_decide_eq_true (List.mem_filter.mp h1).2
  have e2 := of_decide_eq_true (List.mem_filter.mp h2).2
  show _ / (s : Int) < _ / (s : Int)
  have d1 := Int.emod_add_mul_ediv p.1 s
  have d2 := Int.emod_add_mul_ediv q.1 s
  rw [e1] at d1
  rw [e2] at d2
  have h3' : (s : Int) * (p.1 / s) < (s : Int) * (q.1 / s) := by omega
  exact Int.lt_of_mul_lt_mul_left h3' (by omega)
theorem lk_ptK {s : Nat} {i : Int} {k : List P} (hs : 0 < s) (h0 : 0 ≤ i) (h1 : i < s) (h : Asc k) (y : Int) : lkP (ptK s i k) y = lkP k ((s : Int) * y + i) := by
  refine lk_opt (ptK_asc hs h).nd h.nd fun a => ?_
  unfold ptK
  rw [List.mem_map]
  have em : ((s : Int) * y + i) % (s : Int) = i := by
    rw [Int.add_comm, Int.add_mul_emod_self_left]
    exact Int.emod_eq_of_lt h0 h1
  have ed : ((s : Int) * y + i) / (s : Int) = y := by
    rw [Int.add_comm, Int.add_mul_ediv_left _ _ (by omega), Int.ediv_eq_zero_of_lt h0 h1]
    omega
  constructor
  · rintro ⟨⟨x, b⟩, hp, e⟩
    obtain ⟨hp1, hp2⟩ := List.mem_filter.mp hp
    have hp2 := of_decide_eq_true hp2
    injection e with e1 e2
    have d := Int.emod_add_mul_ediv x s
    have hp2' : x % (s : Int) = i := hp2
    have e1' : x / (s : Int) = y := e1
    rw [hp2', e1'] at d
    have e2' : b = a := e2
    subst e2'
    rw [show (s : Int) * y + i = x by omega]
    exact hp1
  · intro hm
    exact ⟨_, List.mem_filter.mpr ⟨hm, decide_eq_true em⟩, by rw [ed]⟩
theorem nmK_nd {f : Int → Int} (hf : ∀ x y, f x = f y → x = y) {k : List P} (h : Asc k) : ((k.map fun p => (f p.1, p.2)).map (·.1)).Nodup := by
  rw [List.map_map, List.Nodup, List.pairwise_map]
  have := h.nd
  rw [List.Nodup, List.pairwise_map] at this
  exact this.imp fun hne e => hne (hf _ _ e)
theorem nmK_asc {f : Int → Int} (hf : ∀ x y, f x = f y → x = y) {k : List P} (h : Asc k) : Asc (nmK f k) := asc_sortP (nmK_nd hf h)
theorem lk_nmK {f : Int → Int} (hf : ∀ x y, f x = f y → x = y) {k : List P} (h : Asc k) (x : Int) : lkP (nmK f k) (f x) = lkP k x := by
  unfold nmK
  rw [lk_sortP (nmK_nd hf h)]
  refine lk_opt (nmK_nd hf h) h.nd fun a => ?_
  rw [List.mem_map]
  constructor
  · rintro ⟨⟨y, b⟩, hp, e⟩
    injection e with e1 e2
    have e3 := hf _ _ e1
    subst e3
    have e2' : b = a := e2
    subst e2'
    exact hp
  · intro h
    exact ⟨_, h, rfl⟩
theorem lk_nmK_out {f : Int → Int} (hf : ∀ x y, f x = f y → x = y) {k : List P} (h : Asc k) (z : Int) (hz : ∀ x, f x ≠ z) : lkP (nmK f k) z = none := by
  unfold nmK
  rw [lk_sortP (nmK_nd hf h)]
  cases e : lkP (k.map fun p => (f p.1, p.2)) z with
  | none => rfl
  | some a =>
    obtain ⟨p, hp, e2⟩ := List.mem_map.mp ((lk_mem (nmK_nd hf h)).mp e)
    injection e2 with e3
    exact absurd e3 (hz _)
/-- one cache seen within another one -/
structure Emb (φ : Int → Int) (s s' : Nat) : Prop where
  inj : ∀ x y, φ x = φ y → x = y
  same : ∀ x y, φ x % (s : Int) = φ y % (s : Int) ↔ x % (s' : Int) = y % (s' : Int)
theorem Emb.eq {φ : Int → Int} {s s' : Nat} (e : Emb φ s s') (x y : Int) : φ x = φ y ↔ x = y := ⟨e.inj x y, fun h => by rw [h]⟩
theorem uF_nat {φ : Int → Int} {s s' v : Nat} {l : Int} {f g : Fn} (e : Emb φ s s') (h : ∀ y, g y = f (φ y)) (y : Int) : uF s' v l g y = uF s v (φ l) f (φ y) := by
  unfold uF
  simp only [e.eq, e.same, h]
theorem aF_nat {φ : Int → Int} {u : Bool} {s s' v : Nat} {l : Int} {f g : Fn} (e : Emb φ s s') (h : ∀ y, g y = f (φ y)) (y : Int) : aF u s' v l g y = aF u s v (φ l) f (φ y) := by
  unfold aF
  simp only [e.eq, e.same, h]
theorem tF_nat {φ : Int → Int} {u : Bool} {s s' v : Nat} {l : Int} {f g : Fn} (e : Emb φ s s') (h : ∀ y, g y = f (φ y)) (y : Int) : tF u s' v l g y = tF u s v (φ l) f (φ y) := by
  unfold tF
  split
  · exact uF_nat e h y
  · simp only [e.eq, h]
theorem mF_nat {φ : Int → Int} {s s' : Nat} {l : Int} {f g : Fn} (e : Emb φ s s') (h : ∀ y, g y = f (φ y)) (y : Int) : mF l g y = mF (φ l) f (φ y) := by
  unfold mF
  simp only [e.eq, h]
/-- lines of another set stay -/
theorem uF_off {s v : Nat} {l x : Int} {f : Fn} (h : x % (s : Int) ≠ l % (s : Int)) (b : ∀ a, f x = some a → a < v) : uF s v l f x = f x := by
  unfold uF
  rw [if_neg (fun e => h (by rw [e]))]
  cases e : f x with
  | none => rfl
  | some a =>
    rw [Option.bind_some]
    simp [h, b a e]
theorem aF_off {u : Bool} {s v : Nat} {l x : Int} {f : Fn} (h : x % (s : Int) ≠ l % (s : Int)) (b : ∀ a, f x = some a → a < v) : aF u s v l f x = f x := by
  unfold aF
  rw [if_neg (fun e => h (by rw [e]))]
  cases e : f x with
  | none => rfl
  | some a =>
    rw [Option.bind_some]
    simp [h, b a e]
theorem tF_off {u : Bool} {s w : Nat} {l x : Int} {f : Fn} (h : x % (s : Int) ≠ l % (s : Int)) (b : ∀ a, f x = some a → a < sur w u) : tF u s w l f x = f x := by
  unfold tF
  split
  · rename_i hu
    refine uF_off h fun a e => ?_
    have := b a e
    unfold sur at this
    rwa [if_pos hu] at this
  · exact if_neg (fun e => h (by rw [e]))
theorem mF_off {s : Nat} {l x : Int} {f : Fn} (h : x % (s : Int) ≠ l % (s : Int)) : mF l f x = f x := if_neg fun e => h (by rw [e])
theorem emb_part {s : Nat} {i : Int} (hs : 0 < s) (h0 : 0 ≤ i) (h1 : i < s) : Emb (fun y => (s : Int) * y + i) s 1 := by
  refine ⟨fun x y e => ?_, fun x y => ?_⟩
  · have e' : (s : Int) * x = (s : Int) * y := by
      have e2 : (s : Int) * x + i = (s : Int) * y + i := e
      omega
    exact Int.eq_of_mul_eq_mul_left (by omega) e'
  · have em : ∀ y : Int, ((s : Int) * y + i) % (s : Int) = i := fun y => by
      rw [Int.add_comm, Int.add_mul_emod_self_left]
      exact Int.emod_eq_of_lt h0 h1
    show ((s : Int) * x + i) % (s : Int) = ((s : Int) * y + i) % (s : Int) ↔ _
    rw [em, em]
    exact ⟨fun _ => by omega, fun _ => rfl⟩
/-! ### what is known, well formed -/
structure CK (N v : Nat) (k : List P) : Prop where
  asc : Asc k
  ok : ∀ x a, lkP k x = some a → 0 ≤ a ∧ a < (v : Int) ∧ 0 ≤ x ∧ x < (N : Int)
theorem asc_len : ∀ {k : List P} {n : Nat} {m : Int}, Asc k → (∀ p ∈ k, m ≤ p.1 ∧ p.1 < m + n) → k.length ≤ n
  | [], _, _, _, _ => Nat.zero_le _
  | p :: k, 0, m, _, h => by
    have := h p List.mem_cons_self
    omega
  | p :: k, n + 1, m, ha, h => by
    unfold Asc at ha
    rw [List.pairwise_cons] at ha
    have h1 := h p List.mem_cons_self
    rw [List.length_cons]
    refine Nat.succ_le_succ (asc_len (m := m + 1) ha.2 fun q hq => ?_)
    have h2 := ha.1 q hq
    have h3 := h q (List.mem_cons_of_mem _ hq)
    omega
theorem CK.kok {N v : Nat} {k : List P} (h : CK N v k) (hN : N ≤ 1000) (hv : v ≤ 1000) : Kok k := by
  have hp : ∀ p ∈ k, 0 ≤ p.2 ∧ p.2 < (v : Int) ∧ 0 ≤ p.1 ∧ p.1 < (N : Int) := fun p hp => h.ok p.1 p.2 ((lk_mem h.asc.nd).mpr hp)
  refine ⟨h.asc.nd, Nat.le_trans (asc_len (n := N) (m := 0) h.asc fun p q => ?_) hN, fun p q => ?_⟩
  · have := hp p q
    omega
  · have := hp p q
    omega
theorem uF_ok {N s v : Nat} {l : Int} {f : Fn} (hv : 0 < v) (hl : 0 ≤ l ∧ l < (N : Int)) (h : ∀ x a, f x = some a → 0 ≤ a ∧ a < (v : Int) ∧ 0 ≤ x ∧ x < (N : Int)) : ∀ x a, uF s v l f x = some a → 0 ≤ a ∧ a < (v : Int) ∧ 0 ≤ x ∧ x < (N : Int) := by
  intro x a e
  unfold uF at e
  split at e
  · cases e
    rename_i e
    subst e
    exact ⟨by omega, by omega, hl.1, hl.2⟩
  · obtain ⟨b, h1, h2⟩ := Option.bind_eq_some_iff.mp e
    have := h x b h1
    generalize ho : (if x % (s : Int) = l % (s : Int) ∧ b < (f l).getD v then b + 1 else b) = o at h2
    have o0 : 0 ≤ o := by
      rw [← ho]
      split <;> omega
    split at h2
    · rename_i h3
      cases h2
      exact ⟨o0, h3, this.2.2⟩
    · cases h2
theorem aF_ok {u : Bool} {N s v : Nat} {l : Int} {f : Fn} (hv : 0 < v) (hl : 0 ≤ l ∧ l < (N : Int)) (h : ∀ x a, f x = some a → 0 ≤ a ∧ a < (v : Int) ∧ 0 ≤ x ∧ x < (N : Int)) : ∀ x a, aF u s v l f x = some a → 0 ≤ a ∧ a < (v : Int) ∧ 0 ≤ x ∧ x < (N : Int) := by
  intro x a e
  unfold aF at e
  split at e
  · cases e
    rename_i e
    subst e
    exact ⟨by omega, by omega, hl.1, hl.2⟩
  · obtain ⟨b, h1, h2⟩ := Option.bind_eq_some_iff.mp e
    have := h x b h1
    generalize ho : (if u = true ∧ x % (s : Int) = l % (s : Int) ∧ b ≤ (f l).getD v then b + 1 else b) = o at h2
    have o0 : 0 ≤ o := by
      rw [← ho]
      split <;> omega
    split at h2
    · rename_i h3
      cases h2
      exact ⟨o0, h3, this.2.2⟩
    · cases h2
theorem sur_pos {w : Nat} {u : Bool} (hw : 0 < w) : 0 < sur w u := by
  unfold sur
  split <;> omega
theorem CK.uK {N s v : Nat} {l : Int} {k : List P} (h : CK N v k) (hv : 0 < v) (hl : 0 ≤ l ∧ l < (N : Int)) : CK N v (uK s v l k) :=
  ⟨uK_asc h.asc, fun x a e => uF_ok hv hl h.ok x a (by rw [← lk_uK h.asc]; exact e)⟩
theorem CK.aK {u : Bool} {N s v : Nat} {l : Int} {k : List P} (h : CK N v k) (hv : 0 < v) (hl : 0 ≤ l ∧ l < (N : Int)) : CK N v (aK u s v l k) :=
  ⟨aK_asc h.asc, fun x a e => aF_ok hv hl h.ok x a (by rw [← lk_aK h.asc]; exact e)⟩
theorem CK.tcK {u : Bool} {N s w : Nat} {l : Int} {k : List P} (h : CK N (sur w u) k) (hw : 0 < w) (hl : 0 ≤ l ∧ l < (N : Int)) : CK N (sur w u) (tcK u s w l k) := by
  refine ⟨tcK_asc h.asc, fun x a e => ?_⟩
  rw [lk_tcK h.asc] at e
  unfold tF at e
  split at e
  · rename_i hu
    have hs : sur w u = w := by unfold sur; rw [if_pos hu]
    rw [hs] at h ⊢
    exact uF_ok hw hl h.ok x a e
  · by_cases e2 : x = l
    · have e3 : some ((lkP k l).getD 0) = some a := by
        have : (fun x => if x = l then some ((lkP k l).getD 0) else lkP k x) x = some a := e
        simpa [e2] using this
      cases e3
      subst e2
      have := sur_pos (u := u) hw
      cases e4 : lkP k x with
      | none => exact ⟨Int.le_refl _, by show (0 : Int) < _; omega, hl.1, hl.2⟩
      | some b => exact h.ok x b e4
    · have e3 : lkP k x = some a := by
        have : (fun x => if x = l then some ((lkP k l).getD 0) else lkP k x) x = some a := e
        simpa [e2] using this
      exact h.ok x a e3
theorem CK.msK {N v : Nat} {l : Int} {k : List P} (h : CK N v k) : CK N v (msK l k) := by
  refine ⟨msK_asc h.asc, fun x a e => ?_⟩
  rw [lk_msK h.asc] at e
  unfold mF at e
  split at e
  · cases e
  · exact h.ok x a e
theorem CK.ptK {N s v : Nat} {i : Nat} {k : List P} (hs : 0 < s) (hi : i < s) (h : CK (N * s) v k) : CK N v (ptK s i k) := by
  refine ⟨ptK_asc hs h.asc, fun y a e => ?_⟩
  rw [lk_ptK hs (by omega) (by omega) h.asc] at e
  obtain ⟨h1, h2, h3, h4⟩ := h.ok _ _ e
  refine ⟨h1, h2, ?_, ?_⟩
  · apply Classical.byContradiction
    intro z
    have : (s : Int) * y ≤ (s : Int) * (-1) := Int.mul_le_mul_of_nonneg_left (by omega) (by omega)
    omega
  · apply Classical.byContradiction
    intro z
    have : (s : Int) * N ≤ (s : Int) * y := Int.mul_le_mul_of_nonneg_left (by omega) (by omega)
    have e2 : (((N * s : Nat)) : Int) = (s : Int) * N := by rw [Int.natCast_mul, Int.mul_comm]
    omega
theorem CK.nmK {N M v : Nat} {f : Int → Int} {k : List P} (hf : ∀ x y, f x = f y → x = y) (hr : ∀ x, 0 ≤ x → x < (N : Int) → 0 ≤ f x ∧ f x < (M : Int)) (h : CK N v k) : CK M v (nmK f k) := by
  refine ⟨nmK_asc hf h.asc, fun z a e => ?_⟩
  by_cases hz : ∃ x, f x = z
  · obtain ⟨x, rfl⟩ := hz
    rw [lk_nmK hf h.asc] at e
    obtain ⟨h1, h2, h3, h4⟩ := h.ok _ _ e
    have := hr x h3 h4
    exact ⟨h1, h2, this.1, this.2⟩
  · rw [lk_nmK_out hf h.asc z fun x hx => hz ⟨x, hx⟩] at e
    cases e
/-! ### the steps, part by part and under other names -/
theorem part_eq {s : Nat} {i : Nat} {k' g : List P} (hs : 0 < s) (hi : i < s) (hk' : Asc k') (hg : Asc g) (h : ∀ y, lkP k' ((s : Int) * y + i) = lkP g y) : ptK s i k' = g := by
  refine lk_ext (ptK_asc hs hk') hg fun y => ?_
  rw [lk_ptK hs (by omega) (by omega) hk', h]
theorem line_at {s : Nat} (hs : 0 < s) (l : Int) : (s : Int) * (l / s) + (ix s l : Nat) = l := by
  rw [ix_eq hs]
  have := Int.emod_add_mul_ediv l s
  omega
theorem emod_at {s : Nat} {i : Nat} (hs : 0 < s) (hi : i < s) (y : Int) : ((s : Int) * y + i) % (s : Int) = i := by
  rw [Int.add_comm, Int.add_mul_emod_self_left]
  exact Int.emod_eq_of_lt (by omega) (by omega)
section
variable {N s w v : Nat} {u : Bool} {l : Int} {k : List P}
theorem pt_uK (hs : 0 < s) (h : Asc k) : ptK s (ix s l : Nat) (uK s v l k) = uK 1 v (l / s) (ptK s (ix s l : Nat) k) := by
  have hi := ix_lt hs l
  have hp := ptK_asc (i := ((ix s l : Nat) : Int)) hs h
  refine part_eq hs hi (uK_asc h) (uK_asc hp) fun y => ?_
  rw [lk_uK h, lk_uK hp, uF_nat (emb_part hs (by omega) (by omega)) (fun y => lk_ptK hs (by omega) (by omega) h y), line_at hs]
theorem pt_aK (hs : 0 < s) (h : Asc k) : ptK s (ix s l : Nat) (aK u s w l k) = aK u 1 w (l / s) (ptK s (ix s l : Nat) k) := by
  have hi := ix_lt hs l
  have hp := ptK_asc (i := ((ix s l : Nat) : Int)) hs h
  refine part_eq hs hi (aK_asc h) (aK_asc hp) fun y => ?_
  rw [lk_aK h, lk_aK hp, aF_nat (emb_part hs (by omega) (by omega)) (fun y => lk_ptK hs (by omega) (by omega) h y), line_at hs]
theorem pt_tcK (hs : 0 < s) (h : Asc k) : ptK s (ix s l : Nat) (tcK u s w l k) = tcK u 1 w (l / s) (ptK s (ix s l : Nat) k) := by
  have hi := ix_lt hs l
  have hp := ptK_asc (i := ((ix s l : Nat) : Int)) hs h
  refine part_eq hs hi (tcK_asc h) (tcK_asc hp) fun y => ?_
  rw [lk_tcK h, lk_tcK hp, tF_nat (emb_part hs (by omega) (by omega)) (fun y => lk_ptK hs (by omega) (by omega) h y), line_at hs]
theorem pt_msK (hs : 0 < s) (h : Asc k) : ptK s (ix s l : Nat) (msK l k) = msK (l / s) (ptK s (ix s l : Nat) k) := by
  have hi := ix_lt hs l
  have hp := ptK_asc (i := ((ix s l : Nat) : Int)) hs h
  refine part_eq hs hi (msK_asc h) (msK_asc hp) fun y => ?_
  rw [lk_msK h, lk_msK hp, mF_nat (emb_part hs (by omega) (by omega)) (fun y => lk_ptK hs (by omega) (by omega) h y), line_at hs]
theorem off_at (hs : 0 < s) {i : Nat} (hi : i < s) (hne : i ≠ ix s l) (y : Int) : ((s : Int) * y + i) % (s : Int) ≠ l % (s : Int) := by
  rw [emod_at hs hi, ← ix_eq hs l]
  omega
theorem pt_uK_off (hs : 0 < s) {i : Nat} (hi : i < s) (hne : i ≠ ix s l) (h : CK N v k) : ptK s i (uK s v l k) = ptK s i k := by
  refine part_eq hs hi (uK_asc h.asc) (ptK_asc hs h.asc) fun y => ?_
  rw [lk_uK h.asc, lk_ptK hs (by omega) (by omega) h.asc, uF_off (off_at hs hi hne y) fun a e => (h.ok _ _ e).2.1]
theorem pt_aK_off (hs : 0 < s) {i : Nat} (hi : i < s) (hne : i ≠ ix s l) (h : CK N v k) : ptK s i (aK u s v l k) = ptK s i k := by
  refine part_eq hs hi (aK_asc h.asc) (ptK_asc hs h.asc) fun y => ?_
  rw [lk_aK h.asc, lk_ptK hs (by omega) (by omega) h.asc, aF_off (off_at hs hi hne y) fun a e => (h.ok _ _ e).2.1]
theorem pt_tcK_off (hs : 0 < s) {i : Nat} (hi : i < s) (hne : i ≠ ix s l) (h : CK N (sur w u) k) : ptK s i (tcK u s w l k) = ptK s i k := by
  refine part_eq hs hi (tcK_asc h.asc) (ptK_asc hs h.asc) fun y => ?_
  rw [lk_tcK h.asc, lk_ptK hs (by omega) (by omega) h.asc, tF_off (off_at hs hi hne y) fun a e => (h.ok _ _ e).2.1]
theorem pt_msK_off (hs : 0 < s) {i : Nat} (hi : i < s) (hne : i ≠ ix s l) (h : Asc k) : ptK s i (msK l k) = ptK s i k := by
  refine part_eq hs hi (msK_asc h) (ptK_asc hs h) fun y => ?_
  rw [lk_msK h, lk_ptK hs (by omega) (by omega) h, mF_off (off_at hs hi hne y)]
/-- names -/
structure Nam (f : Int → Int) (s : Nat) : Prop where
  inj : ∀ x y, f x = f y → x = y
  md : ∀ x, f x % (s : Int) = x % (s : Int)
theorem Nam.emb {f : Int → Int} (h : Nam f s) : Emb f s s := ⟨h.inj, fun x y => by rw [h.md, h.md]⟩
theorem named_eq {f : Int → Int} (hf : ∀ x y, f x = f y → x = y) {k' g : List P} (hk' : Asc k') (hg : Asc g) (h : ∀ x, lkP g (f x) = lkP k' x) (ho : ∀ z, (∀ x, f x ≠ z) → lkP g z = none) : g = nmK f k' := by
  refine lk_ext hg (nmK_asc hf hk') fun z => ?_
  by_cases hz : ∃ x, f x = z
  · obtain ⟨x, rfl⟩ := hz
    rw [h, lk_nmK hf hk']
  · rw [ho z fun x hx => hz ⟨x, hx⟩, lk_nmK_out hf hk' z fun x hx => hz ⟨x, hx⟩]
theorem nm_uK {f : Int → Int} (hf : Nam f s) (h : Asc k) : uK s v (f l) (nmK f k) = nmK f (uK s v l k) := by
  have hp := nmK_asc hf.inj h
  refine named_eq hf.inj (uK_asc h) (uK_asc hp) (fun x => ?_) fun z hz => ?_
  · rw [lk_uK h, lk_uK hp]
    exact (uF_nat hf.emb (fun y => (lk_nmK hf.inj h y).symm) x).symm
  · rw [lk_uK hp]
    unfold uF
    rw [if_neg (fun e => hz l e.symm), lk_nmK_out hf.inj h z hz]
    rfl
theorem nm_aK {f : Int → Int} (hf : Nam f s) (h : Asc k) : aK u s v (f l) (nmK f k) = nmK f (aK u s v l k) := by
  have hp := nmK_asc hf.inj h
  refine named_eq hf.inj (aK_asc h) (aK_asc hp) (fun x => ?_) fun z hz => ?_
  · rw [lk_aK h, lk_aK hp]
    exact (aF_nat hf.emb (fun y => (lk_nmK hf.inj h y).symm) x).symm
  · rw [lk_aK hp]
    unfold aF
    rw [if_neg (fun e => hz l e.symm), lk_nmK_out hf.inj h z hz]
    rfl
theorem nm_tcK {f : Int → Int} (hf : Nam f s) (h : Asc k) : tcK u s v (f l) (nmK f k) = nmK f (tcK u s v l k) := by
  have hp := nmK_asc hf.inj h
  refine named_eq hf.inj (tcK_asc h) (tcK_asc hp) (fun x => ?_) fun z hz => ?_
  · rw [lk_tcK h, lk_tcK hp]
    exact (tF_nat hf.emb (fun y => (lk_nmK hf.inj h y).symm) x).symm
  · rw [lk_tcK hp]
    unfold tF
    split
    · unfold uF
      rw [if_neg (fun e => hz l e.symm), lk_nmK_out hf.inj h z hz]
      rfl
    · rw [← lk_nmK_out hf.inj h z hz]
      exact if_neg (fun e => hz l e.symm)
theorem nm_msK {f : Int → Int} (hf : Nam f s) (h : Asc k) : msK (f l) (nmK f k) = nmK f (msK l k) := by
  have hp := nmK_asc hf.inj h
  refine named_eq hf.inj (msK_asc h) (msK_asc hp) (fun x => ?_) fun z hz => ?_
  · rw [lk_msK h, lk_msK hp]
    exact (mF_nat hf.emb (fun y => (lk_nmK hf.inj h y).symm) x).symm
  · rw [lk_msK hp]
    unfold mF
    rw [if_neg (fun e => hz l e.symm), lk_nmK_out hf.inj h z hz]
theorem pt_has (hs : 0 < s) (h : Asc k) : hasK (ptK s (ix s l : Nat) k) (l / s) = hasK k l := by
  have hi := ix_lt hs l
  rw [hasK_iff (ptK_asc hs h).nd, hasK_iff h.nd, lk_ptK hs (by omega) (by omega) h, line_at hs]
theorem nm_has {f : Int → Int} (hf : Nam f s) (h : Asc k) : hasK (nmK f k) (f l) = hasK k l := by
  rw [hasK_iff (nmK_asc hf.inj h).nd, hasK_iff h.nd, lk_nmK hf.inj h]
end
end K50
/-! M50b: what is known holds of the cache; what is known of two. -/
namespace K50
open FL M51
section
variable {s w : Nat} {u : Bool} {l : Int} {k : List P} {m : Option (List P)} {rows : List (List Int)}
structure SND (u : Bool) (s w : Nat) (rows : List (List Int)) (k : List P) (m : Option (List P)) : Prop where
  size : ∀ x, (row s rows x).length ≤ w
  must : ∀ x a, lkP k x = some a → ∃ n : Nat, (row s rows x)[n]? = some x ∧ (u = true → (n : Int) ≤ a)
  may : ∀ m', m = some m' → ∀ (x : Int) (n : Nat), (row s rows x)[n]? = some x → ∃ a, lkP m' x = some a ∧ a ≤ (n : Int)
theorem row_same (hs : 0 < s) {x : Int} (h : x % (s : Int) = l % (s : Int)) : row s rows x = row s rows l := by
  unfold row
  rw [(ix_same hs).mp h]
/-- where a line stood -/
theorem front_back {r : List Int} (nd : r.Nodup) {x : Int} (hx : x ≠ l) {n' : Nat} (h : (front l r)[n']? = some x) : ∃ n, r[n]? = some x ∧ n' = if ∀ j, j ≤ n → r[j]? ≠ some l then n + 1 else n := by
  have hm : x ∈ r := by
    rcases List.mem_cons.mp (List.mem_of_getElem? h) with z | z
    · exact absurd z hx
    · exact (List.mem_filter.mp z).1
  obtain ⟨n, hn⟩ := List.mem_iff_getElem?.mp hm
  have g := front_get nd hx hn
  exact ⟨n, hn, (List.getElem?_inj (List.getElem?_eq_some_iff.mp h).1 (front_nodup nd)).mp (h.trans g.symm)⟩
theorem hasR_hit (h : l ∈ row s rows l) : hasR true s l rows = touch s l rows := by
  unfold hasR
  rw [if_pos h, if_pos rfl]
  rfl
theorem len_front {r : List Int} (nd : r.Nodup) (h : l ∈ r) : (front l r).length = r.length := by
  unfold front
  rw [List.length_cons]
  exact filter_len nd h
theorem snd_hit_lru (hs : 0 < s) (g : Good s rows) (hh : l ∈ row s rows l) (S : SND true s w rows k m) (hk : Asc k) (hm : ∀ m', m = some m' → Asc m') : SND true s w (touch s l rows) (uK s w l k) (m.map (aK true s w l)) := by
  have nd := g.nd _ _ (g.row hs l)
  obtain ⟨j, hj⟩ := List.mem_iff_getElem?.mp hh
  have jlt : ∀ n, (∀ i, i ≤ n → (row s rows l)[i]? ≠ some l) ↔ n < j := fun n => by
    refine ⟨fun h => ?_, fun h i hi e => ?_⟩
    · apply Classical.byContradiction
      intro z
      exact h j (by omega) hj
    · have := (List.getElem?_inj (List.getElem?_eq_some_iff.mp e).1 nd).mp (e.trans hj.symm)
      omega
  have size : ∀ x, (row s (touch s l rows) x).length ≤ w := fun x => by
    rw [touch_row g hs]
    split
    · rw [len_front nd hh]
      exact S.size l
    · exact S.size x
  refine ⟨size, fun x a' e => ?_, fun m' e x n' hx => ?_⟩
  · rw [lk_uK hk] at e
    unfold uF at e
    rw [touch_row g hs]
    by_cases hxl : x = l
    · rw [if_pos hxl] at e
      cases e
      subst hxl
      rw [if_pos rfl]
      exact ⟨0, rfl, fun _ => Int.le_refl _⟩
    · rw [if_neg hxl] at e
      obtain ⟨a, e1, e2⟩ := Option.bind_eq_some_iff.mp e
      obtain ⟨n, hn, ha⟩ := S.must x a e1
      have ha := ha rfl
      by_cases hsm : x % (s : Int) = l % (s : Int)
      · rw [if_pos ((ix_same hs).mp hsm)]
        rw [row_same hs hsm] at hn
        refine ⟨_, front_get nd hxl hn, fun _ => ?_⟩
        simp only [hsm, true_and, jlt] at e2 ⊢
        have hb : (lkP k l).getD (w : Int) = w ∨ (j : Int) ≤ (lkP k l).getD (w : Int) := by
          cases e3 : lkP k l with
          | none => exact .inl rfl
          | some b =>
            obtain ⟨q, hq, hqb⟩ := S.must l b e3
            have := (List.getElem?_inj (List.getElem?_eq_some_iff.mp hq).1 nd).mp (hq.trans hj.symm)
            subst this
            exact .inr (hqb rfl)
        generalize (lkP k l).getD (w : Int) = b at e2 hb
        by_cases c1 : a < b
        · simp only [c1, if_true] at e2
          split at e2
          · cases e2
            split <;> omega
          · cases e2
        · simp only [c1, if_false] at e2
          split at e2
          · cases e2
            split <;> omega
          · cases e2
      · rw [if_neg (fun z => hsm ((ix_same hs).mpr z))]
        simp only [hsm, false_and, if_false] at e2
        split at e2
        · cases e2
          exact ⟨n, hn, fun _ => ha⟩
        · cases e2
  · obtain ⟨m0, rfl, rfl⟩ := Option.map_eq_some_iff.mp e
    have sz := size x
    have hlt := (List.getElem?_eq_some_iff.mp hx).1
    rw [lk_aK (hm m0 rfl)]
    unfold aF
    by_cases hxl : x = l
    · rw [if_pos hxl]
      exact ⟨0, rfl, by omega⟩
    · rw [if_neg hxl]
      rw [touch_row g hs] at hx
      by_cases hsm : x % (s : Int) = l % (s : Int)
      · rw [if_pos ((ix_same hs).mp hsm)] at hx
        obtain ⟨n, hn, en⟩ := front_back nd hxl hx
        rw [← row_same hs hsm] at hn
        obtain ⟨a, e1, ha⟩ := S.may m0 rfl x n hn
        obtain ⟨b, e2, hb⟩ := S.may m0 rfl l j hj
        have hnj : n ≠ j := fun z => by
          rw [z, row_same hs hsm, hj] at hn
          exact hxl (Option.some.inj hn).symm
        rw [e1, Option.bind_some, e2]
        simp only [hsm, true_and, Option.getD_some, jlt] at en ⊢
        by_cases c1 : a ≤ b
        · simp only [c1, if_true]
          have : a + 1 ≤ (n' : Int) := by split at en <;> omega
          rw [if_pos (by omega)]
          exact ⟨_, rfl, this⟩
        · simp only [c1, if_false]
          have : a ≤ (n' : Int) := by split at en <;> omega
          rw [if_pos (by omega)]
          exact ⟨_, rfl, this⟩
      · rw [if_neg (fun z => hsm ((ix_same hs).mpr z))] at hx
        obtain ⟨a, e1, ha⟩ := S.may m0 rfl x n' hx
        rw [e1, Option.bind_some]
        simp only [hsm, false_and, and_false, if_false]
        have := S.size x
        have := (List.getElem?_eq_some_iff.mp hx).1
        rw [if_pos (by omega)]
        exact ⟨_, rfl, ha⟩
theorem snd_hit_fifo (hh : l ∈ row s rows l) (S : SND false s w rows k m) (hk : Asc k) : SND false s w rows (tcK false s w l k) m := by
  refine ⟨S.size, fun x a e => ?_, S.may⟩
  rw [lk_tcK hk] at e
  unfold tF at e
  rw [if_neg Bool.false_ne_true] at e
  have e' : (if x = l then some ((lkP k l).getD 0) else lkP k x) = some a := e
  by_cases hxl : x = l
  · subst hxl
    obtain ⟨j, hj⟩ := List.mem_iff_getElem?.mp hh
    exact ⟨j, hj, fun z => absurd z Bool.false_ne_true⟩
  · rw [if_neg hxl] at e'
    exact S.must x a e'
theorem snd_miss (hh : l ∉ row s rows l) (S : SND u s w rows k m) (hm : ∀ m', m = some m' → Asc m') : SND u s w rows k (m.map (msK l)) := by
  refine ⟨S.size, S.must, fun m' e x n hx => ?_⟩
  obtain ⟨m0, rfl, rfl⟩ := Option.map_eq_some_iff.mp e
  rw [lk_msK (hm m0 rfl)]
  unfold mF
  rw [if_neg (fun z => by subst z; exact hh (List.mem_of_getElem? hx))]
  exact S.may m0 rfl x n hx
theorem fil_row (g : Good s rows) (hs : 0 < s) (x : Int) : row s (filR s w l rows) x = if ix s x = ix s l then (front l (row s rows l)).take w else row s rows x := by
  have e : filR s w l rows = rows.set (ix s l) ((front l (row s rows l)).take w) := rfl
  rw [e]
  split
  · rename_i h
    unfold row
    rw [h, List.getD_eq_getElem?_getD, List.getElem?_set_self (by rw [g.len]; exact ix_lt hs l)]
    rfl
  · rename_i h
    show (rows.set _ _).getD (ix s x) [] = rows.getD (ix s x) []
    rw [List.getD_eq_getElem?_getD, List.getElem?_set_ne (fun z => h z.symm), List.getD_eq_getElem?_getD]
theorem snd_fill (hs : 0 < s) (hw : 0 < w) (g : Good s rows) (hh : l ∉ row s rows l) (S : SND u s w rows k m) {N : Nat} (hk : CK N (sur w u) k) (hm : ∀ m', m = some m' → Asc m') : SND u s w (filR s w l rows) (uK s (sur w u) l k) (m.map (aK u s w l)) := by
  have nd := g.nd _ _ (g.row hs l)
  have all : ∀ n, ∀ i, i ≤ n → (row s rows l)[i]? ≠ some l := fun n i _ e => hh (List.mem_of_getElem? e)
  have size : ∀ x, (row s (filR s w l rows) x).length ≤ w := fun x => by
    rw [fil_row g hs]
    split
    · rw [List.length_take]
      omega
    · exact S.size x
  refine ⟨size, fun x a' e => ?_, fun m' e x n' hx => ?_⟩
  · rw [lk_uK hk.asc] at e
    unfold uF at e
    rw [fil_row g hs]
    by_cases hxl : x = l
    · rw [if_pos hxl] at e
      cases e
      subst hxl
      rw [if_pos rfl]
      refine ⟨0, ?_, fun _ => Int.le_refl _⟩
      rw [List.getElem?_take, if_pos hw]
      rfl
    · rw [if_neg hxl] at e
      obtain ⟨a, e1, e2⟩ := Option.bind_eq_some_iff.mp e
      obtain ⟨n, hn, ha⟩ := S.must x a e1
      have ok := hk.ok x a e1
      have hn0 : lkP k l = none := by
        cases e3 : lkP k l with
        | none => rfl
        | some b =>
          obtain ⟨q, hq, _⟩ := S.must l b e3
          exact absurd (List.mem_of_getElem? hq) hh
      rw [hn0] at e2
      by_cases hsm : x % (s : Int) = l % (s : Int)
      · rw [if_pos ((ix_same hs).mp hsm)]
        rw [row_same hs hsm] at hn
        have ok2 : a < ((sur w u : Nat) : Int) := ok.2.1
        simp only [hsm, true_and, Option.getD_none, ok2, if_true] at e2
        split at e2
        · cases e2
          rename_i c
          cases u with
          | false =>
            unfold sur at c
            rw [if_neg Bool.false_ne_true] at c
            have := ok.1
            omega
          | true =>
            have ha := ha rfl
            unfold sur at c
            rw [if_pos rfl] at c
            refine ⟨n + 1, ?_, fun _ => by omega⟩
            have g2 := front_get nd hxl hn
            rw [if_pos (all n)] at g2
            rw [List.getElem?_take, if_pos (by omega)]
            exact g2
        · cases e2
      · rw [if_neg (fun z => hsm ((ix_same hs).mpr z))]
        simp only [hsm, false_and, if_false] at e2
        split at e2
        · cases e2
          exact ⟨n, hn, ha⟩
        · cases e2
  · obtain ⟨m0, rfl, rfl⟩ := Option.map_eq_some_iff.mp e
    have sz := size x
    have hlt := (List.getElem?_eq_some_iff.mp hx).1
    rw [lk_aK (hm m0 rfl)]
    unfold aF
    by_cases hxl : x = l
    · rw [if_pos hxl]
      exact ⟨0, rfl, by omega⟩
    · rw [if_neg hxl]
      rw [fil_row g hs] at hx
      by_cases hsm : x % (s : Int) = l % (s : Int)
      · rw [if_pos ((ix_same hs).mp hsm), List.getElem?_take] at hx
        split at hx
        · obtain ⟨n, hn, en⟩ := front_back nd hxl hx
          rw [if_pos (all n)] at en
          rw [← row_same hs hsm] at hn
          obtain ⟨a, e1, ha⟩ := S.may m0 rfl x n hn
          rw [e1, Option.bind_some]
          have c : (if u = true ∧ x % (s : Int) = l % (s : Int) ∧ a ≤ (lkP m0 l).getD (w : Int) then a + 1 else a) ≤ (n' : Int) := by split <;> omega
          rw [if_pos (by omega)]
          exact ⟨_, rfl, c⟩
        · cases hx
      · rw [if_neg (fun z => hsm ((ix_same hs).mpr z))] at hx
        obtain ⟨a, e1, ha⟩ := S.may m0 rfl x n' hx
        rw [e1, Option.bind_some]
        simp only [hsm, false_and, and_false, if_false]
        have := S.size x
        have := (List.getElem?_eq_some_iff.mp hx).1
        rw [if_pos (by omega)]
        exact ⟨_, rfl, ha⟩
theorem vds_ok (S : SND u s w rows k m) (hk : Asc k) (hm : ∀ m', m = some m' → Asc m') : decide (l ∈ row s rows l) ∈ vds k m l := by
  unfold vds
  by_cases h1 : hasK k l = true
  · rw [if_pos h1]
    rw [hasK_iff hk.nd] at h1
    obtain ⟨a, e⟩ := Option.isSome_iff_exists.mp h1
    obtain ⟨n, hn, _⟩ := S.must l a e
    rw [decide_eq_true (List.mem_of_getElem? hn)]
    exact List.mem_cons_self
  · rw [if_neg h1]
    cases m with
    | none => cases decide (l ∈ row s rows l) <;> simp
    | some m0 =>
      show _ ∈ (if hasK m0 l = true then [true, false] else [false])
      by_cases h2 : hasK m0 l = true
      · rw [if_pos h2]
        cases decide (l ∈ row s rows l) <;> simp
      · rw [if_neg h2]
        have : l ∉ row s rows l := fun z => by
          obtain ⟨n, hn⟩ := List.mem_iff_getElem?.mp z
          obtain ⟨a, e, _⟩ := S.may m0 rfl l n hn
          apply h2
          rw [hasK_iff (hm m0 rfl).nd, e]
          rfl
        rw [decide_eq_false this]
        exact List.mem_cons_self
/-! ### one within another, two joined -/
theorem wiB_iff {k1 k2 : List P} {m1 m2 : Option (List P)} (a1 : Asc k1) (a2 : Asc k2) (b1 : ∀ m', m1 = some m' → Asc m') (b2 : ∀ m', m2 = some m' → Asc m') :
    wiB k1 m1 k2 m2 = true ↔ (∀ x a, lkP k2 x = some a → ∃ b, lkP k1 x = some b ∧ b ≤ a) ∧ ∀ j2, m2 = some j2 → ∃ j1, m1 = some j1 ∧ ∀ x a, lkP j1 x = some a → ∃ b, lkP j2 x = some b ∧ b ≤ a := by
  have h1 : k2.any (lessK k1) = true ↔ ¬ ∀ x a, lkP k2 x = some a → ∃ b, lkP k1 x = some b ∧ b ≤ a := by
    rw [List.any_eq_true]
    constructor
    · rintro ⟨⟨x, a⟩, hp, e⟩ h
      obtain ⟨b, e2, h2⟩ := h x a ((lk_mem a2.nd).mpr hp)
      unfold lessK at e
      simp only [e2] at e
      have := of_decide_eq_true e
      omega
    · intro h
      apply Classical.byContradiction
      intro z
      refine h fun x a e => ?_
      cases e2 : lkP k1 x with
      | none => exact absurd ⟨(x, a), (lk_mem a2.nd).mp e, by unfold lessK; simp only [e2]⟩ z
      | some b =>
        refine ⟨b, rfl, ?_⟩
        apply Classical.byContradiction
        intro q
        exact z ⟨(x, a), (lk_mem a2.nd).mp e, by unfold lessK; simp only [e2]; exact decide_eq_true (by omega)⟩
  unfold wiB
  by_cases c : k2.any (lessK k1) = true
  · rw [if_pos c]
    exact ⟨fun h => absurd h Bool.false_ne_true, fun h => absurd h.1 (h1.mp c)⟩
  · rw [if_neg c]
    have h1' : ∀ x a, lkP k2 x = some a → ∃ b, lkP k1 x = some b ∧ b ≤ a := Classical.byContradiction fun z => c (h1.mpr z)
    cases m2 with
    | none => exact ⟨fun _ => ⟨h1', fun _ e => by cases e⟩, fun _ => rfl⟩
    | some j2 =>
      cases m1 with
      | none =>
        refine ⟨fun h => absurd h Bool.false_ne_true, fun h => ?_⟩
        obtain ⟨j1, e, _⟩ := h.2 j2 rfl
        cases e
      | some j1 =>
        show (j1.all (inM j2)) = true ↔ _
        rw [List.all_eq_true]
        constructor
        · intro h
          refine ⟨h1', fun j e => ?_⟩
          cases e
          refine ⟨j1, rfl, fun x a e => ?_⟩
          have := h (x, a) ((lk_mem (b1 j1 rfl).nd).mp e)
          unfold inM at this
          cases e2 : lkP j2 x with
          | none => simp only [e2] at this; cases this
          | some b =>
            simp only [e2] at this
            exact ⟨b, rfl, of_decide_eq_true this⟩
        · rintro ⟨_, h⟩ ⟨x, a⟩ hp
          obtain ⟨j, e, h⟩ := h j2 rfl
          cases e
          obtain ⟨b, e2, h2⟩ := h x a ((lk_mem (b1 j1 rfl).nd).mpr hp)
          unfold inM
          simp only [e2]
          exact decide_eq_true h2
theorem jnF_key {k2 : List P} : ∀ p q, jnF k2 p = some q → q.1 = p.1 := fun p q e => by
  unfold jnF at e
  obtain ⟨b, _, rfl⟩ := Option.map_eq_some_iff.mp e
  rfl
theorem jnK_asc {k1 k2 : List P} (h : Asc k1) : Asc (jnK k1 k2) := asc_sortP (keys_fm jnF_key h.nd)
theorem lk_jnK {k1 k2 : List P} (h : Asc k1) (x : Int) : lkP (jnK k1 k2) x = (lkP k1 x).bind fun a => (lkP k2 x).map fun b => if b > a then b else a := by
  unfold jnK
  rw [lk_sortP (keys_fm jnF_key h.nd), lk_fm jnF_key h.nd]
  congr 1
  funext a
  unfold jnF
  rw [Option.map_map]
  rfl
theorem putP_nd {k : List P} {x a : Int} (h : (k.map (·.1)).Nodup) : ((putP k x a).map (·.1)).Nodup := by
  unfold putP
  split
  · have : (k.map fun p => if p.1 = x then (p.1, a) else p).map (·.1) = k.map (·.1) := by
      rw [List.map_map]
      refine List.map_congr_left fun p _ => ?_
      show (if p.1 = x then (p.1, a) else p).1 = p.1
      split <;> rfl
    rw [this]
    exact h
  · rename_i hn
    rw [List.map_append, List.nodup_append]
    refine ⟨h, by simp, fun y hy z hz e => ?_⟩
    have : z = x := by simpa using hz
    subst this
    subst e
    exact hn hy
theorem lk_putP {k : List P} {x a : Int} (h : (k.map (·.1)).Nodup) (y : Int) : lkP (putP k x a) y = if y = x then some a else lkP k y := by
  by_cases e : y = x
  · subst e
    rw [if_pos rfl, lk_mem (putP_nd h)]
    unfold putP
    split
    · rename_i hm
      obtain ⟨p, hp, e⟩ := List.mem_map.mp hm
      exact List.mem_map.mpr ⟨p, hp, by rw [if_pos e, e]⟩
    · simp
  · rw [if_neg e]
    refine lk_opt (putP_nd h) h fun b => ?_
    unfold putP
    split
    · rw [List.mem_map]
      constructor
      · rintro ⟨p, hp, e2⟩
        split at e2
        · rename_i e3
          have e4 : p.1 = y := congrArg (·.1) e2
          exact absurd (e4.symm.trans e3) e
        · rw [← e2]
          exact hp
      · intro hp
        exact ⟨_, hp, if_neg e⟩
    · rw [List.mem_append]
      constructor
      · rintro (z | z)
        · exact z
        · rw [List.mem_singleton] at z
          injection z with z1
          exact absurd z1 e
      · exact fun z => .inl z
theorem foldS : ∀ (j2 acc : List P), (acc.map (·.1)).Nodup → (j2.map (·.1)).Nodup → ((j2.foldl jnS acc).map (·.1)).Nodup ∧ ∀ x, lkP (j2.foldl jnS acc) x = match lkP j2 x with
    | none => lkP acc x
    | some b => some (if (lkP acc x).getD b < b then (lkP acc x).getD b else b)
  | [], acc, h, _ => ⟨h, fun x => rfl⟩
  | p :: j2, acc, h, h2 => by
    rw [List.map_cons, List.nodup_cons] at h2
    have nd1 : ((jnS acc p).map (·.1)).Nodup := putP_nd h
    obtain ⟨i1, i2⟩ := foldS j2 (jnS acc p) nd1 h2.2
    refine ⟨i1, fun x => ?_⟩
    rw [List.foldl_cons, i2, show p = (p.1, p.2) from rfl, lk_cons]
    unfold jnS
    rw [lk_putP h]
    by_cases e : x = p.1
    · subst e
      have : lkP j2 p.1 = none := by
        cases e2 : lkP j2 p.1 with
        | none => rfl
        | some b => exact absurd (List.mem_map.mpr ⟨_, (lk_mem h2.2).mp e2, rfl⟩) h2.1
      rw [this, if_pos rfl, if_pos rfl]
    · rw [if_neg e, if_neg e]
theorem jnM_asc {j1 j2 : List P} (h1 : Asc j1) (h2 : Asc j2) : Asc (jnM j1 j2) := asc_sortP (foldS j2 j1 h1.nd h2.nd).1
theorem lk_jnM {j1 j2 : List P} (h1 : Asc j1) (h2 : Asc j2) (x : Int) : lkP (jnM j1 j2) x = match lkP j2 x with
    | none => lkP j1 x
    | some b => some (if (lkP j1 x).getD b < b then (lkP j1 x).getD b else b) := by
  unfold jnM
  rw [lk_sortP (foldS j2 j1 h1.nd h2.nd).1]
  exact (foldS j2 j1 h1.nd h2.nd).2 x
theorem jn_in1 {k1 k2 : List P} {m1 m2 : Option (List P)} (a1 : Asc k1) (a2 : Asc k2) (b1 : ∀ m', m1 = some m' → Asc m') (b2 : ∀ m', m2 = some m' → Asc m') (bj : ∀ m', jnO m1 m2 = some m' → Asc m') : wiB k1 m1 (jnK k1 k2) (jnO m1 m2) = true := by
  rw [wiB_iff a1 (jnK_asc a1) b1 bj]
  refine ⟨fun x a e => ?_, fun j2 e => ?_⟩
  · rw [lk_jnK a1] at e
    obtain ⟨c, e1, e2⟩ := Option.bind_eq_some_iff.mp e
    obtain ⟨b, _, rfl⟩ := Option.map_eq_some_iff.mp e2
    exact ⟨c, e1, by split <;> omega⟩
  · cases m1 with
    | none => cases e
    | some j1 =>
      cases m2 with
      | none => cases e
      | some j3 =>
        have e' : some (jnM j1 j3) = some j2 := e
        cases e'
        refine ⟨j1, rfl, fun x a e => ?_⟩
        rw [lk_jnM (b1 j1 rfl) (b2 j3 rfl)]
        cases e2 : lkP j3 x with
        | none => exact ⟨a, e, Int.le_refl _⟩
        | some b =>
          rw [e]
          exact ⟨_, rfl, by simp only [Option.getD_some]; split <;> omega⟩
theorem jn_in2 {k1 k2 : List P} {m1 m2 : Option (List P)} (a1 : Asc k1) (a2 : Asc k2) (b1 : ∀ m', m1 = some m' → Asc m') (b2 : ∀ m', m2 = some m' → Asc m') (bj : ∀ m', jnO m1 m2 = some m' → Asc m') : wiB k2 m2 (jnK k1 k2) (jnO m1 m2) = true := by
  rw [wiB_iff a2 (jnK_asc a1) b2 bj]
  refine ⟨fun x a e => ?_, fun j2 e => ?_⟩
  · rw [lk_jnK a1] at e
    obtain ⟨c, e1, e2⟩ := Option.bind_eq_some_iff.mp e
    obtain ⟨b, e3, rfl⟩ := Option.map_eq_some_iff.mp e2
    exact ⟨b, e3, by split <;> omega⟩
  · cases m1 with
    | none => cases e
    | some j1 =>
      cases m2 with
      | none => cases e
      | some j3 =>
        have e' : some (jnM j1 j3) = some j2 := e
        cases e'
        refine ⟨j3, rfl, fun x a e => ?_⟩
        rw [lk_jnM (b1 j1 rfl) (b2 j3 rfl), e]
        refine ⟨_, rfl, ?_⟩
        split <;> omega
end
end K50
/-! M50c: set by set; what is known of a cache that is known; rows under other names and alone. -/
namespace K50
open FL M51
section
variable {s w : Nat} {u : Bool} {l : Int} {k : List P} {m : Option (List P)} {rows : List (List Int)}
theorem by_parts (hs : 0 < s) {p : Int → Prop} : (∀ x, p x) ↔ ∀ i, i < s → ∀ y, p ((s : Int) * y + (i : Nat)) := by
  refine ⟨fun h i _ y => h _, fun h x => ?_⟩
  have := h (ix s x) (ix_lt hs x) (x / s)
  rwa [line_at hs] at this
abbrev AscO (m : Option (List P)) : Prop := ∀ m', m = some m' → Asc m'
theorem AscO.pt {i : Int} (hs : 0 < s) (h : AscO m) : AscO (m.map (ptK s i)) := fun m' e => by
  obtain ⟨m0, rfl, rfl⟩ := Option.map_eq_some_iff.mp e
  exact ptK_asc hs (h m0 rfl)
theorem jnO_asc {m1 m2 : Option (List P)} (h1 : AscO m1) (h2 : AscO m2) : AscO (jnO m1 m2) := fun m' e => by
  cases m1 with
  | none => cases e
  | some j1 =>
    cases m2 with
    | none => cases e
    | some j2 =>
      have e' : some (jnM j1 j2) = some m' := e
      cases e'
      exact jnM_asc (h1 j1 rfl) (h2 j2 rfl)
theorem pt_jnK {k1 k2 : List P} (hs : 0 < s) {i : Nat} (hi : i < s) (h1 : Asc k1) (h2 : Asc k2) : ptK s i (jnK k1 k2) = jnK (ptK s i k1) (ptK s i k2) := by
  refine part_eq hs hi (jnK_asc h1) (jnK_asc (ptK_asc hs h1)) fun y => ?_
  rw [lk_jnK h1, lk_jnK (ptK_asc hs h1), lk_ptK hs (by omega) (by omega) h1, lk_ptK hs (by omega) (by omega) h2]
theorem pt_jnO {m1 m2 : Option (List P)} (hs : 0 < s) {i : Nat} (hi : i < s) (h1 : AscO m1) (h2 : AscO m2) : (jnO m1 m2).map (ptK s i) = jnO (m1.map (ptK s i)) (m2.map (ptK s i)) := by
  cases m1 with
  | none => rfl
  | some j1 =>
    cases m2 with
    | none => rfl
    | some j2 =>
      show some (ptK s i (jnM j1 j2)) = some (jnM _ _)
      have a1 := h1 j1 rfl
      have a2 := h2 j2 rfl
      congr 1
      refine part_eq hs hi (jnM_asc a1 a2) (jnM_asc (ptK_asc hs a1) (ptK_asc hs a2)) fun y => ?_
      rw [lk_jnM a1 a2, lk_jnM (ptK_asc hs a1) (ptK_asc hs a2), lk_ptK hs (by omega) (by omega) a1, lk_ptK hs (by omega) (by omega) a2]
theorem wi_parts {k1 k2 : List P} {m1 m2 : Option (List P)} (hs : 0 < s) (a1 : Asc k1) (a2 : Asc k2) (b1 : AscO m1) (b2 : AscO m2) :
    wiB k1 m1 k2 m2 = (List.range s).all fun i => wiB (ptK s i k1) (m1.map (ptK s i)) (ptK s i k2) (m2.map (ptK s i)) := by
  rw [Bool.eq_iff_iff, wiB_iff a1 a2 b1 b2, List.all_eq_true]
  have each : ∀ i : Nat, i < s → (wiB (ptK s i k1) (m1.map (ptK s i)) (ptK s i k2) (m2.map (ptK s i)) = true ↔ (∀ y a, lkP k2 ((s : Int) * y + i) = some a → ∃ b, lkP k1 ((s : Int) * y + i) = some b ∧ b ≤ a) ∧
      ∀ j2, m2 = some j2 → ∃ j1, m1 = some j1 ∧ ∀ y a, lkP j1 ((s : Int) * y + i) = some a → ∃ b, lkP j2 ((s : Int) * y + i) = some b ∧ b ≤ a) := fun i hi => by
    rw [wiB_iff (ptK_asc hs a1) (ptK_asc hs a2) (AscO.pt hs b1) (AscO.pt hs b2)]
    refine and_congr (forall_congr' fun y => ?_) ?_
    · rw [lk_ptK hs (by omega) (by omega) a1, lk_ptK hs (by omega) (by omega) a2]
    · constructor
      · intro h j2 e
        obtain ⟨j1, e1, h1⟩ := h _ (by rw [e]; rfl)
        obtain ⟨j0, rfl, rfl⟩ := Option.map_eq_some_iff.mp e1
        refine ⟨j0, rfl, fun y a e2 => ?_⟩
        rw [← lk_ptK hs (by omega) (by omega) (b1 j0 rfl)] at e2
        rw [← lk_ptK hs (by omega) (by omega) (b2 j2 e)]
        exact h1 y a e2
      · intro h j2 e
        obtain ⟨j0, rfl, rfl⟩ := Option.map_eq_some_iff.mp e
        obtain ⟨j1, rfl, h1⟩ := h j0 rfl
        refine ⟨_, rfl, fun y a e2 => ?_⟩
        rw [lk_ptK hs (by omega) (by omega) (b1 j1 rfl)] at e2
        rw [lk_ptK hs (by omega) (by omega) (b2 j0 rfl)]
        exact h1 y a e2
  constructor
  · rintro ⟨h1, h2⟩ i hi
    rw [each i (List.mem_range.mp hi)]
    refine ⟨fun y a => h1 _ a, fun j2 e => ?_⟩
    obtain ⟨j1, e1, h3⟩ := h2 j2 e
    exact ⟨j1, e1, fun y a => h3 _ a⟩
  · intro h
    have h' : ∀ i : Nat, i < s → _ := fun i hi => (each i hi).mp (h i (List.mem_range.mpr hi))
    refine ⟨(by_parts hs).mpr fun i hi y => (h' i hi).1 y, fun j2 e => ?_⟩
    obtain ⟨j1, e1, _⟩ := (h' 0 hs).2 j2 e
    refine ⟨j1, e1, (by_parts hs).mpr fun i hi y => ?_⟩
    obtain ⟨j1', e1', h3⟩ := (h' i hi).2 j2 e
    rw [e1] at e1'
    cases e1'
    exact h3 y
/-! ### a cache that is known -/
theorem prs_nd (g : Good s rows) : ((prs w rows).map (·.1)).Nodup := g.keys w
theorem OR_asc (g : Good s rows) : Asc (OR w rows) := asc_sortP (prs_nd g)
theorem lk_OR (hs : 0 < s) (g : Good s rows) {x : Int} {n : Nat} (hn : n < w) (h : (row s rows x)[n]? = some x) : lkP (OR w rows) x = some (n : Int) :=
  (lk_mem (OR_asc g).nd).mpr (OR_mem.mpr ((g.mem hs).mpr ⟨n, rfl, hn, h⟩))
theorem OR_lk (hs : 0 < s) (g : Good s rows) {x a : Int} (h : lkP (OR w rows) x = some a) : ∃ n : Nat, a = (n : Int) ∧ n < w ∧ (row s rows x)[n]? = some x :=
  (g.mem hs).mp (OR_mem.mp ((lk_mem (OR_asc g).nd).mp h))
theorem ocK_nd (g : Good s rows) : (((prs w rows).map (zU u)).map (·.1)).Nodup := by rw [zU_keys]; exact prs_nd g
theorem ocK_asc (g : Good s rows) : Asc (ocK u w rows) := asc_sortP (ocK_nd g)
theorem lk_ocK (hs : 0 < s) (g : Good s rows) {x : Int} {n : Nat} (hn : n < w) (h : (row s rows x)[n]? = some x) : lkP (ocK u w rows) x = some (if u = true then (n : Int) else 0) := by
  refine (lk_mem (ocK_asc g).nd).mpr ((sortP_perm _).mem_iff.mpr (List.mem_map.mpr ⟨(x, (n : Int)), (g.mem hs).mpr ⟨n, rfl, hn, h⟩, rfl⟩))
theorem ocK_lk (hs : 0 < s) (g : Good s rows) {x a : Int} (h : lkP (ocK u w rows) x = some a) : ∃ n : Nat, a = (if u = true then (n : Int) else 0) ∧ n < w ∧ (row s rows x)[n]? = some x := by
  obtain ⟨⟨y, b⟩, hp, e⟩ := List.mem_map.mp ((sortP_perm _).mem_iff.mp ((lk_mem (ocK_asc g).nd).mp h))
  injection e with e1 e2
  have e1 : y = x := e1
  subst e1
  obtain ⟨n, rfl, hn, hr⟩ := (g.mem hs).mp hp
  exact ⟨n, e2.symm, hn, hr⟩
theorem oc_within (hs : 0 < s) (g : Good s rows) (S : SND u s w rows k m) (hk : Asc k) (h0 : ∀ x a, lkP k x = some a → 0 ≤ a) (hm : AscO m) : wiB (ocK u w rows) (some (OR w rows)) k m = true := by
  rw [wiB_iff (ocK_asc g) hk (fun m' e => by cases e; exact OR_asc g) hm]
  refine ⟨fun x a e => ?_, fun j2 e => ⟨_, rfl, fun x a e2 => ?_⟩⟩
  · obtain ⟨n, hn, ha⟩ := S.must x a e
    have := (List.getElem?_eq_some_iff.mp hn).1
    have := S.size x
    refine ⟨_, lk_ocK hs g (by omega) hn, ?_⟩
    split
    · rename_i hu
      exact ha hu
    · exact h0 x a e
  · obtain ⟨n, rfl, hn, hr⟩ := OR_lk hs g e2
    exact S.may j2 e x n hr
theorem oc_snd (hs : 0 < s) (g : Good s rows) (hw : ∀ x, (row s rows x).length ≤ w) : SND u s w rows (ocK u w rows) (some (OR w rows)) := by
  refine ⟨hw, fun x a e => ?_, fun m' e x n hr => ?_⟩
  · obtain ⟨n, rfl, hn, hr⟩ := ocK_lk hs g e
    refine ⟨n, hr, fun hu => ?_⟩
    rw [if_pos hu]
    exact Int.le_refl _
  · cases e
    have := (List.getElem?_eq_some_iff.mp hr).1
    have := hw x
    exact ⟨_, lk_OR hs g (by omega) hr, Int.le_refl _⟩
theorem any_snd (hw : ∀ x, (row s rows x).length ≤ w) : SND u s w rows [] none := ⟨hw, fun x a e => (nomatch e), fun m' e => (nomatch e)⟩
theorem oc_ck {N : Nat} (hs : 0 < s) (hw : 0 < w) (g : Good s rows) (hr : ∀ r ∈ rows, ∀ l ∈ r, 0 ≤ l ∧ l < (N : Int)) : CK N (sur w u) (ocK u w rows) ∧ CK N w (OR w rows) := by
  have inr : ∀ (x : Int) (n : Nat), (row s rows x)[n]? = some x → 0 ≤ x ∧ x < (N : Int) := fun x n h => hr _ (List.mem_of_getElem? (g.row hs x)) x (List.mem_of_getElem? h)
  refine ⟨⟨ocK_asc g, fun x a e => ?_⟩, ⟨OR_asc g, fun x a e => ?_⟩⟩
  · obtain ⟨n, rfl, hn, h⟩ := ocK_lk hs g e
    have := inr x n h
    unfold sur
    refine ⟨?_, ?_, this⟩
    · split <;> omega
    · split <;> omega
  · obtain ⟨n, rfl, hn, h⟩ := OR_lk hs g e
    have := inr x n h
    exact ⟨by omega, by omega, this⟩
/-! ### rows under other names -/
abbrev rn (f : Int → Int) (rows : List (List Int)) : List (List Int) := rows.map fun r => r.map f
theorem row_rn (f : Int → Int) (hf : Nam f s) (l : Int) : row s (rn f rows) (f l) = (row s rows l).map f := by
  unfold row ix
  rw [hf.md, List.getD_eq_getElem?_getD, List.getD_eq_getElem?_getD, List.getElem?_map]
  cases rows[(l % (s : Int)).toNat]? <;> rfl
theorem mem_rn {f : Int → Int} (hf : Nam f s) : f l ∈ row s (rn f rows) (f l) ↔ l ∈ row s rows l := by
  rw [row_rn f hf, List.mem_map]
  exact ⟨fun ⟨x, hx, e⟩ => hf.inj _ _ e ▸ hx, fun h => ⟨l, h, rfl⟩⟩
theorem filter_rn {f : Int → Int} (hf : ∀ x y, f x = f y → x = y) (l : Int) (r : List Int) : (r.map f).filter (fun x => decide (x ≠ f l)) = (r.filter fun x => decide (x ≠ l)).map f := by
  rw [List.filter_map]
  congr 1
  refine List.filter_congr fun x _ => ?_
  show decide (f x ≠ f l) = decide (x ≠ l)
  by_cases e : x = l
  · rw [e, decide_eq_false (fun z => z rfl), decide_eq_false (fun z => z rfl)]
  · have e2 : f x ≠ f l := fun z => e (hf _ _ z)
    have e3 : x ≠ l := e
    rw [decide_eq_true e2, decide_eq_true e3]
theorem ix_rn {f : Int → Int} (hf : Nam f s) (l : Int) : ix s (f l) = ix s l := by
  unfold ix
  rw [hf.md]
theorem hasR_rn {f : Int → Int} (hf : Nam f s) : hasR u s (f l) (rn f rows) = rn f (hasR u s l rows) := by
  unfold hasR
  by_cases h : l ∈ row s rows l
  · rw [if_pos ((mem_rn hf).mpr h), if_pos h]
    split
    · rw [ix_rn hf, row_rn f hf, filter_rn hf.inj]
      unfold rn
      rw [List.map_set]
      rfl
    · rfl
  · rw [if_neg (fun z => h ((mem_rn hf).mp z)), if_neg h]
theorem filR_rn {f : Int → Int} (hf : Nam f s) : filR s w (f l) (rn f rows) = rn f (filR s w l rows) := by
  unfold filR
  rw [ix_rn hf, row_rn f hf, filter_rn hf.inj]
  unfold rn
  rw [List.map_set, List.map_take]
  rfl
theorem Good.rn {f : Int → Int} (hf : Nam f s) (g : Good s rows) : Good s (rn f rows) := by
  refine ⟨by rw [List.length_map, g.len], fun i r h => ?_, fun i r l h hl => ?_⟩
  · rw [List.getElem?_map] at h
    obtain ⟨r0, h0, rfl⟩ := Option.map_eq_some_iff.mp h
    have := g.nd i r0 h0
    rw [List.Nodup, List.pairwise_map]
    exact this.imp fun hne e => hne (hf.inj _ _ e)
  · rw [List.getElem?_map] at h
    obtain ⟨r0, h0, rfl⟩ := Option.map_eq_some_iff.mp h
    obtain ⟨x, hx, rfl⟩ := List.mem_map.mp hl
    rw [hf.md]
    exact g.md i r0 x h0 hx
/-! ### a set alone -/
theorem row_one (a : List Int) (l : Int) : row 1 [a] l = a := by
  unfold row ix
  have : (l % ((1 : Nat) : Int)).toNat = 0 := by omega
  rw [this]
  rfl
theorem good_one {a : List Int} (h : a.Nodup) : Good 1 [a] := by
  refine ⟨rfl, fun i r e => ?_, fun i r l e hl => ?_⟩
  · cases i with
    | zero => cases e; exact h
    | succ i => simp at e
  · cases i with
    | zero => omega
    | succ i => simp at e
theorem ix_one (l : Int) : ix 1 l = 0 := by
  unfold ix
  omega
/-- the sets side by side -/
def Side (s : Nat) (rows : List (List Int)) (A : Nat → List Int) : Prop := rows.length = s ∧ ∀ i, i < s → rows[i]? = some ((A i).map fun y => (s : Int) * y + i)
variable {A : Nat → List Int}
theorem Side.row (h : Side s rows A) (hs : 0 < s) (l : Int) : row s rows l = (A (ix s l)).map fun y => (s : Int) * y + (ix s l : Nat) := by
  unfold M51.row
  rw [List.getD_eq_getElem?_getD, h.2 _ (ix_lt hs l)]
  rfl
theorem Side.mem (h : Side s rows A) (hs : 0 < s) : l ∈ M51.row s rows l ↔ l / s ∈ A (ix s l) := by
  have e := emb_part (i := ((ix s l : Nat) : Int)) hs (by omega) (by have := ix_lt hs l; omega)
  rw [h.row hs, List.mem_map]
  constructor
  · rintro ⟨y, hy, e2⟩
    rw [← e.inj y (l / s) (e2.trans (line_at hs l).symm)]
    exact hy
  · intro hy
    exact ⟨_, hy, line_at hs l⟩
def upA (A : Nat → List Int) (i : Nat) (r : List Int) : Nat → List Int := fun j => if j = i then r else A j
theorem Side.set (h : Side s rows A) {i : Nat} (hi : i < s) (r : List Int) : Side s (rows.set i (r.map fun y => (s : Int) * y + i)) (upA A i r) := by
  refine ⟨by rw [List.length_set, h.1], fun j hj => ?_⟩
  unfold upA
  by_cases e : j = i
  · subst e
    rw [List.getElem?_set_self (by rw [h.1]; exact hj), if_pos rfl]
  · rw [List.getElem?_set_ne (Ne.symm e), if_neg e, h.2 j hj]
theorem Side.filter (hs : 0 < s) (r : List Int) : ((r.map fun y => (s : Int) * y + (ix s l : Nat)).filter fun x => decide (x ≠ l)) = (r.filter fun y => decide (y ≠ l / s)).map fun y => (s : Int) * y + (ix s l : Nat) := by
  have e := emb_part (i := ((ix s l : Nat) : Int)) hs (by omega) (by have := ix_lt hs l; omega)
  have := filter_rn e.inj (l / s) r
  have e2 := line_at hs l
  simp only [e2] at this
  exact this
theorem Side.has (h : Side s rows A) (hs : 0 < s) : Side s (hasR u s l rows) (upA A (ix s l) ((hasR u 1 (l / s) [A (ix s l)]).getD 0 [])) := by
  have same : Side s rows (upA A (ix s l) (A (ix s l))) := by
    have e : upA A (ix s l) (A (ix s l)) = A := funext fun j => by
      unfold upA
      split
      · rename_i z; rw [z]
      · rfl
    rw [e]
    exact h
  unfold hasR
  rw [row_one]
  by_cases hm : l ∈ M51.row s rows l
  · rw [if_pos hm, if_pos ((h.mem hs).mp hm)]
    split
    · rw [h.row hs, Side.filter hs, ix_one]
      show Side s _ (upA A (ix s l) ((l / s) :: (A (ix s l)).filter _))
      have := h.set (ix_lt hs l) ((l / s) :: (A (ix s l)).filter fun x => decide (x ≠ l / s))
      rw [List.map_cons, line_at hs] at this
      exact this
    · exact same
  · rw [if_neg hm, if_neg (fun z => hm ((h.mem hs).mpr z))]
    exact same
theorem Side.fil (h : Side s rows A) (hs : 0 < s) : Side s (filR s w l rows) (upA A (ix s l) ((filR 1 w (l / s) [A (ix s l)]).getD 0 [])) := by
  unfold filR
  rw [row_one, h.row hs, Side.filter hs, ix_one]
  show Side s _ (upA A (ix s l) (((l / s) :: (A (ix s l)).filter _).take w))
  have := h.set (ix_lt hs l) (((l / s) :: (A (ix s l)).filter fun x => decide (x ≠ l / s)).take w)
  rw [List.map_take, List.map_cons, line_at hs] at this
  exact this
theorem hasR_one (l : Int) (a : List Int) : hasR u 1 l [a] = [(hasR u 1 l [a]).getD 0 []] := by
  unfold hasR
  split
  · split
    · rw [ix_one]
      rfl
    · rfl
  · rfl
theorem filR_one (l : Int) (a : List Int) : filR 1 w l [a] = [(filR 1 w l [a]).getD 0 []] := by
  unfold filR
  rw [ix_one]
  rfl
theorem Good.has (hs : 0 < s) (g : Good s rows) : Good s (hasR u s l rows) := by
  unfold hasR
  split
  · split
    · exact g.touch hs l
    · exact g
  · exact g
theorem Good.fil (hs : 0 < s) (g : Good s rows) : Good s (filR s w l rows) := by
  refine ⟨by unfold filR; rw [List.length_set, g.len], fun i r h => ?_, fun i r x h hx => ?_⟩
  · unfold filR at h
    rw [List.getElem?_set] at h
    split at h
    · split at h
      · cases h
        exact (front_nodup (g.nd _ _ (g.row hs l))).sublist (List.take_sublist _ _)
      · cases h
    · exact g.nd i r h
  · unfold filR at h
    rw [List.getElem?_set] at h
    split at h
    · rename_i e
      split at h
      · cases h
        subst e
        rcases List.mem_cons.mp (List.mem_of_mem_take hx) with rfl | hx
        · exact (ix_eq hs _).symm
        · exact g.md _ _ _ (g.row hs l) (List.mem_filter.mp hx).1
      · cases h
    · exact g.md i r x h hx
theorem Side.good (h : Side s rows A) (g : Good s rows) {i : Nat} (hi : i < s) : (A i).Nodup := by
  have := g.nd i _ (h.2 i hi)
  rw [List.Nodup, List.pairwise_map] at this
  exact this.imp fun hne e => hne (by rw [e])
end
end K50
/-! K50h: one step; the sides. -/
namespace K50
open PySem L2 FL M51
section
variable {S : Sto} {Q : D → Sto → Prop}
theorem cf_no {s w m : Nat} {u : Bool} : (cFs s w u m).lookup (Str.ofString "has") = none ∧ (cFs s w u m).lookup (Str.ofString "fill") = none ∧ (cFs s w u m).lookup (Str.ofString "lines") = none := by
  refine ⟨?_, ?_, ?_⟩ <;>
  · unfold cFs
    rw [List.lookup_cons, show (_ == Str.ofString "sets") = false by decide +kernel, List.lookup_cons, show (_ == Str.ofString "ways") = false by decide +kernel, List.lookup_cons, show (_ == Str.ofString "policy") = false by decide +kernel, List.lookup_cons, show (_ == Str.ofString "rows") = false by decide +kernel]
    rfl
def stR (u : Bool) (s w : Nat) (l : Int) (h : Bool) (rows : List (List Int)) : List (List Int) := if l ∈ row s rows l then hasR u s l rows else if h = true then filR s w l (hasR u s l rows) else hasR u s l rows
def stK (u : Bool) (s w : Nat) (l : Int) (h : Bool) (b : Bool) (k : List P) : List P := if b = true then tcK u s w l k else if h = true then uK s (sur w u) l k else k
def stM (u : Bool) (s w : Nat) (l : Int) (h : Bool) (b : Bool) (m : Option (List P)) : Option (List P) := if b = true then tcM u s w l m else if h = true then (m.map (msK l)).map (aK u s w l) else m.map (msK l)
theorem kok_ms {l : Int} {k : List P} (h : Kok k) : Kok (msK l k) := by
  have sub : List.Sublist (msK l k) k := List.filter_sublist
  exact ⟨h.nd.sublist (sub.map _), Nat.le_trans sub.length_le h.len, fun p hp => h.age p (sub.subset hp)⟩
theorem step_ok {u b : Bool} {s w n m : Nat} {rows : List (List Int)} {l h : Int} {k : List P} {mm : Option (List P)} (hs : 0 < s) (hw : w ≤ 100) (hl : rows.length = s) (hz : ∀ r ∈ rows, r.length ≤ 1000) (C : CA S s w u n m rows) (hk : Kk k mm) (hb : b = decide (l ∈ row s rows l)) :
    W (f__law_step [tD s w u, .ref n, knD k mm, .int l, .int h] S) fun d S' => ∃ q, d = .tup [.bl b, .ref q, knD (stK u s w l (decide (0 < h)) b k) (stM u s w l (decide (0 < h)) b mm)] ∧ S'[q]? = some (.lst ((vds k mm l).map D.bl)) ∧ CA S' s w u n m (stR u s w l (decide (0 < h)) rows) ∧ Kn m S S' ∧ S.length ≤ q := by
  refine w_fn rfl ?_
  show W (b__law_step [some (tD s w u), some (.ref n), some (knD k mm), some (.int l), some (.int h), none, none, none] S) _
  unfold b__law_step
  try simp only [w_seq, w_asg, w_ret, w_retN, w_drop, w_brk, w_cnt, w_nil, w_sif, w_c, w_ev, w_bin, w_un, w_anil, w_acons, w_tup, w_lst, w_call, w_tB, w_tNot, w_tAnd, w_tOr, w_eIf, w_isN, w_notN, w_gnm, w_gnils, w_gcns, w_gtp2, w_gtp3, w_gtp2p, w_ixT0, w_ixT1, w_ixT2, w_ch, w_chL, w_chK, w_par2, w_par3, w_add, w_sub, w_neg, w_lt, w_le, w_gt, w_ge, w_abs, w_int, w_intb, w_max2, w_min2, w_pno, w_ppart, w_sl, w_bm, w_yes, w_eqI, w_neI, w_eqB, w_neB, QS_nx, QS_rt, QS_bk, QS_ct, QF_nx, QF_rt, QL_nx, QL_ct, QL_bk, QL_rt, wipeE, List.set_cons_succ, List.set_cons_zero, List.getElem?_cons_succ, List.getElem?_cons_zero, D.bl.injEq, D.int.injEq, exists_eq_left', exists_eq_left, w_eAnd, w_tTru, tru_bl, if_true, if_false, Bool.false_eq_true]
  refine (verdicts_ok hk).mono fun d S1 e => ?_
  obtain ⟨q, rfl, g1, a1, lq⟩ := e
  try simp only [w_seq, w_asg, w_ret, w_retN, w_drop, w_brk, w_cnt, w_nil, w_sif, w_c, w_ev, w_bin, w_un, w_anil, w_acons, w_tup, w_lst, w_call, w_tB, w_tNot, w_tAnd, w_tOr, w_eIf, w_isN, w_notN, w_gnm, w_gnils, w_gcns, w_gtp2, w_gtp3, w_gtp2p, w_ixT0, w_ixT1, w_ixT2, w_ch, w_chL, w_chK, w_par2, w_par3, w_add, w_sub, w_neg, w_lt, w_le, w_gt, w_ge, w_abs, w_int, w_intb, w_max2, w_min2, w_pno, w_ppart, w_sl, w_bm, w_yes, w_eqI, w_neI, w_eqB, w_neB, QS_nx, QS_rt, QS_bk, QS_ct, QF_nx, QF_rt, QL_nx, QL_ct, QL_bk, QL_rt, wipeE, List.set_cons_succ, List.set_cons_zero, List.getElem?_cons_succ, List.getElem?_cons_zero, D.bl.injEq, D.int.injEq, exists_eq_left', exists_eq_left, w_eAnd, w_tTru, tru_bl, if_true, if_false, Bool.false_eq_true]
  have C1 : CA S1 s w u n m rows := ⟨a1 _ _ C.1, a1 _ _ C.2.1, C.2.2⟩
  refine w_meth ?_
  try simp only [w_seq, w_asg, w_ret, w_retN, w_drop, w_brk, w_cnt, w_nil, w_sif, w_c, w_ev, w_bin, w_un, w_anil, w_acons, w_tup, w_lst, w_call, w_tB, w_tNot, w_tAnd, w_tOr, w_eIf, w_isN, w_notN, w_gnm, w_gnils, w_gcns, w_gtp2, w_gtp3, w_gtp2p, w_ixT0, w_ixT1, w_ixT2, w_ch, w_chL, w_chK, w_par2, w_par3, w_add, w_sub, w_neg, w_lt, w_le, w_gt, w_ge, w_abs, w_int, w_intb, w_max2, w_min2, w_pno, w_ppart, w_sl, w_bm, w_yes, w_eqI, w_neI, w_eqB, w_neB, QS_nx, QS_rt, QS_bk, QS_ct, QF_nx, QF_rt, QL_nx, QL_ct, QL_bk, QL_rt, wipeE, List.set_cons_succ, List.set_cons_zero, List.getElem?_cons_succ, List.getElem?_cons_zero, D.bl.injEq, D.int.injEq, exists_eq_left', exists_eq_left, w_eAnd, w_tTru, tru_bl, if_true, if_false, Bool.false_eq_true]
  refine ⟨n, _, rfl, C1.1, cf_no.1, ?_⟩
  refine (has_ok (l := l) hs hl hz C1).mono fun d S2 e => ?_
  obtain ⟨rfl, C2, k2⟩ := e
  rw [← hb]
  have hm1 := lt_of_at C.2.1
  have g2 := k2 _ _ (by omega) g1
  have K2 : Kn m S S2 := fun m' o hne e => k2 _ _ hne (a1 _ _ e)
  try simp only [w_seq, w_asg, w_ret, w_retN, w_drop, w_brk, w_cnt, w_nil, w_sif, w_c, w_ev, w_bin, w_un, w_anil, w_acons, w_tup, w_lst, w_call, w_tB, w_tNot, w_tAnd, w_tOr, w_eIf, w_isN, w_notN, w_gnm, w_gnils, w_gcns, w_gtp2, w_gtp3, w_gtp2p, w_ixT0, w_ixT1, w_ixT2, w_ch, w_chL, w_chK, w_par2, w_par3, w_add, w_sub, w_neg, w_lt, w_le, w_gt, w_ge, w_abs, w_int, w_intb, w_max2, w_min2, w_pno, w_ppart, w_sl, w_bm, w_yes, w_eqI, w_neI, w_eqB, w_neB, QS_nx, QS_rt, QS_bk, QS_ct, QF_nx, QF_rt, QL_nx, QL_ct, QL_bk, QL_rt, wipeE, List.set_cons_succ, List.set_cons_zero, List.getElem?_cons_succ, List.getElem?_cons_zero, D.bl.injEq, D.int.injEq, exists_eq_left', exists_eq_left, w_eAnd, w_tTru, tru_bl, if_true, if_false, Bool.false_eq_true, tru_bl]
  cases b with
  | true =>
    have hm := of_decide_eq_true hb.symm
    have er : stR u s w l (decide (0 < h)) rows = hasR u s l rows := if_pos hm
    simp only [if_true, Bool.not_true, Bool.false_eq_true, if_false]
    refine (touched_ok hs hw hk).mono fun d S3 e => ?_
    obtain ⟨rfl, a3⟩ := e
    try simp only [w_seq, w_asg, w_ret, w_retN, w_drop, w_brk, w_cnt, w_nil, w_sif, w_c, w_ev, w_bin, w_un, w_anil, w_acons, w_tup, w_lst, w_call, w_tB, w_tNot, w_tAnd, w_tOr, w_eIf, w_isN, w_notN, w_gnm, w_gnils, w_gcns, w_gtp2, w_gtp3, w_gtp2p, w_ixT0, w_ixT1, w_ixT2, w_ch, w_chL, w_chK, w_par2, w_par3, w_add, w_sub, w_neg, w_lt, w_le, w_gt, w_ge, w_abs, w_int, w_intb, w_max2, w_min2, w_pno, w_ppart, w_sl, w_bm, w_yes, w_eqI, w_neI, w_eqB, w_neB, QS_nx, QS_rt, QS_bk, QS_ct, QF_nx, QF_rt, QL_nx, QL_ct, QL_bk, QL_rt, wipeE, List.set_cons_succ, List.set_cons_zero, List.getElem?_cons_succ, List.getElem?_cons_zero, D.bl.injEq, D.int.injEq, exists_eq_left', exists_eq_left, w_eAnd, w_tTru, tru_bl, if_true, if_false, Bool.false_eq_true, tru_bl, Bool.not_true, Bool.false_eq_true, if_false]
    refine ⟨by show 3 ≤ 10000000; decide, q, rfl, a3 _ _ g2, ?_, fun m' o hne e => a3 _ _ (K2 _ _ hne e), lq⟩
    rw [er]
    exact ⟨a3 _ _ C2.1, a3 _ _ C2.2.1, C2.2.2⟩
  | false =>
    have hm : l ∉ row s rows l := fun z => by
      rw [decide_eq_true z] at hb
      cases hb
    simp only [if_true, Bool.not_false, Bool.false_eq_true, if_false]
    refine (missed_ok hk).mono fun d S3 e => ?_
    obtain ⟨rfl, a3⟩ := e
    try simp only [w_seq, w_asg, w_ret, w_retN, w_drop, w_brk, w_cnt, w_nil, w_sif, w_c, w_ev, w_bin, w_un, w_anil, w_acons, w_tup, w_lst, w_call, w_tB, w_tNot, w_tAnd, w_tOr, w_eIf, w_isN, w_notN, w_gnm, w_gnils, w_gcns, w_gtp2, w_gtp3, w_gtp2p, w_ixT0, w_ixT1, w_ixT2, w_ch, w_chL, w_chK, w_par2, w_par3, w_add, w_sub, w_neg, w_lt, w_le, w_gt, w_ge, w_abs, w_int, w_intb, w_max2, w_min2, w_pno, w_ppart, w_sl, w_bm, w_yes, w_eqI, w_neI, w_eqB, w_neB, QS_nx, QS_rt, QS_bk, QS_ct, QF_nx, QF_rt, QL_nx, QL_ct, QL_bk, QL_rt, wipeE, List.set_cons_succ, List.set_cons_zero, List.getElem?_cons_succ, List.getElem?_cons_zero, D.bl.injEq, D.int.injEq, exists_eq_left', exists_eq_left, w_eAnd, w_tTru, tru_bl, if_true, if_false, Bool.false_eq_true, tru_bl, Bool.not_false, if_true]
    have C3 : CA S3 s w u n m (hasR u s l rows) := ⟨a3 _ _ C2.1, a3 _ _ C2.2.1, C2.2.2⟩
    have hh : hasR u s l rows = rows := if_neg hm
    by_cases h0 : 0 < h
    · rw [decide_eq_true h0]
      have er : stR u s w l true rows = filR s w l (hasR u s l rows) := by unfold stR; rw [if_neg hm, if_pos rfl]
      simp only [if_true]
      refine w_meth ?_
      try simp only [w_seq, w_asg, w_ret, w_retN, w_drop, w_brk, w_cnt, w_nil, w_sif, w_c, w_ev, w_bin, w_un, w_anil, w_acons, w_tup, w_lst, w_call, w_tB, w_tNot, w_tAnd, w_tOr, w_eIf, w_isN, w_notN, w_gnm, w_gnils, w_gcns, w_gtp2, w_gtp3, w_gtp2p, w_ixT0, w_ixT1, w_ixT2, w_ch, w_chL, w_chK, w_par2, w_par3, w_add, w_sub, w_neg, w_lt, w_le, w_gt, w_ge, w_abs, w_int, w_intb, w_max2, w_min2, w_pno, w_ppart, w_sl, w_bm, w_yes, w_eqI, w_neI, w_eqB, w_neB, QS_nx, QS_rt, QS_bk, QS_ct, QF_nx, QF_rt, QL_nx, QL_ct, QL_bk, QL_rt, wipeE, List.set_cons_succ, List.set_cons_zero, List.getElem?_cons_succ, List.getElem?_cons_zero, D.bl.injEq, D.int.injEq, exists_eq_left', exists_eq_left, w_eAnd, w_tTru, tru_bl, if_true, if_false, Bool.false_eq_true]
      refine ⟨n, _, rfl, C3.1, cf_no.2.1, ?_⟩
      refine (fill_ok (l := l) hs (by rw [hh]; exact hl) (by rw [hh]; exact hz) C3).mono fun d S4 e => ?_
      obtain ⟨rfl, C4, k4⟩ := e
      have hk2 : Kk k (mm.map (msK l)) := ⟨hk.k, fun k2 e => by
        obtain ⟨m0, rfl, rfl⟩ := Option.map_eq_some_iff.mp e
        exact kok_ms (hk.m m0 rfl)⟩
      refine (filled_ok (S := S4) (l := l) hs hw hk2).mono fun d S5 e => ?_
      obtain ⟨rfl, a5⟩ := e
      try simp only [w_seq, w_asg, w_ret, w_retN, w_drop, w_brk, w_cnt, w_nil, w_sif, w_c, w_ev, w_bin, w_un, w_anil, w_acons, w_tup, w_lst, w_call, w_tB, w_tNot, w_tAnd, w_tOr, w_eIf, w_isN, w_notN, w_gnm, w_gnils, w_gcns, w_gtp2, w_gtp3, w_gtp2p, w_ixT0, w_ixT1, w_ixT2, w_ch, w_chL, w_chK, w_par2, w_par3, w_add, w_sub, w_neg, w_lt, w_le, w_gt, w_ge, w_abs, w_int, w_intb, w_max2, w_min2, w_pno, w_ppart, w_sl, w_bm, w_yes, w_eqI, w_neI, w_eqB, w_neB, QS_nx, QS_rt, QS_bk, QS_ct, QF_nx, QF_rt, QL_nx, QL_ct, QL_bk, QL_rt, wipeE, List.set_cons_succ, List.set_cons_zero, List.getElem?_cons_succ, List.getElem?_cons_zero, D.bl.injEq, D.int.injEq, exists_eq_left', exists_eq_left, w_eAnd, w_tTru, tru_bl, if_true, if_false, Bool.false_eq_true]
      refine ⟨by show 3 ≤ 10000000; decide, q, rfl, a5 _ _ (k4 _ _ (by omega) (a3 _ _ g2)), ?_, fun m' o hne e => a5 _ _ (k4 _ _ hne (a3 _ _ (K2 _ _ hne e))), lq⟩
      rw [er]
      exact ⟨a5 _ _ C4.1, a5 _ _ C4.2.1, C4.2.2⟩
    · rw [decide_eq_false h0]
      have er : stR u s w l false rows = hasR u s l rows := by unfold stR; rw [if_neg hm, if_neg Bool.false_ne_true]
      simp only [Bool.false_eq_true, if_false]
      refine ⟨by show 3 ≤ 10000000; decide, q, rfl, a3 _ _ g2, ?_, fun m' o hne e => a3 _ _ (K2 _ _ hne e), lq⟩
      rw [er]
      exact C3
/-- well formed, of some size -/
structure KC (N w : Nat) (u : Bool) (k : List P) (m : Option (List P)) : Prop where
  k : CK N (sur w u) k
  m : ∀ m', m = some m' → CK N w m'
theorem KC.kk {N w : Nat} {u : Bool} {k : List P} {m : Option (List P)} (h : KC N w u k m) (hN : N ≤ 1000) (hw : w ≤ 4) : Kk k m :=
  ⟨h.k.kok hN (by unfold sur; split <;> omega), fun k2 e => (h.m k2 e).kok hN (by omega)⟩
theorem KC.ao {N w : Nat} {u : Bool} {k : List P} {m : Option (List P)} (h : KC N w u k m) : AscO m := fun m' e => (h.m m' e).asc
theorem KC.pt {N s w i : Nat} {u : Bool} {k : List P} {m : Option (List P)} (hs : 0 < s) (hi : i < s) (h : KC (N * s) w u k m) : KC N w u (ptK s i k) (m.map (ptK s i)) :=
  ⟨h.k.ptK hs hi, fun m' e => by
    obtain ⟨m0, rfl, rfl⟩ := Option.map_eq_some_iff.mp e
    exact (h.m m0 rfl).ptK hs hi⟩
theorem KC.jn {N w : Nat} {u : Bool} {k1 k2 : List P} {m1 m2 : Option (List P)} (h1 : KC N w u k1 m1) (h2 : KC N w u k2 m2) : KC N w u (jnK k1 k2) (jnO m1 m2) := by
  refine ⟨⟨jnK_asc h1.k.asc, fun x a e => ?_⟩, fun m' e => ?_⟩
  · rw [lk_jnK h1.k.asc] at e
    obtain ⟨c, e1, e2⟩ := Option.bind_eq_some_iff.mp e
    obtain ⟨b, e3, rfl⟩ := Option.map_eq_some_iff.mp e2
    have x1 := h1.k.ok x c e1
    have x2 := h2.k.ok x b e3
    split
    · exact x2
    · exact x1
  · cases m1 with
    | none => cases e
    | some j1 =>
      cases m2 with
      | none => cases e
      | some j2 =>
        have e' : some (jnM j1 j2) = some m' := e
        cases e'
        have o1 := h1.m j1 rfl
        have o2 := h2.m j2 rfl
        refine ⟨jnM_asc o1.asc o2.asc, fun x a e => ?_⟩
        rw [lk_jnM o1.asc o2.asc] at e
        cases e2 : lkP j2 x with
        | none =>
          rw [e2] at e
          exact o1.ok x a e
        | some b =>
          rw [e2] at e
          cases e
          have x2 := o2.ok x b e2
          cases e1 : lkP j1 x with
          | none =>
            simp only [Option.getD_none, Int.lt_irrefl, if_false]
            exact x2
          | some c =>
            have x1 := o1.ok x c e1
            simp only [Option.getD_some]
            split
            · exact x1
            · exact x2
theorem okD_kn (k : List P) (m : Option (List P)) : okD 18 (knD k m) = true := by
  have hk : ∀ k : List P, okD 17 (kD k) = true := fun k => okD_map (fun x => rfl) k
  show ([kD k, mD m].all (okD 17)) = true
  have h2 : okD 17 (mD m) = true := by
    cases m with
    | none => rfl
    | some k2 => exact hk k2
  simp [hk k, h2]
theorem sides_ok {u : Bool} {s w N : Nat} {k1 k2 : List P} {m1 m2 : Option (List P)} (hs : 0 < s) (hs4 : s ≤ 4) (hw : w ≤ 4) (hN : N * s ≤ 1000) (h1 : KC (N * s) w u k1 m1) (h2 : KC (N * s) w u k2 m2) :
    W (f__law_sides [tD s w u, knD k1 m1, knD k2 m2] S) fun d S' => d = .bl true ∧ Ap S S' := by
  have hN1 : N ≤ 1000 := by
    have : N * 1 ≤ N * s := Nat.mul_le_mul_left _ hs
    omega
  have kk1 := h1.kk hN hw
  have kk2 := h2.kk hN hw
  have hj := h1.jn h2
  have kkj := hj.kk hN hw
  refine w_fn rfl ?_
  show W (b__law_sides [some (tD s w u), some (knD k1 m1), some (knD k2 m2), none, none, none, none, none, none, none] S) _
  unfold b__law_sides
  try simp only [w_seq, w_asg, w_ret, w_retN, w_drop, w_brk, w_cnt, w_nil, w_sif, w_c, w_ev, w_bin, w_un, w_anil, w_acons, w_tup, w_lst, w_call, w_tB, w_tNot, w_tAnd, w_tOr, w_eIf, w_isN, w_notN, w_gnm, w_gnils, w_gcns, w_gtp2, w_gtp3, w_gtp2p, w_ixT0, w_ixT1, w_ixT2, w_ch, w_chL, w_chK, w_par2, w_par3, w_add, w_sub, w_neg, w_lt, w_le, w_gt, w_ge, w_abs, w_int, w_intb, w_max2, w_min2, w_pno, w_ppart, w_sl, w_bm, w_yes, w_eqI, w_neI, w_eqB, w_neB, QS_nx, QS_rt, QS_bk, QS_ct, QF_nx, QF_rt, QL_nx, QL_ct, QL_bk, QL_rt, wipeE, List.set_cons_succ, List.set_cons_zero, List.getElem?_cons_succ, List.getElem?_cons_zero, D.bl.injEq, D.int.injEq, exists_eq_left', exists_eq_left, w_eAnd, w_tTru, tru_bl, if_true, if_false, Bool.false_eq_true]
  refine (within_ok kk1 kk2).mono fun d S1 e => ?_
  obtain ⟨rfl, a1⟩ := e
  refine (joined_ok kk1 kk2).mono fun d S2 e => ?_
  obtain ⟨rfl, a2⟩ := e
  try simp only [w_seq, w_asg, w_ret, w_retN, w_drop, w_brk, w_cnt, w_nil, w_sif, w_c, w_ev, w_bin, w_un, w_anil, w_acons, w_tup, w_lst, w_call, w_tB, w_tNot, w_tAnd, w_tOr, w_eIf, w_isN, w_notN, w_gnm, w_gnils, w_gcns, w_gtp2, w_gtp3, w_gtp2p, w_ixT0, w_ixT1, w_ixT2, w_ch, w_chL, w_chK, w_par2, w_par3, w_add, w_sub, w_neg, w_lt, w_le, w_gt, w_ge, w_abs, w_int, w_intb, w_max2, w_min2, w_pno, w_ppart, w_sl, w_bm, w_yes, w_eqI, w_neI, w_eqB, w_neB, QS_nx, QS_rt, QS_bk, QS_ct, QF_nx, QF_rt, QL_nx, QL_ct, QL_bk, QL_rt, wipeE, List.set_cons_succ, List.set_cons_zero, List.getElem?_cons_succ, List.getElem?_cons_zero, D.bl.injEq, D.int.injEq, exists_eq_left', exists_eq_left, w_eAnd, w_tTru, tru_bl, if_true, if_false, Bool.false_eq_true]
  refine ⟨by show 2 ≤ 10000000; decide, ?_⟩
  refine w_lcr (n := s) (lo := 0) (fun i => .tup [knD (ptK s (i : Nat) k1) (m1.map (ptK s (i : Nat))), knD (ptK s (i : Nat) k2) (m2.map (ptK s (i : Nat)))]) ?_ (fun i hi S3 a3 => ?_) (by unfold cap; omega) fun n3 S3 a3 l3 g3 => ?_
  · refine w_rng1 ?_
    try simp only [w_seq, w_asg, w_ret, w_retN, w_drop, w_brk, w_cnt, w_nil, w_sif, w_c, w_ev, w_bin, w_un, w_anil, w_acons, w_tup, w_lst, w_call, w_tB, w_tNot, w_tAnd, w_tOr, w_eIf, w_isN, w_notN, w_gnm, w_gnils, w_gcns, w_gtp2, w_gtp3, w_gtp2p, w_ixT0, w_ixT1, w_ixT2, w_ch, w_chL, w_chK, w_par2, w_par3, w_add, w_sub, w_neg, w_lt, w_le, w_gt, w_ge, w_abs, w_int, w_intb, w_max2, w_min2, w_pno, w_ppart, w_sl, w_bm, w_yes, w_eqI, w_neI, w_eqB, w_neB, QS_nx, QS_rt, QS_bk, QS_ct, QF_nx, QF_rt, QL_nx, QL_ct, QL_bk, QL_rt, wipeE, List.set_cons_succ, List.set_cons_zero, List.getElem?_cons_succ, List.getElem?_cons_zero, D.bl.injEq, D.int.injEq, exists_eq_left', exists_eq_left, w_eAnd, w_tTru, tru_bl, if_true, if_false, Bool.false_eq_true]
    exact ⟨_, rfl, by omega, by omega, by simp [Int.toNat], by trivial⟩
  · try simp only [w_seq, w_asg, w_ret, w_retN, w_drop, w_brk, w_cnt, w_nil, w_sif, w_c, w_ev, w_bin, w_un, w_anil, w_acons, w_tup, w_lst, w_call, w_tB, w_tNot, w_tAnd, w_tOr, w_eIf, w_isN, w_notN, w_gnm, w_gnils, w_gcns, w_gtp2, w_gtp3, w_gtp2p, w_ixT0, w_ixT1, w_ixT2, w_ch, w_chL, w_chK, w_par2, w_par3, w_add, w_sub, w_neg, w_lt, w_le, w_gt, w_ge, w_abs, w_int, w_intb, w_max2, w_min2, w_pno, w_ppart, w_sl, w_bm, w_yes, w_eqI, w_neI, w_eqB, w_neB, QS_nx, QS_rt, QS_bk, QS_ct, QF_nx, QF_rt, QL_nx, QL_ct, QL_bk, QL_rt, wipeE, List.set_cons_succ, List.set_cons_zero, List.getElem?_cons_succ, List.getElem?_cons_zero, D.bl.injEq, D.int.injEq, exists_eq_left', exists_eq_left, w_eAnd, w_tTru, tru_bl, if_true, if_false, Bool.false_eq_true, Int.zero_add]
    refine ⟨trivial, Ap.refl _, ?_⟩
    refine (part_ok hs (by omega) kk1).mono fun d S4 e => ?_
    obtain ⟨rfl, a4⟩ := e
    refine (part_ok hs (by omega) kk2).mono fun d S5 e => ?_
    obtain ⟨rfl, a5⟩ := e
    exact ⟨by show 2 ≤ 10000000; decide, rfl, a4.trans a5⟩
  · try simp only [w_seq, w_asg, w_ret, w_retN, w_drop, w_brk, w_cnt, w_nil, w_sif, w_c, w_ev, w_bin, w_un, w_anil, w_acons, w_tup, w_lst, w_call, w_tB, w_tNot, w_tAnd, w_tOr, w_eIf, w_isN, w_notN, w_gnm, w_gnils, w_gcns, w_gtp2, w_gtp3, w_gtp2p, w_ixT0, w_ixT1, w_ixT2, w_ch, w_chL, w_chK, w_par2, w_par3, w_add, w_sub, w_neg, w_lt, w_le, w_gt, w_ge, w_abs, w_int, w_intb, w_max2, w_min2, w_pno, w_ppart, w_sl, w_bm, w_yes, w_eqI, w_neI, w_eqB, w_neB, QS_nx, QS_rt, QS_bk, QS_ct, QF_nx, QF_rt, QL_nx, QL_ct, QL_bk, QL_rt, wipeE, List.set_cons_succ, List.set_cons_zero, List.getElem?_cons_succ, List.getElem?_cons_zero, D.bl.injEq, D.int.injEq, exists_eq_left', exists_eq_left, w_eAnd, w_tTru, tru_bl, if_true, if_false, Bool.false_eq_true]
    have g3l : S3[n3]? = some (.lst ((List.range s).map fun i => D.tup [knD (ptK s (i : Nat) k1) (m1.map (ptK s (i : Nat))), knD (ptK s (i : Nat) k2) (m2.map (ptK s (i : Nat)))])) := g3
    refine w_lcx (f := fun i : Nat => D.tup [knD (ptK s (i : Nat) k1) (m1.map (ptK s (i : Nat))), knD (ptK s (i : Nat) k2) (m2.map (ptK s (i : Nat)))]) (xs := List.range s) (fun i => .bl (wiB (ptK s (i : Nat) k1) (m1.map (ptK s (i : Nat))) (ptK s (i : Nat) k2) (m2.map (ptK s (i : Nat))))) ?_ (fun i hi S4 a4 => ?_) (by rw [List.length_range]; unfold cap; omega) fun n4 S4 a4 l4 g4 => ?_
    · refine w_iseqL ?_
      try simp only [w_seq, w_asg, w_ret, w_retN, w_drop, w_brk, w_cnt, w_nil, w_sif, w_c, w_ev, w_bin, w_un, w_anil, w_acons, w_tup, w_lst, w_call, w_tB, w_tNot, w_tAnd, w_tOr, w_eIf, w_isN, w_notN, w_gnm, w_gnils, w_gcns, w_gtp2, w_gtp3, w_gtp2p, w_ixT0, w_ixT1, w_ixT2, w_ch, w_chL, w_chK, w_par2, w_par3, w_add, w_sub, w_neg, w_lt, w_le, w_gt, w_ge, w_abs, w_int, w_intb, w_max2, w_min2, w_pno, w_ppart, w_sl, w_bm, w_yes, w_eqI, w_neI, w_eqB, w_neB, QS_nx, QS_rt, QS_bk, QS_ct, QF_nx, QF_rt, QL_nx, QL_ct, QL_bk, QL_rt, wipeE, List.set_cons_succ, List.set_cons_zero, List.getElem?_cons_succ, List.getElem?_cons_zero, D.bl.injEq, D.int.injEq, exists_eq_left', exists_eq_left, w_eAnd, w_tTru, tru_bl, if_true, if_false, Bool.false_eq_true]
      exact ⟨_, _, rfl, getL_of g3l, Ap.refl _, n3, by rw [List.length_map], getL_of g3l⟩
    · have hi' := List.mem_range.mp hi
      try simp only [w_seq, w_asg, w_ret, w_retN, w_drop, w_brk, w_cnt, w_nil, w_sif, w_c, w_ev, w_bin, w_un, w_anil, w_acons, w_tup, w_lst, w_call, w_tB, w_tNot, w_tAnd, w_tOr, w_eIf, w_isN, w_notN, w_gnm, w_gnils, w_gcns, w_gtp2, w_gtp3, w_gtp2p, w_ixT0, w_ixT1, w_ixT2, w_ch, w_chL, w_chK, w_par2, w_par3, w_add, w_sub, w_neg, w_lt, w_le, w_gt, w_ge, w_abs, w_int, w_intb, w_max2, w_min2, w_pno, w_ppart, w_sl, w_bm, w_yes, w_eqI, w_neI, w_eqB, w_neB, QS_nx, QS_rt, QS_bk, QS_ct, QF_nx, QF_rt, QL_nx, QL_ct, QL_bk, QL_rt, wipeE, List.set_cons_succ, List.set_cons_zero, List.getElem?_cons_succ, List.getElem?_cons_zero, D.bl.injEq, D.int.injEq, exists_eq_left', exists_eq_left, w_eAnd, w_tTru, tru_bl, if_true, if_false, Bool.false_eq_true]
      refine ⟨trivial, Ap.refl _, ?_⟩
      refine (within_ok ((KC.pt hs hi' h1).kk hN1 hw) ((KC.pt hs hi' h2).kk hN1 hw)).mono fun d S5 e => ?_
      exact ⟨e.1, e.2⟩
    · have eb : (List.range s).map (fun i : Nat => D.bl (wiB (ptK s (i : Nat) k1) (m1.map (ptK s (i : Nat))) (ptK s (i : Nat) k2) (m2.map (ptK s (i : Nat))))) = ((List.range s).map fun i : Nat => wiB (ptK s (i : Nat) k1) (m1.map (ptK s (i : Nat))) (ptK s (i : Nat) k2) (m2.map (ptK s (i : Nat)))).map D.bl := by rw [List.map_map]; rfl
      rw [eb] at g4
      rw [w_allB (getL_of g4), List.all_map]
      have ew : wiB k1 m1 k2 m2 = (List.range s).all (id ∘ fun i : Nat => wiB (ptK s (i : Nat) k1) (m1.map (ptK s (i : Nat))) (ptK s (i : Nat) k2) (m2.map (ptK s (i : Nat)))) := wi_parts hs h1.k.asc h2.k.asc h1.ao h2.ao
      rw [← ew]
      try simp only [w_seq, w_asg, w_ret, w_retN, w_drop, w_brk, w_cnt, w_nil, w_sif, w_c, w_ev, w_bin, w_un, w_anil, w_acons, w_tup, w_lst, w_call, w_tB, w_tNot, w_tAnd, w_tOr, w_eIf, w_isN, w_notN, w_gnm, w_gnils, w_gcns, w_gtp2, w_gtp3, w_gtp2p, w_ixT0, w_ixT1, w_ixT2, w_ch, w_chL, w_chK, w_par2, w_par3, w_add, w_sub, w_neg, w_lt, w_le, w_gt, w_ge, w_abs, w_int, w_intb, w_max2, w_min2, w_pno, w_ppart, w_sl, w_bm, w_yes, w_eqI, w_neI, w_eqB, w_neB, QS_nx, QS_rt, QS_bk, QS_ct, QF_nx, QF_rt, QL_nx, QL_ct, QL_bk, QL_rt, wipeE, List.set_cons_succ, List.set_cons_zero, List.getElem?_cons_succ, List.getElem?_cons_zero, D.bl.injEq, D.int.injEq, exists_eq_left', exists_eq_left, w_eAnd, w_tTru, tru_bl, if_true, if_false, Bool.false_eq_true, beq_self_eq_true, Bool.not_true, Bool.false_eq_true, if_false]
      refine (within_ok kk1 kkj).mono fun d S5 e => ?_
      obtain ⟨rfl, a5⟩ := e
      rw [jn_in1 h1.k.asc h2.k.asc h1.ao h2.ao hj.ao]
      simp only [tru_bl, Bool.not_true, Bool.false_eq_true, if_false]
      refine (within_ok kk2 kkj).mono fun d S6 e => ?_
      obtain ⟨rfl, a6⟩ := e
      rw [jn_in2 h1.k.asc h2.k.asc h1.ao h2.ao hj.ao]
      simp only [tru_bl, Bool.not_true, Bool.false_eq_true, if_false]
      have g6 := a6 _ _ (a5 _ _ (a4 _ _ g3))
      refine w_lcr (n := s) (lo := 0) (fun i => .bl true) ?_ (fun i hi S7 a7 => ?_) (by unfold cap; omega) fun n7 S7 a7 l7 g7 => ?_
      · refine w_rng1 ?_
        try simp only [w_seq, w_asg, w_ret, w_retN, w_drop, w_brk, w_cnt, w_nil, w_sif, w_c, w_ev, w_bin, w_un, w_anil, w_acons, w_tup, w_lst, w_call, w_tB, w_tNot, w_tAnd, w_tOr, w_eIf, w_isN, w_notN, w_gnm, w_gnils, w_gcns, w_gtp2, w_gtp3, w_gtp2p, w_ixT0, w_ixT1, w_ixT2, w_ch, w_chL, w_chK, w_par2, w_par3, w_add, w_sub, w_neg, w_lt, w_le, w_gt, w_ge, w_abs, w_int, w_intb, w_max2, w_min2, w_pno, w_ppart, w_sl, w_bm, w_yes, w_eqI, w_neI, w_eqB, w_neB, QS_nx, QS_rt, QS_bk, QS_ct, QF_nx, QF_rt, QL_nx, QL_ct, QL_bk, QL_rt, wipeE, List.set_cons_succ, List.set_cons_zero, List.getElem?_cons_succ, List.getElem?_cons_zero, D.bl.injEq, D.int.injEq, exists_eq_left', exists_eq_left, w_eAnd, w_tTru, tru_bl, if_true, if_false, Bool.false_eq_true]
        exact ⟨_, rfl, by omega, by omega, by simp [Int.toNat], by trivial⟩
      · try simp only [w_seq, w_asg, w_ret, w_retN, w_drop, w_brk, w_cnt, w_nil, w_sif, w_c, w_ev, w_bin, w_un, w_anil, w_acons, w_tup, w_lst, w_call, w_tB, w_tNot, w_tAnd, w_tOr, w_eIf, w_isN, w_notN, w_gnm, w_gnils, w_gcns, w_gtp2, w_gtp3, w_gtp2p, w_ixT0, w_ixT1, w_ixT2, w_ch, w_chL, w_chK, w_par2, w_par3, w_add, w_sub, w_neg, w_lt, w_le, w_gt, w_ge, w_abs, w_int, w_intb, w_max2, w_min2, w_pno, w_ppart, w_sl, w_bm, w_yes, w_eqI, w_neI, w_eqB, w_neB, QS_nx, QS_rt, QS_bk, QS_ct, QF_nx, QF_rt, QL_nx, QL_ct, QL_bk, QL_rt, wipeE, List.set_cons_succ, List.set_cons_zero, List.getElem?_cons_succ, List.getElem?_cons_zero, D.bl.injEq, D.int.injEq, exists_eq_left', exists_eq_left, w_eAnd, w_tTru, tru_bl, if_true, if_false, Bool.false_eq_true, Int.zero_add]
        refine ⟨trivial, Ap.refl _, ?_⟩
        refine (part_ok hs (by omega) kkj).mono fun d S8 e => ?_
        obtain ⟨rfl, a8⟩ := e
        have g8 := getL_of (a8 _ _ (a7 _ _ g6))
        rw [w_ixL g8 (lf_at (f := fun i => D.tup [knD (ptK s (i : Nat) k1) (m1.map (ptK s (i : Nat))), knD (ptK s (i : Nat) k2) (m2.map (ptK s (i : Nat)))]) hi)]
        try simp only [w_seq, w_asg, w_ret, w_retN, w_drop, w_brk, w_cnt, w_nil, w_sif, w_c, w_ev, w_bin, w_un, w_anil, w_acons, w_tup, w_lst, w_call, w_tB, w_tNot, w_tAnd, w_tOr, w_eIf, w_isN, w_notN, w_gnm, w_gnils, w_gcns, w_gtp2, w_gtp3, w_gtp2p, w_ixT0, w_ixT1, w_ixT2, w_ch, w_chL, w_chK, w_par2, w_par3, w_add, w_sub, w_neg, w_lt, w_le, w_gt, w_ge, w_abs, w_int, w_intb, w_max2, w_min2, w_pno, w_ppart, w_sl, w_bm, w_yes, w_eqI, w_neI, w_eqB, w_neB, QS_nx, QS_rt, QS_bk, QS_ct, QF_nx, QF_rt, QL_nx, QL_ct, QL_bk, QL_rt, wipeE, List.set_cons_succ, List.set_cons_zero, List.getElem?_cons_succ, List.getElem?_cons_zero, D.bl.injEq, D.int.injEq, exists_eq_left', exists_eq_left, w_eAnd, w_tTru, tru_bl, if_true, if_false, Bool.false_eq_true]
        rw [w_ixL g8 (lf_at (f := fun i => D.tup [knD (ptK s (i : Nat) k1) (m1.map (ptK s (i : Nat))), knD (ptK s (i : Nat) k2) (m2.map (ptK s (i : Nat)))]) hi)]
        try simp only [w_seq, w_asg, w_ret, w_retN, w_drop, w_brk, w_cnt, w_nil, w_sif, w_c, w_ev, w_bin, w_un, w_anil, w_acons, w_tup, w_lst, w_call, w_tB, w_tNot, w_tAnd, w_tOr, w_eIf, w_isN, w_notN, w_gnm, w_gnils, w_gcns, w_gtp2, w_gtp3, w_gtp2p, w_ixT0, w_ixT1, w_ixT2, w_ch, w_chL, w_chK, w_par2, w_par3, w_add, w_sub, w_neg, w_lt, w_le, w_gt, w_ge, w_abs, w_int, w_intb, w_max2, w_min2, w_pno, w_ppart, w_sl, w_bm, w_yes, w_eqI, w_neI, w_eqB, w_neB, QS_nx, QS_rt, QS_bk, QS_ct, QF_nx, QF_rt, QL_nx, QL_ct, QL_bk, QL_rt, wipeE, List.set_cons_succ, List.set_cons_zero, List.getElem?_cons_succ, List.getElem?_cons_zero, D.bl.injEq, D.int.injEq, exists_eq_left', exists_eq_left, w_eAnd, w_tTru, tru_bl, if_true, if_false, Bool.false_eq_true]
        refine (joined_ok ((KC.pt hs hi h1).kk hN1 hw) ((KC.pt hs hi h2).kk hN1 hw)).mono fun d S9 e => ?_
        obtain ⟨rfl, a9⟩ := e
        rw [pt_jnK hs hi h1.k.asc h2.k.asc, pt_jnO hs hi h1.ao h2.ao, w_eqR (okD_mono (by omega) (okD_kn _ _))]
        exact ⟨rfl, a8.trans a9⟩
      · have e7 : (List.range s).map (fun _ => D.bl true) = (List.replicate s true).map D.bl := by
          rw [List.map_const', List.map_replicate, List.length_range]
        rw [e7] at g7
        rw [w_allB (getL_of g7)]
        refine ⟨?_, ((((a1.trans a2).trans a3).trans a4).trans (a5.trans a6)).trans a7⟩
        rw [List.all_eq_true.mpr fun x hx => by rw [List.eq_of_mem_replicate hx]; rfl]
end
end K50
/-! K50i: drawn lines, drawn names. -/
namespace K50
open PySem L2 FL M51
section
variable {S S' : Sto} {Q : D → Sto → Prop}
theorem W_take {S : Sto} {tp tm : Nat} {k : Int} {Q : D → Sto → Prop} (hT : Tape S tp tm) (hk : 0 < k) (hk2 : k < 18446744073709551616) (h : ∀ (r : Int) (S' : Sto), 0 ≤ r → r < k → Kn tp S S' → Tape S' tp tm → S'.length = S.length → Q (.int r) S') : W (f__law_take [.ref tp, .int k] S) Q := by
  refine (take_ok hT hk hk2).mono ?_
  rintro d S' ⟨r, rfl, h1, h2, h3, h4, h5⟩
  exact h r S' h1 h2 h3 h4 h5
/-- a row that is drawn for a set -/
structure RW (s i m : Nat) (r : List Int) : Prop where
  nd : r.Nodup
  md : ∀ l ∈ r, l % (s : Int) = (i : Int)
  len : r.length ≤ m
  rg : ∀ l ∈ r, 0 ≤ l ∧ l < ((5 * s : Nat) : Int)
/-- all but the tape's place stays, and the store grows -/
structure Fr (tp : Nat) (S S' : Sto) : Prop where
  kn : Kn tp S S'
  len : S.length ≤ S'.length
theorem Fr.refl (tp : Nat) (S : Sto) : Fr tp S S := ⟨Kn.refl _ _, Nat.le_refl _⟩
theorem Fr.trans {tp : Nat} {S S1 S2 : Sto} (a : Fr tp S S1) (b : Fr tp S1 S2) : Fr tp S S2 := ⟨a.kn.trans b.kn, Nat.le_trans a.len b.len⟩
theorem Fr.ap {tp : Nat} {S S' : Sto} (a : Ap S S') : Fr tp S S' := ⟨a.kn tp, a.len⟩
theorem Fr.set {tp q : Nat} {S S' : Sto} {o : O} (a : Fr tp S S') (h : S.length ≤ q) : Fr tp S (S'.set q o) := ⟨a.kn.setO h, by rw [List.length_set]; exact a.len⟩
theorem lines_of_ok {u : Bool} {s w tp tm : Nat} (hs : 0 < s) (hs4 : s ≤ 4) (hw4 : w ≤ 4) (hT : Tape S tp tm) :
    W (f__law_lines_of [.ref tp, tD s w u] S) fun d S' => ∃ rs : List (List Int), d = .tup (rs.map rwD) ∧ Fr tp S S' ∧ Tape S' tp tm ∧ rs.length = s ∧ ∀ i r, rs[i]? = some r → RW s i w r := by
  refine w_fn rfl ?_
  show W (b__law_lines_of [some (.ref tp), some (tD s w u), none, none, none, none, none] S) _
  unfold b__law_lines_of
  simp only [w_seq, w_asg, w_ret, w_retN, w_drop, w_brk, w_cnt, w_nil, w_sif, w_c, w_ev, w_bin, w_un, w_anil, w_acons, w_tup, w_lst, w_call, w_tB, w_tNot, w_tAnd, w_tOr, w_eIf, w_isN, w_notN, w_gnm, w_gnils, w_gcns, w_gtp2, w_gtp3, w_gtp2p, w_ixT0, w_ixT1, w_ixT2, w_ch, w_chL, w_chK, w_par2, w_par3, w_add, w_sub, w_neg, w_lt, w_le, w_gt, w_ge, w_abs, w_int, w_intb, w_max2, w_min2, w_pno, w_ppart, w_sl, w_bm, w_yes, w_eqI, w_neI, w_eqB, w_neB, QS_nx, QS_rt, QS_bk, QS_ct, QF_nx, QF_rt, QL_nx, QL_ct, QL_bk, QL_rt, wipeE, List.set_cons_succ, List.set_cons_zero, List.getElem?_cons_succ, List.getElem?_cons_zero, D.bl.injEq, D.int.injEq, exists_eq_left', exists_eq_left, w_eAnd, w_tTru, tru_bl, if_true, if_false, Bool.false_eq_true, W_some]
  refine ⟨Nat.zero_le _, ?_⟩
  have t1 := hT.lt
  have t2 := hT.ltm
  have f0 : Fr tp S (S ++ [O.lst []]) := Fr.ap (Ap.app _ _)
  have g0 : (S ++ [O.lst []])[S.length]? = some (.lst (([] : List (List Int)).map rwD)) := new_at _ _
  rw [w_for]
  refine w_rng1 ?_
  simp only [w_seq, w_asg, w_ret, w_retN, w_drop, w_brk, w_cnt, w_nil, w_sif, w_c, w_ev, w_bin, w_un, w_anil, w_acons, w_tup, w_lst, w_call, w_tB, w_tNot, w_tAnd, w_tOr, w_eIf, w_isN, w_notN, w_gnm, w_gnils, w_gcns, w_gtp2, w_gtp3, w_gtp2p, w_ixT0, w_ixT1, w_ixT2, w_ch, w_chL, w_chK, w_par2, w_par3, w_add, w_sub, w_neg, w_lt, w_le, w_gt, w_ge, w_abs, w_int, w_intb, w_max2, w_min2, w_pno, w_ppart, w_sl, w_bm, w_yes, w_eqI, w_neI, w_eqB, w_neB, QS_nx, QS_rt, QS_bk, QS_ct, QF_nx, QF_rt, QL_nx, QL_ct, QL_bk, QL_rt, wipeE, List.set_cons_succ, List.set_cons_zero, List.getElem?_cons_succ, List.getElem?_cons_zero, D.bl.injEq, D.int.injEq, exists_eq_left', exists_eq_left, w_eAnd, w_tTru, tru_bl, if_true, if_false, Bool.false_eq_true]
  refine ⟨_, rfl, by omega, by omega, ?_⟩
  rw [show Int.toNat (s : Int) = s from rfl]
  refine for_rng (lo := 0) (n := s) (fun i env S' => ∃ x3 x4 x5 x6 rs, env = [some (.ref tp), some (tD s w u), some (.ref S.length), x3, x4, x5, x6] ∧ Tape S' tp tm ∧ Fr tp S S' ∧ S'[S.length]? = some (.lst (rs.map rwD)) ∧ rs.length = i ∧ (∀ i r, rs[i]? = some r → RW s i w r)) ?_ ?_ ⟨_, _, _, _, [], rfl, hT.ap (Ap.app _ _), f0, g0, rfl, fun i r e => by simp at e⟩
  · rintro i env S1 hi ⟨x3, x4, x5, x6, rs, rfl, T1, f1, g1, hl, hr⟩
    rw [w_gnm, Int.zero_add (i : Int)]
    simp only [List.set_cons_succ, List.set_cons_zero]
    simp only [w_seq, w_asg, w_ret, w_retN, w_drop, w_brk, w_cnt, w_nil, w_sif, w_c, w_ev, w_bin, w_un, w_anil, w_acons, w_tup, w_lst, w_call, w_tB, w_tNot, w_tAnd, w_tOr, w_eIf, w_isN, w_notN, w_gnm, w_gnils, w_gcns, w_gtp2, w_gtp3, w_gtp2p, w_ixT0, w_ixT1, w_ixT2, w_ch, w_chL, w_chK, w_par2, w_par3, w_add, w_sub, w_neg, w_lt, w_le, w_gt, w_ge, w_abs, w_int, w_intb, w_max2, w_min2, w_pno, w_ppart, w_sl, w_bm, w_yes, w_eqI, w_neI, w_eqB, w_neB, QS_nx, QS_rt, QS_bk, QS_ct, QF_nx, QF_rt, QL_nx, QL_ct, QL_bk, QL_rt, wipeE, List.set_cons_succ, List.set_cons_zero, List.getElem?_cons_succ, List.getElem?_cons_zero, D.bl.injEq, D.int.injEq, exists_eq_left', exists_eq_left, w_eAnd, w_tTru, tru_bl, if_true, if_false, Bool.false_eq_true, W_some]
    refine ⟨Nat.zero_le _, ?_⟩
    have lrw := lt_of_at g1
    rw [w_for]
    refine w_rng1 ?_
    simp only [w_seq, w_asg, w_ret, w_retN, w_drop, w_brk, w_cnt, w_nil, w_sif, w_c, w_ev, w_bin, w_un, w_anil, w_acons, w_tup, w_lst, w_call, w_tB, w_tNot, w_tAnd, w_tOr, w_eIf, w_isN, w_notN, w_gnm, w_gnils, w_gcns, w_gtp2, w_gtp3, w_gtp2p, w_ixT0, w_ixT1, w_ixT2, w_ch, w_chL, w_chK, w_par2, w_par3, w_add, w_sub, w_neg, w_lt, w_le, w_gt, w_ge, w_abs, w_int, w_intb, w_max2, w_min2, w_pno, w_ppart, w_sl, w_bm, w_yes, w_eqI, w_neI, w_eqB, w_neB, QS_nx, QS_rt, QS_bk, QS_ct, QF_nx, QF_rt, QL_nx, QL_ct, QL_bk, QL_rt, wipeE, List.set_cons_succ, List.set_cons_zero, List.getElem?_cons_succ, List.getElem?_cons_zero, D.bl.injEq, D.int.injEq, exists_eq_left', exists_eq_left, w_eAnd, w_tTru, tru_bl, if_true, if_false, Bool.false_eq_true]
    refine ⟨_, rfl, by omega, by omega, ?_⟩
    rw [show Int.toNat (w : Int) = w from rfl]
    have a0 : Ap S1 (S1 ++ [O.lst []]) := Ap.app _ _
    refine for_rng (lo := 0) (n := w) (fun k env S' => ∃ x5 x6 r, env = [some (.ref tp), some (tD s w u), some (.ref S.length), some (.int i), some (.ref S1.length), x5, x6] ∧ Tape S' tp tm ∧ Fr tp S S' ∧ S'[S.length]? = some (.lst (rs.map rwD)) ∧ S'[S1.length]? = some (.lst (r.map D.int)) ∧ RW s i k r) ?_ ?_ ⟨_, _, [], rfl, T1.ap a0, f1.trans (Fr.ap a0), a0 _ _ g1, new_at _ _, List.Pairwise.nil, fun l h => by simp at h, Nat.le_refl _, fun l h => by simp at h⟩
    · rintro k env S2 hk ⟨x5, x6, r, rfl, T2, f2, g2, h2, hR⟩
      rw [w_gnm, Int.zero_add (k : Int)]
      simp only [List.set_cons_succ, List.set_cons_zero]
      simp only [w_seq, w_asg, w_ret, w_retN, w_drop, w_brk, w_cnt, w_nil, w_sif, w_c, w_ev, w_bin, w_un, w_anil, w_acons, w_tup, w_lst, w_call, w_tB, w_tNot, w_tAnd, w_tOr, w_eIf, w_isN, w_notN, w_gnm, w_gnils, w_gcns, w_gtp2, w_gtp3, w_gtp2p, w_ixT0, w_ixT1, w_ixT2, w_ch, w_chL, w_chK, w_par2, w_par3, w_add, w_sub, w_neg, w_lt, w_le, w_gt, w_ge, w_abs, w_int, w_intb, w_max2, w_min2, w_pno, w_ppart, w_sl, w_bm, w_yes, w_eqI, w_neI, w_eqB, w_neB, QS_nx, QS_rt, QS_bk, QS_ct, QF_nx, QF_rt, QL_nx, QL_ct, QL_bk, QL_rt, wipeE, List.set_cons_succ, List.set_cons_zero, List.getElem?_cons_succ, List.getElem?_cons_zero, D.bl.injEq, D.int.injEq, exists_eq_left', exists_eq_left, w_eAnd, w_tTru, tru_bl, if_true, if_false, Bool.false_eq_true]
      have fl := f1.len
      refine W_take T2 (by decide) (by decide) fun z S3 p0 p1 k3 T3 l3 => ?_
      rw [w_mul (okMul_l (by omega) (by omega))]
      simp only [w_seq, w_asg, w_ret, w_retN, w_drop, w_brk, w_cnt, w_nil, w_sif, w_c, w_ev, w_bin, w_un, w_anil, w_acons, w_tup, w_lst, w_call, w_tB, w_tNot, w_tAnd, w_tOr, w_eIf, w_isN, w_notN, w_gnm, w_gnils, w_gcns, w_gtp2, w_gtp3, w_gtp2p, w_ixT0, w_ixT1, w_ixT2, w_ch, w_chL, w_chK, w_par2, w_par3, w_add, w_sub, w_neg, w_lt, w_le, w_gt, w_ge, w_abs, w_int, w_intb, w_max2, w_min2, w_pno, w_ppart, w_sl, w_bm, w_yes, w_eqI, w_neI, w_eqB, w_neB, QS_nx, QS_rt, QS_bk, QS_ct, QF_nx, QF_rt, QL_nx, QL_ct, QL_bk, QL_rt, wipeE, List.set_cons_succ, List.set_cons_zero, List.getElem?_cons_succ, List.getElem?_cons_zero, D.bl.injEq, D.int.injEq, exists_eq_left', exists_eq_left, w_eAnd, w_tTru, tru_bl, if_true, if_false, Bool.false_eq_true]
      have g3 := k3 _ _ (by omega) g2
      have h3 := k3 _ _ (by omega) h2
      have f3 : Fr tp S S3 := f2.trans ⟨k3, Nat.le_of_eq l3.symm⟩
      rw [w_ninL (getL_of h3)]
      have md : ((i : Int) + (s : Int) * z) % (s : Int) = (i : Int) := by
        rw [Int.add_mul_emod_self_left]
        exact Int.emod_eq_of_lt (by omega) (by omega)
      have rg : 0 ≤ (i : Int) + (s : Int) * z ∧ (i : Int) + (s : Int) * z < ((5 * s : Nat) : Int) := by
        have e1 : 0 ≤ (s : Int) * z := Int.mul_nonneg (by omega) p0
        have e2 : (s : Int) * z ≤ (s : Int) * 4 := Int.mul_le_mul_of_nonneg_left (by omega) (by omega)
        omega
      have stay : ∀ x6 S4, Tape S4 tp tm → Fr tp S S4 → S4[S.length]? = some (.lst (rs.map rwD)) → S4[S1.length]? = some (.lst (r.map D.int)) → ∃ x5 x6' r, [some (.ref tp), some (tD s w u), some (.ref S.length), some (.int i), some (.ref S1.length), some (.int k), x6] = [some (.ref tp), some (tD s w u), some (.ref S.length), some (.int i), some (.ref S1.length), x5, x6'] ∧ Tape S4 tp tm ∧ Fr tp S S4 ∧ S4[S.length]? = some (.lst (rs.map rwD)) ∧ S4[S1.length]? = some (.lst (r.map D.int)) ∧ RW s i (k + 1) r := fun x6 S4 t f a b => ⟨_, _, r, rfl, t, f, a, b, hR.nd, hR.md, by have := hR.len; omega, hR.rg⟩
      by_cases hm : ((i : Int) + (s : Int) * z) ∈ r
      · rw [decide_eq_true hm]
        simp only [Bool.not_true, Bool.false_eq_true, if_false, exists_eq_left', D.bl.injEq]
        exact stay _ _ T3 f3 g3 h3
      · rw [decide_eq_false hm]
        simp only [Bool.not_false, if_true, exists_eq_left', D.bl.injEq]
        refine W_take T3 (by decide) (by decide) fun z4 S4 q0 q1 k4 T4 l4 => ?_
        have g4 := k4 _ _ (by omega) g3
        have h4 := k4 _ _ (by omega) h3
        have f4 : Fr tp S S4 := f3.trans ⟨k4, Nat.le_of_eq l4.symm⟩
        simp only [w_seq, w_asg, w_ret, w_retN, w_drop, w_brk, w_cnt, w_nil, w_sif, w_c, w_ev, w_bin, w_un, w_anil, w_acons, w_tup, w_lst, w_call, w_tB, w_tNot, w_tAnd, w_tOr, w_eIf, w_isN, w_notN, w_gnm, w_gnils, w_gcns, w_gtp2, w_gtp3, w_gtp2p, w_ixT0, w_ixT1, w_ixT2, w_ch, w_chL, w_chK, w_par2, w_par3, w_add, w_sub, w_neg, w_lt, w_le, w_gt, w_ge, w_abs, w_int, w_intb, w_max2, w_min2, w_pno, w_ppart, w_sl, w_bm, w_yes, w_eqI, w_neI, w_eqB, w_neB, QS_nx, QS_rt, QS_bk, QS_ct, QF_nx, QF_rt, QL_nx, QL_ct, QL_bk, QL_rt, wipeE, List.set_cons_succ, List.set_cons_zero, List.getElem?_cons_succ, List.getElem?_cons_zero, D.bl.injEq, D.int.injEq, exists_eq_left', exists_eq_left, w_eAnd, w_tTru, tru_bl, if_true, if_false, Bool.false_eq_true]
        by_cases hz : 0 < z4
        · rw [decide_eq_true hz, if_pos rfl]
          refine ⟨tyL h4, ?_⟩
          rw [w_app h4 (by rw [List.length_map]; have := hR.len; unfold cap; omega)]
          refine ⟨_, _, r ++ [(i : Int) + (s : Int) * z], rfl, T4.set (by omega) (by omega), f4.set (by omega), by rw [List.getElem?_set_ne (by omega)]; exact g4, by rw [set_at h4, List.map_append]; rfl, ?_, fun l hl => ?_, ?_, fun l hl => ?_⟩
          · rw [List.nodup_append]
            refine ⟨hR.nd, by simp, fun a ha b hb e => ?_⟩
            rw [List.mem_singleton.mp hb] at e
            rw [e] at ha
            exact hm ha
          · rcases List.mem_append.mp hl with h | h
            · exact hR.md l h
            · rw [List.mem_singleton.mp h]
              exact md
          · rw [List.length_append]
            have := hR.len
            simp only [List.length_cons, List.length_nil]
            omega
          · rcases List.mem_append.mp hl with h | h
            · exact hR.rg l h
            · rw [List.mem_singleton.mp h]
              exact rg
        · rw [decide_eq_false hz, if_neg Bool.false_ne_true]
          exact stay _ _ T4 f4 g4 h4
    · rintro env S2 ⟨x5, x6, r, rfl, T2, f2, g2, h2, hR⟩
      simp only [w_seq, w_asg, w_ret, w_retN, w_drop, w_brk, w_cnt, w_nil, w_sif, w_c, w_ev, w_bin, w_un, w_anil, w_acons, w_tup, w_lst, w_call, w_tB, w_tNot, w_tAnd, w_tOr, w_eIf, w_isN, w_notN, w_gnm, w_gnils, w_gcns, w_gtp2, w_gtp3, w_gtp2p, w_ixT0, w_ixT1, w_ixT2, w_ch, w_chL, w_chK, w_par2, w_par3, w_add, w_sub, w_neg, w_lt, w_le, w_gt, w_ge, w_abs, w_int, w_intb, w_max2, w_min2, w_pno, w_ppart, w_sl, w_bm, w_yes, w_eqI, w_neI, w_eqB, w_neB, QS_nx, QS_rt, QS_bk, QS_ct, QF_nx, QF_rt, QL_nx, QL_ct, QL_bk, QL_rt, wipeE, List.set_cons_succ, List.set_cons_zero, List.getElem?_cons_succ, List.getElem?_cons_zero, D.bl.injEq, D.int.injEq, exists_eq_left', exists_eq_left, w_eAnd, w_tTru, tru_bl, if_true, if_false, Bool.false_eq_true]
      refine ⟨tyL g2, ?_⟩
      rw [w_tupR (getL_of h2)]
      rw [w_app g2 (by rw [List.length_map]; unfold cap; omega)]
      refine ⟨_, _, _, _, rs ++ [r], rfl, T2.set (by omega) (by omega), f2.set (Nat.le_refl _), by rw [set_at g2, List.map_append]; rfl, by rw [List.length_append, hl]; rfl, fun j x hx => ?_⟩
      by_cases hj : j < rs.length
      · rw [List.getElem?_append_left hj] at hx
        exact hr j x hx
      · rw [List.getElem?_append_right (by omega)] at hx
        have e : j = rs.length := by
          have := (List.getElem?_eq_some_iff.mp hx).1
          simp at this
          omega
        subst e
        rw [Nat.sub_self] at hx
        cases hx
        rw [hl]
        exact hR
  · rintro env S1 ⟨x3, x4, x5, x6, rs, rfl, T1, f1, g1, hl, hr⟩
    simp only [w_seq, w_asg, w_ret, w_retN, w_drop, w_brk, w_cnt, w_nil, w_sif, w_c, w_ev, w_bin, w_un, w_anil, w_acons, w_tup, w_lst, w_call, w_tB, w_tNot, w_tAnd, w_tOr, w_eIf, w_isN, w_notN, w_gnm, w_gnils, w_gcns, w_gtp2, w_gtp3, w_gtp2p, w_ixT0, w_ixT1, w_ixT2, w_ch, w_chL, w_chK, w_par2, w_par3, w_add, w_sub, w_neg, w_lt, w_le, w_gt, w_ge, w_abs, w_int, w_intb, w_max2, w_min2, w_pno, w_ppart, w_sl, w_bm, w_yes, w_eqI, w_neI, w_eqB, w_neB, QS_nx, QS_rt, QS_bk, QS_ct, QF_nx, QF_rt, QL_nx, QL_ct, QL_bk, QL_rt, wipeE, List.set_cons_succ, List.set_cons_zero, List.getElem?_cons_succ, List.getElem?_cons_zero, D.bl.injEq, D.int.injEq, exists_eq_left', exists_eq_left, w_eAnd, w_tTru, tru_bl, if_true, if_false, Bool.false_eq_true]
    rw [w_tupR (getL_of g1)]
    exact ⟨rs, rfl, f1, T1, hl, hr⟩
/-! ### names -/
/-- the name of a line, by what was drawn -/
def nmF (s : Nat) (ds : List Int) (x : Int) : Int := (s : Int) * (5 * (x / s) + (if 0 ≤ x then ds.getD x.toNat 0 else 0)) + x % s
def nmL (s : Nat) (ds : List Int) : List P := ds.mapIdx fun i d => ((i : Int), (s : Int) * (5 * ((i : Int) / s) + d) + (i : Int) % s)
structure Drw (ds : List Int) : Prop where
  ok : ∀ d ∈ ds, 0 ≤ d ∧ d < 5
theorem Drw.at {ds : List Int} (h : Drw ds) (x : Int) : 0 ≤ (if 0 ≤ x then ds.getD x.toNat 0 else 0) ∧ (if 0 ≤ x then ds.getD x.toNat 0 else 0) < 5 := by
  split
  · rw [List.getD_eq_getElem?_getD]
    cases e : ds[x.toNat]? with
    | none => exact ⟨Int.le_refl _, by decide⟩
    | some d => exact h.ok d (List.mem_of_getElem? e)
  · exact ⟨Int.le_refl _, by decide⟩
theorem nmF_md {s : Nat} (hs : 0 < s) {ds : List Int} (x : Int) : nmF s ds x % (s : Int) = x % (s : Int) := by
  unfold nmF
  rw [Int.add_comm, Int.add_mul_emod_self_left]
  exact Int.emod_emod_of_dvd _ (Int.dvd_refl _)
theorem nmF_div {s : Nat} (hs : 0 < s) {ds : List Int} (x : Int) : nmF s ds x / (s : Int) = 5 * (x / s) + (if 0 ≤ x then ds.getD x.toNat 0 else 0) := by
  unfold nmF
  rw [Int.add_comm, Int.add_mul_ediv_left _ _ (by omega), Int.ediv_eq_zero_of_lt (Int.emod_nonneg _ (by omega)) (Int.emod_lt_of_pos _ (by omega))]
  omega
theorem nmF_nam {s : Nat} (hs : 0 < s) {ds : List Int} (h : Drw ds) : Nam (nmF s ds) s := by
  refine ⟨fun x y e => ?_, fun x => nmF_md hs x⟩
  have m1 := nmF_md hs (ds := ds) x
  have m2 := nmF_md hs (ds := ds) y
  have d1 := nmF_div hs (ds := ds) x
  have d2 := nmF_div hs (ds := ds) y
  have b1 := h.at x
  have b2 := h.at y
  rw [e] at m1 d1
  have e1 : x % (s : Int) = y % (s : Int) := m1.symm.trans m2
  have e2 : x / (s : Int) = y / (s : Int) := by omega
  have z1 := Int.emod_add_mul_ediv x s
  have z2 := Int.emod_add_mul_ediv y s
  rw [e1, e2] at z1
  omega
theorem nmF_rg {s : Nat} (hs : 0 < s) {ds : List Int} (h : Drw ds) (x : Int) (h0 : 0 ≤ x) (h1 : x < ((5 * s : Nat) : Int)) : 0 ≤ nmF s ds x ∧ nmF s ds x < ((25 * s : Nat) : Int) := by
  have b := h.at x
  have q0 : 0 ≤ x / (s : Int) := Int.ediv_nonneg h0 (by omega)
  have q1 : x / (s : Int) < 5 := by
    refine Int.ediv_lt_of_lt_mul (by omega) ?_
    have : ((5 * s : Nat) : Int) = 5 * (s : Int) := by omega
    omega
  have r0 := Int.emod_nonneg x (show (s : Int) ≠ 0 by omega)
  have r1 := Int.emod_lt_of_pos x (show (0 : Int) < s by omega)
  unfold nmF
  generalize (if 0 ≤ x then ds.getD x.toNat 0 else 0) = d at b
  have p0 : 0 ≤ (s : Int) * (5 * (x / s) + d) := Int.mul_nonneg (by omega) (by omega)
  have p1 : (s : Int) * (5 * (x / s) + d) ≤ (s : Int) * 24 := Int.mul_le_mul_of_nonneg_left (by omega) (by omega)
  omega
theorem nmL_keys (s : Nat) (ds : List Int) : (nmL s ds).map (·.1) = (List.range ds.length).map fun i : Nat => (i : Int) := by
  unfold nmL
  apply List.ext_getElem?
  intro i
  rw [List.getElem?_map, List.getElem?_mapIdx, List.getElem?_map]
  by_cases hi : i < ds.length
  · rw [List.getElem?_eq_getElem hi, List.getElem?_range hi]
    rfl
  · rw [List.getElem?_eq_none (by omega), List.getElem?_eq_none (by simpa using hi)]
    rfl
theorem nmL_nd (s : Nat) (ds : List Int) : ((nmL s ds).map (·.1)).Nodup := by
  rw [nmL_keys, List.Nodup, List.pairwise_map]
  exact (List.nodup_range).imp fun h e => h (by omega)
theorem nmL_lk {s : Nat} {ds : List Int} {x : Int} (h0 : 0 ≤ x) (h1 : x < ds.length) : lkP (nmL s ds) x = some (nmF s ds x) := by
  refine (lk_mem (nmL_nd s ds)).mpr ?_
  obtain ⟨i, rfl⟩ : ∃ i : Nat, x = i := ⟨x.toNat, by omega⟩
  have hi : i < ds.length := by omega
  refine List.mem_iff_getElem?.mpr ⟨i, ?_⟩
  unfold nmL nmF
  rw [List.getElem?_mapIdx, List.getElem?_eq_getElem hi, if_pos h0, List.getD_eq_getElem?_getD, Int.toNat_natCast, List.getElem?_eq_getElem hi]
  rfl
theorem nmL_app (s : Nat) (ds : List Int) (d : Int) : nmL s (ds ++ [d]) = nmL s ds ++ [((ds.length : Int), (s : Int) * (5 * ((ds.length : Int) / s) + d) + (ds.length : Int) % s)] := by
  unfold nmL
  rw [List.mapIdx_concat]
theorem names_ok {s tp tm nd : Nat} {x1 x2 x4 x5 x7 : Option D} {rest : List (Option D)} {QO : Out → Sto → Prop} (hs : 0 < s) (hs4 : s ≤ 4) (hT : Tape S tp tm) (o1 : tp ≠ nd) (o2 : tm ≠ nd) (g : S[nd]? = some (.dic []))
    (hN : ∀ x7 ds S', Drw ds → ds.length = 5 * s → Tape S' tp tm → Fr tp (S.set nd (.dic ((nmL s ds).map kvI))) S' → S'[nd]? = some (.dic ((nmL s ds).map kvI)) → QO (.nx (some (.ref 0) :: some (.ref tp) :: x2 :: some (.int s) :: x4 :: x5 :: some (.ref nd) :: x7 :: rest)) S') :
    W ((sFor (FL.iRng1 (aCons (eBin oMul (eC (.int 5)) (eVar 3)) (aNil))) (gNm 7) (sAsg (eBin oAdd (eBin oMul (eVar 3) (eBin oAdd (eBin oMul (eC (.int 5)) (eBin oDiv (eCall fInt (aCons (eVar 7) (aNil))) (eVar 3))) (eCall f__law_take (aCons (eVar 1) (aCons (eC (.int 5)) (aNil)))))) (eBin oMod (eCall fInt (aCons (eVar 7) (aNil))) (eVar 3))) (gIx (eVar 6) (eVar 7))))
      (some (.ref 0) :: some (.ref tp) :: x2 :: some (.int s) :: x4 :: x5 :: some (.ref nd) :: x7 :: rest) S) QO := by
  rw [w_for]
  refine w_rng1 ?_
  simp only [w_seq, w_asg, w_ret, w_retN, w_drop, w_brk, w_cnt, w_nil, w_sif, w_c, w_ev, w_bin, w_un, w_anil, w_acons, w_tup, w_lst, w_call, w_tB, w_tNot, w_tAnd, w_tOr, w_eIf, w_isN, w_notN, w_gnm, w_gnils, w_gcns, w_gtp2, w_gtp3, w_gtp2p, w_ixT0, w_ixT1, w_ixT2, w_ch, w_chL, w_chK, w_par2, w_par3, w_add, w_sub, w_neg, w_lt, w_le, w_gt, w_ge, w_abs, w_int, w_intb, w_max2, w_min2, w_pno, w_ppart, w_sl, w_bm, w_yes, w_eqI, w_neI, w_eqB, w_neB, QS_nx, QS_rt, QS_bk, QS_ct, QF_nx, QF_rt, QL_nx, QL_ct, QL_bk, QL_rt, wipeE, List.set_cons_succ, List.set_cons_zero, List.getElem?_cons_succ, List.getElem?_cons_zero, D.bl.injEq, D.int.injEq, exists_eq_left', exists_eq_left, w_eAnd, w_tTru, tru_bl, if_true, if_false, Bool.false_eq_true]
  rw [w_mul (okMul_l (by decide) (by decide))]
  refine ⟨_, rfl, by omega, by omega, ?_⟩
  rw [show Int.toNat (5 * (s : Int)) = 5 * s by omega]
  refine for_rng (lo := 0) (n := 5 * s) (fun i env S' => ∃ x7 ds, env = (some (.ref 0) :: some (.ref tp) :: x2 :: some (.int s) :: x4 :: x5 :: some (.ref nd) :: x7 :: rest) ∧ Drw ds ∧ ds.length = i ∧ Tape S' tp tm ∧ Fr tp (S.set nd (.dic ((nmL s ds).map kvI))) S' ∧ S'[nd]? = some (.dic ((nmL s ds).map kvI))) ?_ ?_ ⟨_, [], rfl, ⟨fun d h => by simp at h⟩, rfl, hT, ?_, g⟩
  · rintro i env S1 hi ⟨x7, ds, rfl, hD, hl, T1, f1, g1⟩
    rw [w_gnm, Int.zero_add (i : Int)]
    simp only [List.set_cons_succ, List.set_cons_zero]
    simp only [w_seq, w_asg, w_ret, w_retN, w_drop, w_brk, w_cnt, w_nil, w_sif, w_c, w_ev, w_bin, w_un, w_anil, w_acons, w_tup, w_lst, w_call, w_tB, w_tNot, w_tAnd, w_tOr, w_eIf, w_isN, w_notN, w_gnm, w_gnils, w_gcns, w_gtp2, w_gtp3, w_gtp2p, w_ixT0, w_ixT1, w_ixT2, w_ch, w_chL, w_chK, w_par2, w_par3, w_add, w_sub, w_neg, w_lt, w_le, w_gt, w_ge, w_abs, w_int, w_intb, w_max2, w_min2, w_pno, w_ppart, w_sl, w_bm, w_yes, w_eqI, w_neI, w_eqB, w_neB, QS_nx, QS_rt, QS_bk, QS_ct, QF_nx, QF_rt, QL_nx, QL_ct, QL_bk, QL_rt, wipeE, List.set_cons_succ, List.set_cons_zero, List.getElem?_cons_succ, List.getElem?_cons_zero, D.bl.injEq, D.int.injEq, exists_eq_left', exists_eq_left, w_eAnd, w_tTru, tru_bl, if_true, if_false, Bool.false_eq_true]
    rw [w_div (by omega) (by omega), w_mul (okMul_l (by decide) (by decide))]
    refine W_take T1 (by decide) (by decide) fun z S2 p0 p1 k2 T2 l2 => ?_
    simp only [w_seq, w_asg, w_ret, w_retN, w_drop, w_brk, w_cnt, w_nil, w_sif, w_c, w_ev, w_bin, w_un, w_anil, w_acons, w_tup, w_lst, w_call, w_tB, w_tNot, w_tAnd, w_tOr, w_eIf, w_isN, w_notN, w_gnm, w_gnils, w_gcns, w_gtp2, w_gtp3, w_gtp2p, w_ixT0, w_ixT1, w_ixT2, w_ch, w_chL, w_chK, w_par2, w_par3, w_add, w_sub, w_neg, w_lt, w_le, w_gt, w_ge, w_abs, w_int, w_intb, w_max2, w_min2, w_pno, w_ppart, w_sl, w_bm, w_yes, w_eqI, w_neI, w_eqB, w_neB, QS_nx, QS_rt, QS_bk, QS_ct, QF_nx, QF_rt, QL_nx, QL_ct, QL_bk, QL_rt, wipeE, List.set_cons_succ, List.set_cons_zero, List.getElem?_cons_succ, List.getElem?_cons_zero, D.bl.injEq, D.int.injEq, exists_eq_left', exists_eq_left, w_eAnd, w_tTru, tru_bl, if_true, if_false, Bool.false_eq_true]
    rw [w_mul (okMul_l (by omega) (by omega)), w_mod (by omega)]
    simp only [w_seq, w_asg, w_ret, w_retN, w_drop, w_brk, w_cnt, w_nil, w_sif, w_c, w_ev, w_bin, w_un, w_anil, w_acons, w_tup, w_lst, w_call, w_tB, w_tNot, w_tAnd, w_tOr, w_eIf, w_isN, w_notN, w_gnm, w_gnils, w_gcns, w_gtp2, w_gtp3, w_gtp2p, w_ixT0, w_ixT1, w_ixT2, w_ch, w_chL, w_chK, w_par2, w_par3, w_add, w_sub, w_neg, w_lt, w_le, w_gt, w_ge, w_abs, w_int, w_intb, w_max2, w_min2, w_pno, w_ppart, w_sl, w_bm, w_yes, w_eqI, w_neI, w_eqB, w_neB, QS_nx, QS_rt, QS_bk, QS_ct, QF_nx, QF_rt, QL_nx, QL_ct, QL_bk, QL_rt, wipeE, List.set_cons_succ, List.set_cons_zero, List.getElem?_cons_succ, List.getElem?_cons_zero, D.bl.injEq, D.int.injEq, exists_eq_left', exists_eq_left, w_eAnd, w_tTru, tru_bl, if_true, if_false, Bool.false_eq_true]
    have g2 := k2 _ _ (Ne.symm o1) g1
    have hl2 : (nmL s ds).length = ds.length := by unfold nmL; rw [List.length_mapIdx]
    rw [w_setI rfl rfl g2 (by rw [hl2]; unfold cap; omega) (by
      rw [nmL_keys]
      intro z
      obtain ⟨j, hj, e⟩ := List.mem_map.mp z
      have := List.mem_range.mp hj
      omega)]
    have ed : (nmL s ds ++ [((i : Int), (s : Int) * (5 * ((i : Int) / (s : Int)) + z) + (i : Int) % (s : Int))]) = nmL s (ds ++ [z]) := by rw [nmL_app, hl]
    rw [ed]
    refine ⟨_, ds ++ [z], rfl, ⟨fun d hd => ?_⟩, by rw [List.length_append, hl]; rfl, T2.set (Ne.symm o1) (Ne.symm o2), ⟨fun q o hne e => ?_, ?_⟩, set_at g2⟩
    · rcases List.mem_append.mp hd with h | h
      · exact hD.ok d h
      · rw [List.mem_singleton.mp h]
        exact ⟨p0, p1⟩
    · by_cases hq : q = nd
      · subst hq
        rw [set_at g] at e
        rw [set_at g2]
        exact e
      · rw [List.getElem?_set_ne (Ne.symm hq)] at e ⊢
        exact k2 _ _ hne (f1.kn _ _ hne (by rw [List.getElem?_set_ne (Ne.symm hq)]; exact e))
    · rw [List.length_set, List.length_set]
      have := f1.len
      rw [List.length_set] at this
      omega
  · rintro env S1 ⟨x7, ds, rfl, hD, hl, T1, f1, g1⟩
    exact hN x7 ds S1 hD hl T1 f1 g1
  · have e : S.set nd (.dic ((nmL s []).map kvI)) = S := set_same g
    rw [e]
    exact Fr.refl _ _
end
end K50
/-! K50j: one step of all three, by values. -/
namespace K50
open PySem L2 FL M51
section
variable {S S' : Sto} {Q : D → Sto → Prop}
variable {N s w : Nat} {u h b : Bool} {l : Int} {k : List P} {m : Option (List P)} {rows : List (List Int)} {A : Nat → List Int}
theorem opt_map {α β γ δ : Type} {f : α → β} {g : β → δ} {f' : γ → δ} {g' : α → γ} {m : Option α} (e : ∀ x, m = some x → g (f x) = f' (g' x)) : (m.map f).map g = (m.map g').map f' := by
  cases m with
  | none => rfl
  | some x => exact congrArg some (e x rfl)
theorem nm_stK {f : Int → Int} (hf : Nam f s) (hk : Asc k) : stK u s w (f l) h b (nmK f k) = nmK f (stK u s w l h b k) := by
  unfold stK
  split
  · exact nm_tcK hf hk
  · split
    · exact nm_uK hf hk
    · rfl
theorem nm_stM {f : Int → Int} (hf : Nam f s) (hm : AscO m) : stM u s w (f l) h b (m.map (nmK f)) = (stM u s w l h b m).map (nmK f) := by
  unfold stM
  split
  · unfold tcM
    split
    · exact opt_map fun x e => nm_aK hf (hm x e)
    · rfl
  · split
    · cases m with
      | none => rfl
      | some x =>
        have a := hm x rfl
        show some (aK u s w (f l) (msK (f l) (nmK f x))) = some (nmK f (aK u s w l (msK l x)))
        rw [nm_msK hf a, nm_aK hf (msK_asc a)]
    · exact opt_map fun x e => nm_msK hf (hm x e)
theorem sur1 {w : Nat} {u : Bool} : sur w u = sur w u := rfl
theorem pt_stK (hs : 0 < s) (hk : Asc k) : stK u 1 w (l / s) h b (ptK s (ix s l : Nat) k) = ptK s (ix s l : Nat) (stK u s w l h b k) := by
  unfold stK
  split
  · exact (pt_tcK hs hk).symm
  · split
    · exact (pt_uK hs hk).symm
    · rfl
theorem pt_stM (hs : 0 < s) (hm : AscO m) : stM u 1 w (l / s) h b (m.map (ptK s (ix s l : Nat))) = (stM u s w l h b m).map (ptK s (ix s l : Nat)) := by
  unfold stM
  split
  · unfold tcM
    split
    · exact opt_map fun x e => (pt_aK hs (hm x e)).symm
    · rfl
  · split
    · cases m with
      | none => rfl
      | some x =>
        have a := hm x rfl
        show some (aK u 1 w (l / s) (msK (l / s) (ptK s (ix s l : Nat) x))) = some (ptK s (ix s l : Nat) (aK u s w l (msK l x)))
        rw [← pt_msK hs a, ← pt_aK hs (msK_asc a)]
    · exact opt_map fun x e => (pt_msK hs (hm x e)).symm
theorem KC.st (hK : KC N w u k m) (hw : 0 < w) (hl : 0 ≤ l ∧ l < (N : Int)) : KC N w u (stK u s w l h b k) (stM u s w l h b m) := by
  unfold stK stM
  split
  · refine ⟨hK.k.tcK hw hl, fun m' e => ?_⟩
    unfold tcM at e
    split at e
    · obtain ⟨m0, rfl, rfl⟩ := Option.map_eq_some_iff.mp e
      exact (hK.m m0 rfl).aK hw hl
    · exact hK.m m' e
  · split
    · refine ⟨hK.k.uK (sur_pos hw) hl, fun m' e => ?_⟩
      obtain ⟨m1, e1, rfl⟩ := Option.map_eq_some_iff.mp e
      obtain ⟨m0, rfl, rfl⟩ := Option.map_eq_some_iff.mp e1
      exact ((hK.m m0 rfl).msK).aK hw hl
    · refine ⟨hK.k, fun m' e => ?_⟩
      obtain ⟨m0, rfl, rfl⟩ := Option.map_eq_some_iff.mp e
      exact (hK.m m0 rfl).msK
theorem pt_stK_off (hs : 0 < s) {i : Nat} (hi : i < s) (hne : i ≠ ix s l) (hK : KC N w u k m) : ptK s i (stK u s w l h b k) = ptK s i k := by
  unfold stK
  split
  · exact pt_tcK_off hs hi hne hK.k
  · split
    · exact pt_uK_off hs hi hne hK.k
    · rfl
theorem pt_stM_off (hs : 0 < s) {i : Nat} (hi : i < s) (hne : i ≠ ix s l) (hK : KC N w u k m) : (stM u s w l h b m).map (ptK s i) = m.map (ptK s i) := by
  cases m with
  | none => unfold stM tcM; split <;> (try split) <;> rfl
  | some x =>
    have c := hK.m x rfl
    unfold stM tcM
    split
    · split
      · exact congrArg some (pt_aK_off hs hi hne c)
      · rfl
    · split
      · show some (ptK s i (aK u s w l (msK l x))) = some (ptK s i x)
        rw [pt_aK_off hs hi hne c.msK, pt_msK_off hs hi hne c.asc]
      · exact congrArg some (pt_msK_off hs hi hne c.asc)
theorem SND.st (hs : 0 < s) (hw : 0 < w) (g : Good s rows) (SS : SND u s w rows k m) (hK : KC N w u k m) (hb : b = decide (l ∈ row s rows l)) : SND u s w (stR u s w l h rows) (stK u s w l h b k) (stM u s w l h b m) := by
  unfold stR stK stM
  by_cases hm : l ∈ row s rows l
  · rw [hb, decide_eq_true hm, if_pos hm, if_pos rfl, if_pos rfl]
    cases u with
    | true =>
      rw [hasR_hit hm]
      unfold tcK tcM
      rw [if_pos rfl, if_pos rfl]
      exact snd_hit_lru hs g hm SS hK.k.asc hK.ao
    | false =>
      have e : hasR false s l rows = rows := by unfold hasR; rw [if_pos hm, if_neg Bool.false_ne_true]
      rw [e]
      unfold tcM
      rw [if_neg Bool.false_ne_true]
      exact snd_hit_fifo hm SS hK.k.asc
  · have e : hasR u s l rows = rows := if_neg hm
    rw [hb, decide_eq_false hm, if_neg hm, if_neg Bool.false_ne_true, if_neg Bool.false_ne_true, e]
    have s1 := snd_miss hm SS hK.ao
    split
    · refine snd_fill hs hw g hm s1 hK.k fun m' e => ?_
      obtain ⟨m0, rfl, rfl⟩ := Option.map_eq_some_iff.mp e
      exact msK_asc (hK.ao m0 rfl)
    · exact s1
theorem Good.st (hs : 0 < s) (g : Good s rows) : Good s (stR u s w l h rows) := by
  unfold stR
  split
  · exact Good.has hs g
  · split
    · exact Good.fil hs (Good.has hs g)
    · exact Good.has hs g
theorem stR_rn {f : Int → Int} (hf : Nam f s) : stR u s w (f l) h (rn f rows) = rn f (stR u s w l h rows) := by
  unfold stR
  by_cases hm : l ∈ row s rows l
  · rw [if_pos ((mem_rn hf).mpr hm), if_pos hm, hasR_rn hf]
  · rw [if_neg (fun z => hm ((mem_rn hf).mp z)), if_neg hm, hasR_rn hf]
    split
    · exact filR_rn hf
    · rfl
def stA (u : Bool) (w : Nat) (l : Int) (h : Bool) (a : List Int) : List Int := (stR u 1 w l h [a]).getD 0 []
theorem stR_one (l : Int) (a : List Int) : stR u 1 w l h [a] = [stA u w l h a] := by
  unfold stA stR
  split
  · exact hasR_one l a
  · split
    · rw [hasR_one l a]
      exact filR_one l _
    · exact hasR_one l a
theorem upA_up (i : Nat) (r q : List Int) : upA (upA A i r) i q = upA A i q := funext fun j => by
  unfold upA
  split <;> rfl
theorem Side.st (h' : Side s rows A) (hs : 0 < s) : Side s (stR u s w l h rows) (upA A (ix s l) (stA u w (l / s) h (A (ix s l)))) := by
  have hh := h'.has (u := u) (l := l) hs
  have eu : upA A (ix s l) ((hasR u 1 (l / s) [A (ix s l)]).getD 0 []) (ix s l) = (hasR u 1 (l / s) [A (ix s l)]).getD 0 [] := if_pos rfl
  unfold stA stR
  rw [row_one]
  by_cases hm : l ∈ M51.row s rows l
  · rw [if_pos hm, if_pos ((h'.mem hs).mp hm)]
    exact hh
  · rw [if_neg hm, if_neg (fun z => hm ((h'.mem hs).mpr z))]
    split
    · have := hh.fil (w := w) (l := l) hs
      rw [eu, upA_up, ← hasR_one] at this
      exact this
    · exact hh
def Rg (s : Nat) (rows : List (List Int)) : Prop := ∀ r ∈ rows, ∀ x ∈ r, 0 ≤ x ∧ x < ((5 * s : Nat) : Int)
theorem mem_set {r : List Int} {i : Nat} {y : List Int} (h : r ∈ rows.set i y) : r ∈ rows ∨ r = y := by
  obtain ⟨j, hj⟩ := List.mem_iff_getElem?.mp h
  rw [List.getElem?_set] at hj
  split at hj
  · split at hj
    · cases hj
      exact .inr rfl
    · cases hj
  · exact .inl (List.mem_of_getElem? hj)
theorem Rg.row (hR : Rg s rows) {x : Int} (hx : x ∈ M51.row s rows l) : 0 ≤ x ∧ x < ((5 * s : Nat) : Int) := by
  unfold M51.row at hx
  rw [List.getD_eq_getElem?_getD] at hx
  cases e : rows[ix s l]? with
  | none => rw [e] at hx; simp at hx
  | some r =>
    rw [e] at hx
    exact hR r (List.mem_of_getElem? e) x hx
theorem Rg.has (hR : Rg s rows) (hl : 0 ≤ l ∧ l < ((5 * s : Nat) : Int)) : Rg s (hasR u s l rows) := by
  unfold hasR
  split
  · split
    · intro r hr x hx
      rcases mem_set hr with h | rfl
      · exact hR r h x hx
      · rcases List.mem_cons.mp hx with rfl | hx
        · exact hl
        · exact hR.row (List.mem_filter.mp hx).1
    · exact hR
  · exact hR
theorem Rg.st (hR : Rg s rows) (hl : 0 ≤ l ∧ l < ((5 * s : Nat) : Int)) : Rg s (stR u s w l h rows) := by
  unfold stR
  split
  · exact hR.has hl
  · split
    · intro r hr x hx
      have hR2 := hR.has (u := u) hl
      rcases mem_set hr with h | rfl
      · exact hR2 r h x hx
      · rcases List.mem_cons.mp (List.mem_of_mem_take hx) with rfl | hx
        · exact hl
        · exact hR2.row (List.mem_filter.mp hx).1
    · exact hR.has hl
theorem vds_nm {f : Int → Int} (hf : Nam f s) (hk : Asc k) (hm : AscO m) : vds (nmK f k) (m.map (nmK f)) (f l) = vds k m l := by
  unfold vds
  rw [nm_has hf hk]
  cases m with
  | none => rfl
  | some m0 =>
    show (if _ then _ else if hasK (nmK f m0) (f l) = true then _ else _) = _
    rw [nm_has hf (hm m0 rfl)]
theorem vds_pt (hs : 0 < s) (hk : Asc k) (hm : AscO m) : vds (ptK s (ix s l : Nat) k) (m.map (ptK s (ix s l : Nat))) (l / s) = vds k m l := by
  unfold vds
  rw [pt_has hs hk]
  cases m with
  | none => rfl
  | some m0 =>
    show (if _ then _ else if hasK (ptK s (ix s l : Nat) m0) (l / s) = true then _ else _) = _
    rw [pt_has hs (hm m0 rfl)]
/-! ### data that is compared -/
theorem ok3_kn (k : List P) (m : Option (List P)) : okD 3 (knD k m) = true := by
  have hk : ∀ k : List P, okD 2 (kD k) = true := fun k => okD_map (fun x => rfl) k
  show ([kD k, mD m].all (okD 2)) = true
  have h2 : okD 2 (mD m) = true := by
    cases m with
    | none => rfl
    | some k2 => exact hk k2
  simp [hk k, h2]
theorem dPys_bl : ∀ bs : List Bool, dPys (bs.map D.bl) = bs.map PyData.bool
  | [] => rfl
  | b :: bs => by
    show dPy (.bl b) :: dPys (bs.map D.bl) = _
    rw [dPys_bl bs]
    rfl
theorem nr_bl : ∀ bs : List Bool, noRefs (bs.map D.bl) = true
  | [] => rfl
  | b :: bs => by
    show (noRef (.bl b) && noRefs (bs.map D.bl)) = true
    rw [nr_bl bs]
    rfl
theorem toPy_ans {q : Nat} {c : Bool} {bs : List Bool} (h : S[q]? = some (.lst (bs.map D.bl))) : toPy S (.tup [.bl c, .ref q]) = some (.tuple [.bool c, .list (bs.map PyData.bool)]) := by
  have e : refPy S 4 q = some (.list (bs.map PyData.bool)) := by
    have := toPy_lst (getL_of h) (nr_bl bs)
    rw [dPys_bl] at this
    exact this
  show (toPysG (refPy S 4) [.bl c, .ref q]).map PyData.tuple = _
  simp only [toPysG, toPyG, e, Option.bind_some, Option.map_some]
theorem sh_ans (c : Bool) (bs : List Bool) : Sh (.tuple [.bool c, .list (bs.map PyData.bool)]) := by
  refine sh_tuple fun p hp => ?_
  simp only [List.mem_cons, List.not_mem_nil, or_false] at hp
  rcases hp with rfl | rfl
  · exact ⟨(sh_bl c).1, by simp [PyData.depth]⟩
  · have : ∀ bs : List Bool, PyData.canLayAll0 (bs.map PyData.bool) = true ∧ PyData.depthAll (bs.map PyData.bool) ≤ 0 := fun bs => by
      induction bs with
      | nil => exact ⟨by simp [PyData.canLayAll0], by simp [PyData.depthAll]⟩
      | cons b bs ih => exact ⟨by rw [List.map_cons, PyData.canLayAll0, (sh_bl b).1, ih.1]; rfl, by rw [List.map_cons, PyData.depthAll]; have := ih.2; simp [PyData.depth]; omega⟩
    obtain ⟨h1, h2⟩ := this bs
    exact ⟨by rw [PyData.canLay0]; exact h1, by rw [PyData.depth]; omega⟩
theorem w_neAns {q1 q2 : Nat} {c : Bool} {bs : List Bool} (h1 : S[q1]? = some (.lst (bs.map D.bl))) (h2 : S[q2]? = some (.lst (bs.map D.bl))) : W (oNe (.tup [.bl c, .ref q1]) (.tup [.bl c, .ref q2]) S) Q ↔ Q (.bl false) S :=
  w_neS (toPy_ans h1) (toPy_ans h2) (sh_ans c bs)
/-- two lists of the same data -/
theorem w_neL {q1 q2 : Nat} {ds : List D} (ok : ∀ d ∈ ds, okD 10 d = true) (h1 : getL S q1 = some ds) (h2 : getL S q2 = some ds) : W (oNe (.ref q1) (.ref q2) S) Q ↔ Q (.bl false) S := by
  have nr : noRefs ds = true := by
    clear h1 h2
    induction ds with
    | nil => rfl
    | cons d ds ih =>
      show (noRef d && noRefs ds) = true
      rw [(okD_sd _ _ (ok d List.mem_cons_self)).1, ih fun x hx => ok x (List.mem_cons_of_mem _ hx)]
      rfl
  refine w_neS (toPy_lst h1 nr) (toPy_lst h2 nr) (sh_list fun p hp => ?_)
  have : ∀ ds : List D, (∀ d ∈ ds, okD 10 d = true) → p ∈ dPys ds → p.canLay0 = true ∧ p.depth ≤ 10 := fun ds => by
    induction ds with
    | nil => intro _ h; simp [dPys] at h
    | cons d ds ih =>
      intro ok h
      rcases List.mem_cons.mp (show p ∈ dPy d :: dPys ds from h) with rfl | h
      · exact (okD_sd _ _ (ok d List.mem_cons_self)).2
      · exact ih (fun x hx => ok x (List.mem_cons_of_mem _ hx)) h
  exact this ds ok hp
theorem w_ninB' {a : Bool} {bs : List Bool} {n : Nat} (h : getL S n = some (bs.map D.bl)) : W (oNotIn (.bl a) (.ref n) S) Q ↔ Q (.bl (!decide (a ∈ bs))) S := by
  have e1 : ∀ bs : List Bool, (bs.map D.bl).all flatD = true := fun bs => by
    rw [List.all_eq_true]
    intro d hd
    obtain ⟨x, _, rfl⟩ := List.mem_map.mp hd
    rfl
  have e2 : ∀ bs : List Bool, inD (.bl a) (bs.map D.bl) = decide (a ∈ bs) := fun bs => by
    induction bs with
    | nil => rfl
    | cons x bs ih =>
      unfold inD at ih ⊢
      rw [List.map_cons, List.any_cons, ih]
      cases x <;> cases a <;> simp [eqD]
  have e3 : oInB (.bl a) (.ref n) S = some (decide (a ∈ bs)) := by
    unfold oInB
    simp only [h]
    rw [if_pos (by rw [e1]; rfl), e2]
  unfold oNotIn
  rw [e3]
  simp
end
end K50
/-! K50k: the turns. -/
namespace K50
open PySem L2 FL M51
structure Pl where
  tp : Nat
  tm : Nat
  nd : Nat
  n : Nat
  m : Nat
  n2 : Nat
  m2 : Nat
  al : Nat
  an : Nat → Nat
  am : Nat → Nat
  pt : Nat
  hd : Nat
structure PO (s : Nat) (p : Pl) : Prop where
  h1 : p.tp < p.nd ∧ p.tm < p.nd ∧ p.nd < p.n ∧ p.nd < p.m ∧ p.n ≠ p.m ∧ p.n < p.n2 ∧ p.m < p.n2 ∧ p.n < p.m2 ∧ p.m < p.m2 ∧ p.n2 ≠ p.m2 ∧ p.n2 < p.al ∧ p.m2 < p.al ∧ p.al < p.pt ∧ p.pt < p.hd
  h2 : ∀ i, i < s → p.al < p.an i ∧ p.al < p.am i ∧ p.an i < p.pt ∧ p.am i < p.pt
  h3 : ∀ i j, i < s → j < s → i ≠ j → p.an i ≠ p.am j ∧ p.am i ≠ p.am j
abbrev KM := List P × Option (List P)
structure LI (s w : Nat) (u : Bool) (ds : List Int) (p : Pl) (rows : List (List Int)) (A : Nat → List Int) (k : List P) (mm : Option (List P)) (hs : List KM) (S : Sto) : Prop where
  tape : Tape S p.tp p.tm
  nms : S[p.nd]? = some (.dic ((nmL s ds).map kvI))
  c1 : CA S s w u p.n p.m rows
  c2 : CA S s w u p.n2 p.m2 (rn (nmF s ds) rows)
  al : S[p.al]? = some (.lst (lf s fun i => .ref (p.an i)))
  ac : ∀ i, i < s → CA S 1 w u (p.an i) (p.am i) [A i]
  pt : S[p.pt]? = some (.lst (lf s fun i => knD (ptK s (i : Nat) k) (mm.map (ptK s (i : Nat)))))
  hd : S[p.hd]? = some (.lst (hs.map fun q => knD q.1 q.2))
/-- what holds of the data -/
structure DI (s w : Nat) (u : Bool) (rows : List (List Int)) (A : Nat → List Int) (k : List P) (mm : Option (List P)) (hs : List KM) (t : Nat) : Prop where
  good : Good s rows
  side : Side s rows A
  snd : SND u s w rows k mm
  kc : KC (5 * s) w u k mm
  rg : Rg s rows
  held : ∀ q ∈ hs, KC (5 * s) w u q.1 q.2
  len : hs.length = t + 1
section
variable {s w : Nat} {u : Bool} {ds : List Int} {p : Pl} {rows : List (List Int)} {A : Nat → List Int} {k : List P} {mm : Option (List P)} {hs : List KM} {S S' : Sto} {Q : D → Sto → Prop}
theorem CA.kn {S S' : Sto} {s w n m q : Nat} {u : Bool} {rows : List (List Int)} (h : CA S s w u n m rows) (a : Kn q S S') (h1 : n ≠ q) (h2 : m ≠ q) : CA S' s w u n m rows := ⟨a _ _ h1 h.1, a _ _ h2 h.2.1, h.2.2⟩
theorem CA.ap {S S' : Sto} {s w n m : Nat} {u : Bool} {rows : List (List Int)} (h : CA S s w u n m rows) (a : Ap S S') : CA S' s w u n m rows := ⟨a _ _ h.1, a _ _ h.2.1, h.2.2⟩
theorem LI.ap (h : LI s w u ds p rows A k mm hs S) (a : Ap S S') : LI s w u ds p rows A k mm hs S' :=
  ⟨h.tape.ap a, a _ _ h.nms, h.c1.ap a, h.c2.ap a, a _ _ h.al, fun i hi => (h.ac i hi).ap a, a _ _ h.pt, a _ _ h.hd⟩
theorem LI.take (h : LI s w u ds p rows A k mm hs S) (o : PO s p) (a : Kn p.tp S S') (t : Tape S' p.tp p.tm) : LI s w u ds p rows A k mm hs S' := by
  obtain ⟨o1, o2, o3, o4, o5, o6, o7, o8, o9, o10, o11, o12, o13, o14⟩ := o.h1
  exact ⟨t, a _ _ (by omega) h.nms, h.c1.kn a (by omega) (by omega), h.c2.kn a (by omega) (by omega), a _ _ (by omega) h.al, fun i hi => (h.ac i hi).kn a (by have := o.h2 i hi; omega) (by have := o.h2 i hi; omega), a _ _ (by omega) h.pt, a _ _ (by omega) h.hd⟩
abbrev eL (p : Pl) (s w : Nat) (u : Bool) (x5 x7 x8 : Option D) (k : List P) (mm : Option (List P)) (ds : List Int) (x16 x17 x18 x19 x20 x21 x22 x23 x24 x25 x26 : Option D) : FL.Env :=
  [some (.ref 0), some (.ref p.tp), some (tD s w u), some (.int s), some (tD 1 w u), x5, some (.ref p.nd), x7, x8, some (.ref p.n), some (.ref p.n2), some (.ref p.al), some (knD k mm), some (knD (nmK (nmF s ds) k) (mm.map (nmK (nmF s ds)))), some (.ref p.pt), some (.ref p.hd), x16, x17, x18, x19, x20, x21, x22, x23, x24, x25, x26]
theorem rwz (h : ∀ x, (row s rows x).length ≤ w) (hs : 0 < s) (hw : w ≤ 4) (g : Good s rows) : ∀ r ∈ rows, r.length ≤ w := fun r hr => by
  obtain ⟨i, hi⟩ := List.mem_iff_getElem?.mp hr
  have hlt := (List.getElem?_eq_some_iff.mp hi).1
  have e : ix s (i : Int) = i := by
    unfold ix
    rw [g.len] at hlt
    rw [Int.emod_eq_of_lt (by omega) (by omega)]
    rfl
  have := h (i : Int)
  unfold row at this
  rw [e, List.getD_eq_getElem?_getD, hi] at this
  exact this
theorem turn1 {t : Nat} {N : FL.Env → Sto → Prop} {QO : Out → Sto → Prop} {x5 x7 x8 x16 x17 x18 x19 x20 x21 x22 x23 x24 x25 x26 : Option D} (hs0 : 0 < s) (hs4 : s ≤ 4) (hw : 0 < w) (hw4 : w ≤ 4) (hD : Drw ds) (hl : ds.length = 5 * s) (o : PO s p) (ht : t < 24)
    (d : DI s w u rows A k mm hs t) (h : LI s w u ds p rows A k mm hs S)
    (hN : ∀ x7 x16 x17 x18 x19 x20 x21 x22 x23 x24 x25 x26 rows A k mm hs S', DI s w u rows A k mm hs (t + 1) → LI s w u ds p rows A k mm hs S' → N (eL p s w u x5 x7 x8 k mm ds x16 x17 x18 x19 x20 x21 x22 x23 x24 x25 x26) S') :
    W ((sSeq (sPar [7, 17] (aCons (eCall f__law_take (aCons (eVar 1) (aCons (eBin oMul (eC (.int 5)) (eVar 3)) (aNil)))) (aCons (eCall f__law_take (aCons (eVar 1) (aCons (eC (.int 4)) (aNil)))) (aNil)))) (sSeq (sAsg (eBin oMod (eCall fInt (aCons (eVar 7) (aNil))) (eVar 3)) (gNm 18)) (sSeq (sAsg (eCall f__law_step (aCons (eVar 2) (aCons (eVar 9) (aCons (eVar 12) (aCons (eVar 7) (aCons (eVar 17) (aNil))))))) (gTp 3 (gCns (gNm 19) (gCns (gNm 20) (gCns (gNm 21) (gNils)))))) (sSeq (sAsg (eCall f__law_step (aCons (eVar 2) (aCons (eVar 10) (aCons (eVar 13) (aCons (eBin oIx (eVar 6) (eVar 7)) (aCons (eVar 17) (aNil))))))) (gNm 22)) (sSeq (sAsg (eCall f__law_step (aCons (eVar 4) (aCons (eBin oIx (eVar 11) (eVar 18)) (aCons (eBin oIx (eVar 14) (eVar 18)) (aCons (eBin oDiv (eCall fInt (aCons (eVar 7) (aNil))) (eVar 3)) (aCons (eVar 17) (aNil))))))) (gNm 23)) (sSeq (sIf (tOr (FL.tB (eBin oNotIn (eVar 19) (eVar 20))) (tOr (FL.tB (eBin oNe (eSl (eVar 22) pNo (pPart (eC (.int 2)))) (eTup (aCons (eVar 19) (aCons (eVar 20) (aNil)))))) (tOr (FL.tB (eBin oNe (eSl (eVar 23) pNo (pPart (eC (.int 2)))) (eTup (aCons (eVar 19) (aCons (eVar 20) (aNil)))))) (tOr (FL.tB (eBin oNe (eBin oIx (eVar 22) (eC (.int 2))) (eCall f__law_named (aCons (eVar 21) (aCons (eVar 6) (aNil)))))) (FL.tB (eBin oNe (eBin oIx (eVar 23) (eC (.int 2))) (eCall f__law_part_of (aCons (eVar 21) (aCons (eVar 3) (aCons (eVar 18) (aNil))))))))))) (sRet (eC (.bl false))) (sNil)) (sSeq (sAsg (eTup (aCons (eVar 21) (aCons (eBin oIx (eVar 22) (eC (.int 2))) (aCons (eBin oIx (eVar 23) (eC (.int 2))) (aNil))))) (gTp 3 (gCns (gNm 12) (gCns (gNm 13) (gCns (gIx (eVar 14) (eVar 18)) (gNils)))))) (sSeq (sIf (FL.tB (eBin oNe (eMeth "Cache" "lines" f_Cache_lines (eVar 9) aNil) (eCall fTuple (aCons (eLc (FL.iRng1 (aCons (eVar 3) (aNil))) (gNm 25) (tYs) (eCall fTuple (aCons (eLc (iSeq (eBin oIx (eMeth "Cache" "lines" f_Cache_lines (eBin oIx (eVar 11) (eVar 25)) aNil) (eC (.int 0)))) (gNm 26) (tYs) (eBin oAdd (eBin oMul (eVar 26) (eVar 3)) (eVar 25)) [26]) (aNil))) [25]) (aNil))))) (sRet (eC (.bl false))) (sNil)) (sSeq (sIf (tOr (FL.tB (eBin oNe (eMeth "Cache" "lines" f_Cache_lines (eVar 10) aNil) (eCall fTuple (aCons (eLc (iSeq (eMeth "Cache" "lines" f_Cache_lines (eVar 9) aNil)) (gNm 24) (tYs) (eCall fTuple (aCons (eLc (iSeq (eVar 24)) (gNm 26) (tYs) (eBin oIx (eVar 6) (eVar 26)) [26]) (aNil))) [24]) (aNil))))) (FL.tB (eBin oNe (eLc (FL.iRng1 (aCons (eVar 3) (aNil))) (gNm 25) (tYs) (eCall f__law_part_of (aCons (eVar 12) (aCons (eVar 3) (aCons (eVar 25) (aNil))))) [25]) (eVar 14)))) (sRet (eC (.bl false))) (sNil)) (sSeq (sIf (tOr (tNot (tTru (eCall f_is_known_within (aCons (eCall f_of_cache (aCons (eVar 2) (aCons (eMeth "Cache" "lines" f_Cache_lines (eVar 9) aNil) (aNil)))) (aCons (eVar 12) (aNil)))))) (tNot (tTru (eCall f__law_sides (aCons (eVar 2) (aCons (eVar 12) (aCons (eBin oIx (eVar 15) (eCall f__law_take (aCons (eVar 1) (aCons (eCall fLen (aCons (eVar 15) (aNil))) (aNil))))) (aNil)))))))) (sRet (eC (.bl false))) (sNil)) (sDrop (eBm "list" mAppend (eVar 15) (aCons (eVar 12) (aNil)))))))))))))) (eL p s w u x5 x7 x8 k mm ds x16 x17 x18 x19 x20 x21 x22 x23 x24 x25 x26) S) (QL N QO) := by
  obtain ⟨o1, o2, o3, o4, o5, o6, o7, o8, o9, o10, o11, o12, o13, o14⟩ := o.h1
  have s5 : (5 * s) * 1 ≤ 1000 := by omega
  have ss0 : 0 < (s : Int) := by omega
  have ss1 : (s : Int) < 18446744073709551616 := by omega
  simp only [w_seq, w_asg, w_ret, w_retN, w_drop, w_brk, w_cnt, w_nil, w_sif, w_c, w_ev, w_bin, w_un, w_anil, w_acons, w_tup, w_lst, w_call, w_tB, w_tNot, w_tAnd, w_tOr, w_eIf, w_isN, w_notN, w_gnm, w_gnils, w_gcns, w_gtp2, w_gtp3, w_gtp2p, w_ixT0, w_ixT1, w_ixT2, w_ch, w_chL, w_chK, w_par2, w_par3, w_add, w_sub, w_neg, w_lt, w_le, w_gt, w_ge, w_abs, w_int, w_intb, w_max2, w_min2, w_pno, w_ppart, w_sl, w_bm, w_yes, w_eqI, w_neI, w_eqB, w_neB, QS_nx, QS_rt, QS_bk, QS_ct, QF_nx, QF_rt, QL_nx, QL_ct, QL_bk, QL_rt, wipeE, List.set_cons_succ, List.set_cons_zero, List.getElem?_cons_succ, List.getElem?_cons_zero, D.bl.injEq, D.int.injEq, exists_eq_left', exists_eq_left, w_eAnd, w_tTru, tru_bl, if_true, if_false, Bool.false_eq_true]
  rw [w_mul (okMul_l (by decide) (by decide))]
  refine W_take h.tape (by omega) (by omega) fun l S1 l0 l1 k1 T1 _ => ?_
  have h1 := h.take o k1 T1
  have hl5 : 0 ≤ l ∧ l < ((5 * s : Nat) : Int) := ⟨l0, by omega⟩
  simp only [w_seq, w_asg, w_ret, w_retN, w_drop, w_brk, w_cnt, w_nil, w_sif, w_c, w_ev, w_bin, w_un, w_anil, w_acons, w_tup, w_lst, w_call, w_tB, w_tNot, w_tAnd, w_tOr, w_eIf, w_isN, w_notN, w_gnm, w_gnils, w_gcns, w_gtp2, w_gtp3, w_gtp2p, w_ixT0, w_ixT1, w_ixT2, w_ch, w_chL, w_chK, w_par2, w_par3, w_add, w_sub, w_neg, w_lt, w_le, w_gt, w_ge, w_abs, w_int, w_intb, w_max2, w_min2, w_pno, w_ppart, w_sl, w_bm, w_yes, w_eqI, w_neI, w_eqB, w_neB, QS_nx, QS_rt, QS_bk, QS_ct, QF_nx, QF_rt, QL_nx, QL_ct, QL_bk, QL_rt, wipeE, List.set_cons_succ, List.set_cons_zero, List.getElem?_cons_succ, List.getElem?_cons_zero, D.bl.injEq, D.int.injEq, exists_eq_left', exists_eq_left, w_eAnd, w_tTru, tru_bl, if_true, if_false, Bool.false_eq_true]
  refine W_take h1.tape (by decide) (by decide) fun how S2 _ _ k2 T2 _ => ?_
  have h2 := h1.take o k2 T2
  try simp only [w_seq, w_asg, w_ret, w_retN, w_drop, w_brk, w_cnt, w_nil, w_sif, w_c, w_ev, w_bin, w_un, w_anil, w_acons, w_tup, w_lst, w_call, w_tB, w_tNot, w_tAnd, w_tOr, w_eIf, w_isN, w_notN, w_gnm, w_gnils, w_gcns, w_gtp2, w_gtp3, w_gtp2p, w_ixT0, w_ixT1, w_ixT2, w_ch, w_chL, w_chK, w_par2, w_par3, w_add, w_sub, w_neg, w_lt, w_le, w_gt, w_ge, w_abs, w_int, w_intb, w_max2, w_min2, w_pno, w_ppart, w_sl, w_bm, w_yes, w_eqI, w_neI, w_eqB, w_neB, QS_nx, QS_rt, QS_bk, QS_ct, QF_nx, QF_rt, QL_nx, QL_ct, QL_bk, QL_rt, wipeE, List.set_cons_succ, List.set_cons_zero, List.getElem?_cons_succ, List.getElem?_cons_zero, D.bl.injEq, D.int.injEq, exists_eq_left', exists_eq_left, w_eAnd, w_tTru, tru_bl, if_true, if_false, Bool.false_eq_true]
  rw [w_mod ss0, ← ix_eq hs0 l]
  have hix := ix_lt hs0 l
  have oi := o.h2 _ hix
  -- the cache
  generalize eb : decide (l ∈ row s rows l) = b
  have kk := d.kc.kk (by omega) hw4
  have rz : ∀ r ∈ rows, r.length ≤ 1000 := fun r hr => by have := rwz d.snd.size hs0 hw4 d.good r hr; omega
  refine (step_ok (h := how) hs0 (by omega) d.good.len rz h2.c1 kk eb.symm).mono fun x S3 e => ?_
  obtain ⟨q1, rfl, g1, C1, k3, lq1⟩ := e
  generalize eh : decide (0 < how) = hh at C1 ⊢
  try simp only [w_seq, w_asg, w_ret, w_retN, w_drop, w_brk, w_cnt, w_nil, w_sif, w_c, w_ev, w_bin, w_un, w_anil, w_acons, w_tup, w_lst, w_call, w_tB, w_tNot, w_tAnd, w_tOr, w_eIf, w_isN, w_notN, w_gnm, w_gnils, w_gcns, w_gtp2, w_gtp3, w_gtp2p, w_ixT0, w_ixT1, w_ixT2, w_ch, w_chL, w_chK, w_par2, w_par3, w_add, w_sub, w_neg, w_lt, w_le, w_gt, w_ge, w_abs, w_int, w_intb, w_max2, w_min2, w_pno, w_ppart, w_sl, w_bm, w_yes, w_eqI, w_neI, w_eqB, w_neB, QS_nx, QS_rt, QS_bk, QS_ct, QF_nx, QF_rt, QL_nx, QL_ct, QL_bk, QL_rt, wipeE, List.set_cons_succ, List.set_cons_zero, List.getElem?_cons_succ, List.getElem?_cons_zero, D.bl.injEq, D.int.injEq, exists_eq_left', exists_eq_left, w_eAnd, w_tTru, tru_bl, if_true, if_false, Bool.false_eq_true]
  have gg : Good s (stR u s w l hh rows) := Good.st hs0 d.good
  have gs : Side s (stR u s w l hh rows) (upA A (ix s l) (stA u w (l / s) hh (A (ix s l)))) := d.side.st hs0
  have gk : KC (5 * s) w u (stK u s w l hh b k) (stM u s w l hh b mm) := d.kc.st hw hl5
  have gn : SND u s w (stR u s w l hh rows) (stK u s w l hh b k) (stM u s w l hh b mm) := d.snd.st hs0 hw d.good d.kc eb.symm
  have gr : Rg s (stR u s w l hh rows) := d.rg.st hl5
  -- the twin
  have nm := nmF_nam hs0 hD
  have nms3 := k3 _ _ (by omega) h2.nms
  rw [w_ixD (.inl nms3) (nmL_lk l0 (by omega))]
  have e2 : b = decide (nmF s ds l ∈ row s (rn (nmF s ds) rows) (nmF s ds l)) := by
    rw [← eb]
    by_cases hm : l ∈ row s rows l
    · rw [decide_eq_true hm, decide_eq_true ((mem_rn nm).mpr hm)]
    · rw [decide_eq_false hm, decide_eq_false (fun z => hm ((mem_rn nm).mp z))]
  have kk2 : KC (25 * s) w u (nmK (nmF s ds) k) (mm.map (nmK (nmF s ds))) := by
    refine ⟨d.kc.k.nmK nm.inj (nmF_rg hs0 hD), fun m' e => ?_⟩
    obtain ⟨m0, rfl, rfl⟩ := Option.map_eq_some_iff.mp e
    exact (d.kc.m m0 rfl).nmK nm.inj (nmF_rg hs0 hD)
  have c2 := h2.c2.kn k3 (by omega) (by omega)
  have rz2 : ∀ r ∈ rn (nmF s ds) rows, r.length ≤ 1000 := fun r hr => by
    obtain ⟨r0, h0, rfl⟩ := List.mem_map.mp hr
    rw [List.length_map]
    exact rz r0 h0
  refine (step_ok (l := nmF s ds l) (h := how) hs0 (by omega) (by rw [List.length_map]; exact d.good.len) rz2 c2 (kk2.kk (by omega) hw4) e2).mono fun x S4 e => ?_
  obtain ⟨q2, rfl, g2, C2, k4, lq2⟩ := e
  rw [eh] at C2 ⊢
  rw [nm_stK nm d.kc.k.asc, nm_stM nm d.kc.ao]
  rw [vds_nm nm d.kc.k.asc d.kc.ao] at g2
  rw [stR_rn nm] at C2
  try simp only [w_seq, w_asg, w_ret, w_retN, w_drop, w_brk, w_cnt, w_nil, w_sif, w_c, w_ev, w_bin, w_un, w_anil, w_acons, w_tup, w_lst, w_call, w_tB, w_tNot, w_tAnd, w_tOr, w_eIf, w_isN, w_notN, w_gnm, w_gnils, w_gcns, w_gtp2, w_gtp3, w_gtp2p, w_ixT0, w_ixT1, w_ixT2, w_ch, w_chL, w_chK, w_par2, w_par3, w_add, w_sub, w_neg, w_lt, w_le, w_gt, w_ge, w_abs, w_int, w_intb, w_max2, w_min2, w_pno, w_ppart, w_sl, w_bm, w_yes, w_eqI, w_neI, w_eqB, w_neB, QS_nx, QS_rt, QS_bk, QS_ct, QF_nx, QF_rt, QL_nx, QL_ct, QL_bk, QL_rt, wipeE, List.set_cons_succ, List.set_cons_zero, List.getElem?_cons_succ, List.getElem?_cons_zero, D.bl.injEq, D.int.injEq, exists_eq_left', exists_eq_left, w_eAnd, w_tTru, tru_bl, if_true, if_false, Bool.false_eq_true]
  -- the set alone
  have al4 := k4 _ _ (by omega) (k3 _ _ (by omega) h2.al)
  have pt4 := k4 _ _ (by omega) (k3 _ _ (by omega) h2.pt)
  rw [w_ixL (getL_of al4) (lf_at hix), w_ixL (getL_of pt4) (lf_at hix), w_div ss0 ss1]
  have ac4 := ((h2.ac _ hix).kn k3 (by omega) (by omega)).kn k4 (by omega) (by omega)
  have e3 : b = decide (l / (s : Int) ∈ row 1 [A (ix s l)] (l / (s : Int))) := by
    rw [row_one, ← eb]
    by_cases hm : l ∈ row s rows l
    · rw [decide_eq_true hm, decide_eq_true ((d.side.mem hs0).mp hm)]
    · rw [decide_eq_false hm, decide_eq_false (fun z => hm ((d.side.mem hs0).mpr z))]
  have az : (A (ix s l)).length ≤ 1000 := by
    have := rz _ (List.mem_of_getElem? (d.side.2 _ hix))
    rwa [List.length_map] at this
  refine (step_ok (l := l / (s : Int)) (h := how) (Nat.le_refl 1) (by omega) rfl (fun r hr => by rw [List.mem_singleton.mp hr]; exact az) ac4 ((KC.pt hs0 hix d.kc).kk (by omega) hw4) e3).mono fun x S5 e => ?_
  obtain ⟨q3, rfl, g3, C3, k5, lq3⟩ := e
  rw [eh] at C3 ⊢
  rw [pt_stK hs0 d.kc.k.asc, pt_stM hs0 d.kc.ao]
  rw [vds_pt hs0 d.kc.k.asc d.kc.ao] at g3
  rw [stR_one] at C3
  try simp only [w_seq, w_asg, w_ret, w_retN, w_drop, w_brk, w_cnt, w_nil, w_sif, w_c, w_ev, w_bin, w_un, w_anil, w_acons, w_tup, w_lst, w_call, w_tB, w_tNot, w_tAnd, w_tOr, w_eIf, w_isN, w_notN, w_gnm, w_gnils, w_gcns, w_gtp2, w_gtp3, w_gtp2p, w_ixT0, w_ixT1, w_ixT2, w_ch, w_chL, w_chK, w_par2, w_par3, w_add, w_sub, w_neg, w_lt, w_le, w_gt, w_ge, w_abs, w_int, w_intb, w_max2, w_min2, w_pno, w_ppart, w_sl, w_bm, w_yes, w_eqI, w_neI, w_eqB, w_neB, QS_nx, QS_rt, QS_bk, QS_ct, QF_nx, QF_rt, QL_nx, QL_ct, QL_bk, QL_rt, wipeE, List.set_cons_succ, List.set_cons_zero, List.getElem?_cons_succ, List.getElem?_cons_zero, D.bl.injEq, D.int.injEq, exists_eq_left', exists_eq_left, w_eAnd, w_tTru, tru_bl, if_true, if_false, Bool.false_eq_true]
  have lp := lt_of_at h2.hd
  have ls3 := lt_of_at (k3 _ _ (by omega) h2.hd)
  have ls4 := lt_of_at (k4 _ _ (by omega) (k3 _ _ (by omega) h2.hd))
  have g1' := k5 _ _ (by omega) (k4 _ _ (by omega) g1)
  have g2' := k5 _ _ (by omega) g2
  rw [w_ninB' (getL_of g1')]
  have inv := vds_ok (l := l) d.snd d.kc.k.asc d.kc.ao
  rw [eb] at inv
  rw [decide_eq_true inv]
  refine ⟨_, rfl, ?_⟩
  rw [if_neg (by decide)]
  have cut2 : ∀ (x y z : D) (S : Sto), oSl (.tup [x, y, z]) none (some 2) S = some (.tup [x, y], S) := fun x y z S => by
    show some (D.tup (cutG [x, y, z] none (some ((2 : Nat) : Int))), S) = _
    rw [cut_none]
    rfl
  rw [cut2, W_some]
  refine ⟨by show 2 ≤ 10000000; decide, ?_⟩
  rw [w_neAns g2' g1']
  refine ⟨_, rfl, ?_⟩
  rw [if_neg (by decide), cut2, W_some]
  refine ⟨by show 2 ≤ 10000000; decide, ?_⟩
  rw [w_neAns g3 g1']
  refine ⟨_, rfl, ?_⟩
  rw [if_neg (by decide)]
  try simp only [w_seq, w_asg, w_ret, w_retN, w_drop, w_brk, w_cnt, w_nil, w_sif, w_c, w_ev, w_bin, w_un, w_anil, w_acons, w_tup, w_lst, w_call, w_tB, w_tNot, w_tAnd, w_tOr, w_eIf, w_isN, w_notN, w_gnm, w_gnils, w_gcns, w_gtp2, w_gtp3, w_gtp2p, w_ixT0, w_ixT1, w_ixT2, w_ch, w_chL, w_chK, w_par2, w_par3, w_add, w_sub, w_neg, w_lt, w_le, w_gt, w_ge, w_abs, w_int, w_intb, w_max2, w_min2, w_pno, w_ppart, w_sl, w_bm, w_yes, w_eqI, w_neI, w_eqB, w_neB, QS_nx, QS_rt, QS_bk, QS_ct, QF_nx, QF_rt, QL_nx, QL_ct, QL_bk, QL_rt, wipeE, List.set_cons_succ, List.set_cons_zero, List.getElem?_cons_succ, List.getElem?_cons_zero, D.bl.injEq, D.int.injEq, exists_eq_left', exists_eq_left, w_eAnd, w_tTru, tru_bl, if_true, if_false, Bool.false_eq_true]
  have gkk := gk.kk (by omega) hw4
  have nms5 := k5 _ _ (by omega) (k4 _ _ (by omega) nms3)
  have inN : ∀ {v : Nat} {k' : List P}, CK (5 * s) v k' → ∀ p ∈ k', lkP (nmL s ds) p.1 = some (nmF s ds p.1) := fun c p hp => by
    have := c.ok p.1 p.2 ((lk_mem c.asc.nd).mpr hp)
    exact nmL_lk this.2.2.1 (by omega)
  refine (named_ok gkk nms5 (inN gk.k) fun k2 e => inN (gk.m k2 e)).mono fun x S6 e => ?_
  obtain ⟨rfl, a6⟩ := e
  rw [w_neR (okD_mono (by omega) (ok3_kn _ _))]
  refine ⟨_, rfl, ?_⟩
  rw [if_neg (by decide)]
  refine (part_ok hs0 (by omega) gkk).mono fun x S7 e => ?_
  obtain ⟨rfl, a7⟩ := e
  rw [w_neR (okD_mono (by omega) (ok3_kn _ _))]
  refine ⟨_, rfl, ?_⟩
  rw [if_neg (by decide)]
  try simp only [w_seq, w_asg, w_ret, w_retN, w_drop, w_brk, w_cnt, w_nil, w_sif, w_c, w_ev, w_bin, w_un, w_anil, w_acons, w_tup, w_lst, w_call, w_tB, w_tNot, w_tAnd, w_tOr, w_eIf, w_isN, w_notN, w_gnm, w_gnils, w_gcns, w_gtp2, w_gtp3, w_gtp2p, w_ixT0, w_ixT1, w_ixT2, w_ch, w_chL, w_chK, w_par2, w_par3, w_add, w_sub, w_neg, w_lt, w_le, w_gt, w_ge, w_abs, w_int, w_intb, w_max2, w_min2, w_pno, w_ppart, w_sl, w_bm, w_yes, w_eqI, w_neI, w_eqB, w_neB, QS_nx, QS_rt, QS_bk, QS_ct, QF_nx, QF_rt, QL_nx, QL_ct, QL_bk, QL_rt, wipeE, List.set_cons_succ, List.set_cons_zero, List.getElem?_cons_succ, List.getElem?_cons_zero, D.bl.injEq, D.int.injEq, exists_eq_left', exists_eq_left, w_eAnd, w_tTru, tru_bl, if_true, if_false, Bool.false_eq_true]
  have pt7 := a7 _ _ (a6 _ _ (k5 _ _ (by omega) pt4))
  rw [w_setL (by show eVar 14 _ _ = _; rfl) (by show eVar 18 _ _ = _; rfl) pt7 (lf_ixN hix)]
  -- all together
  have h8 : LI s w u ds p (stR u s w l hh rows) (upA A (ix s l) (stA u w (l / s) hh (A (ix s l)))) (stK u s w l hh b k) (stM u s w l hh b mm) hs (S7.set p.pt (.lst ((lf s fun i => knD (ptK s (i : Nat) k) (mm.map (ptK s (i : Nat)))).set (ix s l) (knD (ptK s (ix s l : Nat) (stK u s w l hh b k)) ((stM u s w l hh b mm).map (ptK s (ix s l : Nat))))))) := by
    have st : ∀ {q : Nat} {ob : O}, q ≠ p.m → q ≠ p.m2 → q ≠ p.am (ix s l) → q ≠ p.pt → S2[q]? = some ob → (S7.set p.pt (.lst ((lf s fun i => knD (ptK s (i : Nat) k) (mm.map (ptK s (i : Nat)))).set (ix s l) (knD (ptK s (ix s l : Nat) (stK u s w l hh b k)) ((stM u s w l hh b mm).map (ptK s (ix s l : Nat)))))))[q]? = some ob := fun z1 z2 z3 z4 e => by
      rw [List.getElem?_set_ne (Ne.symm z4)]
      exact a7 _ _ (a6 _ _ (k5 _ _ z3 (k4 _ _ z2 (k3 _ _ z1 e))))
    have st5 : ∀ {q : Nat} {ob : O}, q ≠ p.pt → S5[q]? = some ob → (S7.set p.pt (.lst ((lf s fun i => knD (ptK s (i : Nat) k) (mm.map (ptK s (i : Nat)))).set (ix s l) (knD (ptK s (ix s l : Nat) (stK u s w l hh b k)) ((stM u s w l hh b mm).map (ptK s (ix s l : Nat)))))))[q]? = some ob := fun z4 e => by
      rw [List.getElem?_set_ne (Ne.symm z4)]
      exact a7 _ _ (a6 _ _ e)
    refine ⟨?_, st (by omega) (by omega) (by omega) (by omega) h2.nms, ⟨st5 (by omega) (k5 _ _ (by omega) (k4 _ _ (by omega) C1.1)), st5 (by omega) (k5 _ _ (by omega) (k4 _ _ (by omega) C1.2.1)), C1.2.2⟩, ⟨st5 (by omega) (k5 _ _ (by omega) C2.1), st5 (by omega) (k5 _ _ (by omega) C2.2.1), C2.2.2⟩, st (by omega) (by omega) (by omega) (by omega) h2.al, fun i hi => ?_, ?_, st (by omega) (by omega) (by omega) (by omega) h2.hd⟩
    · obtain ⟨cells, y1, y2, y3, y4, z1, z2, z3⟩ := h2.tape
      exact ⟨cells, y1, y2, y3, y4, st (by omega) (by omega) (by omega) (by omega) z1, st (by omega) (by omega) (by omega) (by omega) z2, z3⟩
    · have oj := o.h2 i hi
      by_cases e : i = ix s l
      · have ea : upA A (ix s l) (stA u w (l / s) hh (A (ix s l))) i = stA u w (l / s) hh (A (ix s l)) := if_pos e
        rw [ea, e]
        exact ⟨st5 (by omega) C3.1, st5 (by omega) C3.2.1, C3.2.2⟩
      · have ea : upA A (ix s l) (stA u w (l / s) hh (A (ix s l))) i = A i := if_neg e
        rw [ea]
        have oo := o.h3 i _ hi hix e
        have cc := h2.ac i hi
        exact ⟨st (by omega) (by omega) oo.1 (by omega) cc.1, st (by omega) (by omega) oo.2 (by omega) cc.2.1, cc.2.2⟩
    · rw [set_at pt7, lf_set hix]
      refine congrArg (fun z => some (O.lst z)) (lf_congr fun j hj => ?_)
      by_cases e : j = ix s l
      · rw [if_pos e, e]
      · rw [if_neg e, pt_stK_off hs0 hj e d.kc, pt_stM_off hs0 hj e d.kc]
  revert h8
  generalize S7.set p.pt _ = S8
  intro h8
  -- lines
  refine ⟨by show 3 ≤ 10000000; decide, ?_⟩
  refine w_meth ?_
  simp only [w_seq, w_asg, w_ret, w_retN, w_drop, w_brk, w_cnt, w_nil, w_sif, w_c, w_ev, w_bin, w_un, w_anil, w_acons, w_tup, w_lst, w_call, w_tB, w_tNot, w_tAnd, w_tOr, w_eIf, w_isN, w_notN, w_gnm, w_gnils, w_gcns, w_gtp2, w_gtp3, w_gtp2p, w_ixT0, w_ixT1, w_ixT2, w_ch, w_chL, w_chK, w_par2, w_par3, w_add, w_sub, w_neg, w_lt, w_le, w_gt, w_ge, w_abs, w_int, w_intb, w_max2, w_min2, w_pno, w_ppart, w_sl, w_bm, w_yes, w_eqI, w_neI, w_eqB, w_neB, QS_nx, QS_rt, QS_bk, QS_ct, QF_nx, QF_rt, QL_nx, QL_ct, QL_bk, QL_rt, wipeE, List.set_cons_succ, List.set_cons_zero, List.getElem?_cons_succ, List.getElem?_cons_zero, D.bl.injEq, D.int.injEq, exists_eq_left', exists_eq_left, w_eAnd, w_tTru, tru_bl, if_true, if_false, Bool.false_eq_true]
  refine ⟨p.n, _, rfl, h8.c1.1, cf_no.2.2, ?_⟩
  refine (lines_ok h8.c1).mono fun x S8' e => ?_
  obtain ⟨rfl, e⟩ := e
  subst e
  refine w_lcr (n := s) (lo := 0) (fun i => rwD ((upA A (ix s l) (stA u w (l / s) hh (A (ix s l))) i).map fun y => (s : Int) * y + (i : Nat))) ?_ (fun i hi S9 a9 => ?_) (by unfold cap; omega) fun n9 S9 a9 l9 g9 => ?_
  · refine w_rng1 ?_
    simp only [w_seq, w_asg, w_ret, w_retN, w_drop, w_brk, w_cnt, w_nil, w_sif, w_c, w_ev, w_bin, w_un, w_anil, w_acons, w_tup, w_lst, w_call, w_tB, w_tNot, w_tAnd, w_tOr, w_eIf, w_isN, w_notN, w_gnm, w_gnils, w_gcns, w_gtp2, w_gtp3, w_gtp2p, w_ixT0, w_ixT1, w_ixT2, w_ch, w_chL, w_chK, w_par2, w_par3, w_add, w_sub, w_neg, w_lt, w_le, w_gt, w_ge, w_abs, w_int, w_intb, w_max2, w_min2, w_pno, w_ppart, w_sl, w_bm, w_yes, w_eqI, w_neI, w_eqB, w_neB, QS_nx, QS_rt, QS_bk, QS_ct, QF_nx, QF_rt, QL_nx, QL_ct, QL_bk, QL_rt, wipeE, List.set_cons_succ, List.set_cons_zero, List.getElem?_cons_succ, List.getElem?_cons_zero, D.bl.injEq, D.int.injEq, exists_eq_left', exists_eq_left, w_eAnd, w_tTru, tru_bl, if_true, if_false, Bool.false_eq_true]
    exact ⟨_, rfl, by omega, by omega, by simp [Int.toNat], by trivial⟩
  · rw [w_gnm, Int.zero_add (i : Int)]
    simp only [w_seq, w_asg, w_ret, w_retN, w_drop, w_brk, w_cnt, w_nil, w_sif, w_c, w_ev, w_bin, w_un, w_anil, w_acons, w_tup, w_lst, w_call, w_tB, w_tNot, w_tAnd, w_tOr, w_eIf, w_isN, w_notN, w_gnm, w_gnils, w_gcns, w_gtp2, w_gtp3, w_gtp2p, w_ixT0, w_ixT1, w_ixT2, w_ch, w_chL, w_chK, w_par2, w_par3, w_add, w_sub, w_neg, w_lt, w_le, w_gt, w_ge, w_abs, w_int, w_intb, w_max2, w_min2, w_pno, w_ppart, w_sl, w_bm, w_yes, w_eqI, w_neI, w_eqB, w_neB, QS_nx, QS_rt, QS_bk, QS_ct, QF_nx, QF_rt, QL_nx, QL_ct, QL_bk, QL_rt, wipeE, List.set_cons_succ, List.set_cons_zero, List.getElem?_cons_succ, List.getElem?_cons_zero, D.bl.injEq, D.int.injEq, exists_eq_left', exists_eq_left, w_eAnd, w_tTru, tru_bl, if_true, if_false, Bool.false_eq_true]
    have h9 := h8.ap a9
    refine ⟨trivial, Ap.refl _, ?_⟩
    have acs := h9.ac i hi
    have az2 : (upA A (ix s l) (stA u w (l / s) hh (A (ix s l))) i).length ≤ 1000 := by
      have z1 := rwz gn.size hs0 hw4 gg _ (List.mem_of_getElem? (gs.2 i hi))
      rw [List.length_map] at z1
      omega
    generalize upA A (ix s l) (stA u w (l / s) hh (A (ix s l))) i = ai at acs az2 ⊢
    refine w_lci (ns := ai) (fun y => (s : Int) * y + (i : Nat)) (fun _ => true) ?_ (fun y hy S10 a10 => ?_) (by unfold cap; omega) fun n10 S10 a10 l10 g10 => ?_
    · refine w_iseqT ?_
      simp only [w_seq, w_asg, w_ret, w_retN, w_drop, w_brk, w_cnt, w_nil, w_sif, w_c, w_ev, w_bin, w_un, w_anil, w_acons, w_tup, w_lst, w_call, w_tB, w_tNot, w_tAnd, w_tOr, w_eIf, w_isN, w_notN, w_gnm, w_gnils, w_gcns, w_gtp2, w_gtp3, w_gtp2p, w_ixT0, w_ixT1, w_ixT2, w_ch, w_chL, w_chK, w_par2, w_par3, w_add, w_sub, w_neg, w_lt, w_le, w_gt, w_ge, w_abs, w_int, w_intb, w_max2, w_min2, w_pno, w_ppart, w_sl, w_bm, w_yes, w_eqI, w_neI, w_eqB, w_neB, QS_nx, QS_rt, QS_bk, QS_ct, QF_nx, QF_rt, QL_nx, QL_ct, QL_bk, QL_rt, wipeE, List.set_cons_succ, List.set_cons_zero, List.getElem?_cons_succ, List.getElem?_cons_zero, D.bl.injEq, D.int.injEq, exists_eq_left', exists_eq_left, w_eAnd, w_tTru, tru_bl, if_true, if_false, Bool.false_eq_true]
      refine w_meth ?_
      simp only [w_seq, w_asg, w_ret, w_retN, w_drop, w_brk, w_cnt, w_nil, w_sif, w_c, w_ev, w_bin, w_un, w_anil, w_acons, w_tup, w_lst, w_call, w_tB, w_tNot, w_tAnd, w_tOr, w_eIf, w_isN, w_notN, w_gnm, w_gnils, w_gcns, w_gtp2, w_gtp3, w_gtp2p, w_ixT0, w_ixT1, w_ixT2, w_ch, w_chL, w_chK, w_par2, w_par3, w_add, w_sub, w_neg, w_lt, w_le, w_gt, w_ge, w_abs, w_int, w_intb, w_max2, w_min2, w_pno, w_ppart, w_sl, w_bm, w_yes, w_eqI, w_neI, w_eqB, w_neB, QS_nx, QS_rt, QS_bk, QS_ct, QF_nx, QF_rt, QL_nx, QL_ct, QL_bk, QL_rt, wipeE, List.set_cons_succ, List.set_cons_zero, List.getElem?_cons_succ, List.getElem?_cons_zero, D.bl.injEq, D.int.injEq, exists_eq_left', exists_eq_left, w_eAnd, w_tTru, tru_bl, if_true, if_false, Bool.false_eq_true]
      rw [w_ixL (getL_of h9.al) (lf_at hi)]
      refine ⟨p.an i, _, rfl, acs.1, cf_no.2.2, ?_⟩
      refine (lines_ok acs).mono fun x S9' e => ?_
      obtain ⟨rfl, e⟩ := e
      subst e
      simp only [w_seq, w_asg, w_ret, w_retN, w_drop, w_brk, w_cnt, w_nil, w_sif, w_c, w_ev, w_bin, w_un, w_anil, w_acons, w_tup, w_lst, w_call, w_tB, w_tNot, w_tAnd, w_tOr, w_eIf, w_isN, w_notN, w_gnm, w_gnils, w_gcns, w_gtp2, w_gtp3, w_gtp2p, w_ixT0, w_ixT1, w_ixT2, w_ch, w_chL, w_chK, w_par2, w_par3, w_add, w_sub, w_neg, w_lt, w_le, w_gt, w_ge, w_abs, w_int, w_intb, w_max2, w_min2, w_pno, w_ppart, w_sl, w_bm, w_yes, w_eqI, w_neI, w_eqB, w_neB, QS_nx, QS_rt, QS_bk, QS_ct, QF_nx, QF_rt, QL_nx, QL_ct, QL_bk, QL_rt, wipeE, List.set_cons_succ, List.set_cons_zero, List.getElem?_cons_succ, List.getElem?_cons_zero, D.bl.injEq, D.int.injEq, exists_eq_left', exists_eq_left, w_eAnd, w_tTru, tru_bl, if_true, if_false, Bool.false_eq_true, List.map_cons]
      exact ⟨_, rfl, Ap.refl _, by simp [ItD.fix], fun S2 a i => rfl⟩
    · simp only [w_seq, w_asg, w_ret, w_retN, w_drop, w_brk, w_cnt, w_nil, w_sif, w_c, w_ev, w_bin, w_un, w_anil, w_acons, w_tup, w_lst, w_call, w_tB, w_tNot, w_tAnd, w_tOr, w_eIf, w_isN, w_notN, w_gnm, w_gnils, w_gcns, w_gtp2, w_gtp3, w_gtp2p, w_ixT0, w_ixT1, w_ixT2, w_ch, w_chL, w_chK, w_par2, w_par3, w_add, w_sub, w_neg, w_lt, w_le, w_gt, w_ge, w_abs, w_int, w_intb, w_max2, w_min2, w_pno, w_ppart, w_sl, w_bm, w_yes, w_eqI, w_neI, w_eqB, w_neB, QS_nx, QS_rt, QS_bk, QS_ct, QF_nx, QF_rt, QL_nx, QL_ct, QL_bk, QL_rt, wipeE, List.set_cons_succ, List.set_cons_zero, List.getElem?_cons_succ, List.getElem?_cons_zero, D.bl.injEq, D.int.injEq, exists_eq_left', exists_eq_left, w_eAnd, w_tTru, tru_bl, if_true, if_false, Bool.false_eq_true]
      rw [w_mul (okMul_r (by omega) (by omega))]
      simp only [w_seq, w_asg, w_ret, w_retN, w_drop, w_brk, w_cnt, w_nil, w_sif, w_c, w_ev, w_bin, w_un, w_anil, w_acons, w_tup, w_lst, w_call, w_tB, w_tNot, w_tAnd, w_tOr, w_eIf, w_isN, w_notN, w_gnm, w_gnils, w_gcns, w_gtp2, w_gtp3, w_gtp2p, w_ixT0, w_ixT1, w_ixT2, w_ch, w_chL, w_chK, w_par2, w_par3, w_add, w_sub, w_neg, w_lt, w_le, w_gt, w_ge, w_abs, w_int, w_intb, w_max2, w_min2, w_pno, w_ppart, w_sl, w_bm, w_yes, w_eqI, w_neI, w_eqB, w_neB, QS_nx, QS_rt, QS_bk, QS_ct, QF_nx, QF_rt, QL_nx, QL_ct, QL_bk, QL_rt, wipeE, List.set_cons_succ, List.set_cons_zero, List.getElem?_cons_succ, List.getElem?_cons_zero, D.bl.injEq, D.int.injEq, exists_eq_left', exists_eq_left, w_eAnd, w_tTru, tru_bl, if_true, if_false, Bool.false_eq_true]
      refine ⟨trivial, Ap.refl _, fun _ => ⟨by rw [Int.mul_comm], Ap.refl _⟩⟩
    · rw [filterT] at g10
      rw [w_tupR (getL_of g10)]
      exact ⟨rfl, a10⟩
  · rw [w_tupR (getL_of g9)]
    have er : (List.range s).map (fun i => rwD ((upA A (ix s l) (stA u w (l / s) hh (A (ix s l))) i).map fun y => (s : Int) * y + (i : Nat))) = (stR u s w l hh rows).map rwD := by
      have e9 : List.range s = List.range (stR u s w l hh rows).length := by rw [gs.1]
      rw [e9]
      refine range_map (stR u s w l hh rows) rwD _ fun i x hx => ?_
      have hi : i < s := by rw [← gs.1]; exact (List.getElem?_eq_some_iff.mp hx).1
      rw [gs.2 i hi] at hx
      cases hx
      rfl
    rw [er]
    have okr : ∀ r : List (List Int), okD 20 (.tup (r.map rwD)) = true := fun r => okD_mono (by omega) (okD_map (n := 1) (fun x => okD_map (n := 0) (fun y => rfl) x) r)
    rw [w_neR (okr _)]
    refine ⟨_, rfl, ?_⟩
    rw [if_neg (by decide)]
    have h9 := h8.ap a9
    -- the twin's lines
    refine w_meth ?_
    simp only [w_seq, w_asg, w_ret, w_retN, w_drop, w_brk, w_cnt, w_nil, w_sif, w_c, w_ev, w_bin, w_un, w_anil, w_acons, w_tup, w_lst, w_call, w_tB, w_tNot, w_tAnd, w_tOr, w_eIf, w_isN, w_notN, w_gnm, w_gnils, w_gcns, w_gtp2, w_gtp3, w_gtp2p, w_ixT0, w_ixT1, w_ixT2, w_ch, w_chL, w_chK, w_par2, w_par3, w_add, w_sub, w_neg, w_lt, w_le, w_gt, w_ge, w_abs, w_int, w_intb, w_max2, w_min2, w_pno, w_ppart, w_sl, w_bm, w_yes, w_eqI, w_neI, w_eqB, w_neB, QS_nx, QS_rt, QS_bk, QS_ct, QF_nx, QF_rt, QL_nx, QL_ct, QL_bk, QL_rt, wipeE, List.set_cons_succ, List.set_cons_zero, List.getElem?_cons_succ, List.getElem?_cons_zero, D.bl.injEq, D.int.injEq, exists_eq_left', exists_eq_left, w_eAnd, w_tTru, tru_bl, if_true, if_false, Bool.false_eq_true]
    refine ⟨p.n2, _, rfl, h9.c2.1, cf_no.2.2, ?_⟩
    refine (lines_ok h9.c2).mono fun x S9' e => ?_
    obtain ⟨rfl, e⟩ := e
    subst e
    refine w_lcg (ds := (stR u s w l hh rows).map rwD) (fun i => rwD (((stR u s w l hh rows).getD i []).map (nmF s ds))) ?_ (fun i dd hdd S10 a10 => ?_) (by rw [List.length_map, gg.len]; unfold cap; omega) fun n10 S10 a10 l10 g10 => ?_
    · refine w_iseqT ?_
      refine w_meth ?_
      simp only [w_seq, w_asg, w_ret, w_retN, w_drop, w_brk, w_cnt, w_nil, w_sif, w_c, w_ev, w_bin, w_un, w_anil, w_acons, w_tup, w_lst, w_call, w_tB, w_tNot, w_tAnd, w_tOr, w_eIf, w_isN, w_notN, w_gnm, w_gnils, w_gcns, w_gtp2, w_gtp3, w_gtp2p, w_ixT0, w_ixT1, w_ixT2, w_ch, w_chL, w_chK, w_par2, w_par3, w_add, w_sub, w_neg, w_lt, w_le, w_gt, w_ge, w_abs, w_int, w_intb, w_max2, w_min2, w_pno, w_ppart, w_sl, w_bm, w_yes, w_eqI, w_neI, w_eqB, w_neB, QS_nx, QS_rt, QS_bk, QS_ct, QF_nx, QF_rt, QL_nx, QL_ct, QL_bk, QL_rt, wipeE, List.set_cons_succ, List.set_cons_zero, List.getElem?_cons_succ, List.getElem?_cons_zero, D.bl.injEq, D.int.injEq, exists_eq_left', exists_eq_left, w_eAnd, w_tTru, tru_bl, if_true, if_false, Bool.false_eq_true]
      refine ⟨p.n, _, rfl, h9.c1.1, cf_no.2.2, ?_⟩
      refine (lines_ok h9.c1).mono fun x S9' e => ?_
      obtain ⟨rfl, e⟩ := e
      subst e
      exact ⟨_, rfl, Ap.refl _, by simp [ItD.fix], fun S2 a i => rfl⟩
    · rw [List.getElem?_map] at hdd
      obtain ⟨r, hr, rfl⟩ := Option.map_eq_some_iff.mp hdd
      simp only [w_seq, w_asg, w_ret, w_retN, w_drop, w_brk, w_cnt, w_nil, w_sif, w_c, w_ev, w_bin, w_un, w_anil, w_acons, w_tup, w_lst, w_call, w_tB, w_tNot, w_tAnd, w_tOr, w_eIf, w_isN, w_notN, w_gnm, w_gnils, w_gcns, w_gtp2, w_gtp3, w_gtp2p, w_ixT0, w_ixT1, w_ixT2, w_ch, w_chL, w_chK, w_par2, w_par3, w_add, w_sub, w_neg, w_lt, w_le, w_gt, w_ge, w_abs, w_int, w_intb, w_max2, w_min2, w_pno, w_ppart, w_sl, w_bm, w_yes, w_eqI, w_neI, w_eqB, w_neB, QS_nx, QS_rt, QS_bk, QS_ct, QF_nx, QF_rt, QL_nx, QL_ct, QL_bk, QL_rt, wipeE, List.set_cons_succ, List.set_cons_zero, List.getElem?_cons_succ, List.getElem?_cons_zero, D.bl.injEq, D.int.injEq, exists_eq_left', exists_eq_left, w_eAnd, w_tTru, tru_bl, if_true, if_false, Bool.false_eq_true]
      refine ⟨trivial, Ap.refl _, ?_⟩
      have rl := rwz gn.size hs0 hw4 gg r (List.mem_of_getElem? hr)
      refine w_lci (ns := r) (nmF s ds) (fun _ => true) ?_ (fun y hy S11 a11 => ?_) (by unfold cap; omega) fun n11 S11 a11 l11 g11 => ?_
      · refine w_iseqT ?_
        simp only [w_seq, w_asg, w_ret, w_retN, w_drop, w_brk, w_cnt, w_nil, w_sif, w_c, w_ev, w_bin, w_un, w_anil, w_acons, w_tup, w_lst, w_call, w_tB, w_tNot, w_tAnd, w_tOr, w_eIf, w_isN, w_notN, w_gnm, w_gnils, w_gcns, w_gtp2, w_gtp3, w_gtp2p, w_ixT0, w_ixT1, w_ixT2, w_ch, w_chL, w_chK, w_par2, w_par3, w_add, w_sub, w_neg, w_lt, w_le, w_gt, w_ge, w_abs, w_int, w_intb, w_max2, w_min2, w_pno, w_ppart, w_sl, w_bm, w_yes, w_eqI, w_neI, w_eqB, w_neB, QS_nx, QS_rt, QS_bk, QS_ct, QF_nx, QF_rt, QL_nx, QL_ct, QL_bk, QL_rt, wipeE, List.set_cons_succ, List.set_cons_zero, List.getElem?_cons_succ, List.getElem?_cons_zero, D.bl.injEq, D.int.injEq, exists_eq_left', exists_eq_left, w_eAnd, w_tTru, tru_bl, if_true, if_false, Bool.false_eq_true]
        exact ⟨_, rfl, Ap.refl _, by simp [ItD.fix], fun S2 a i => rfl⟩
      · simp only [w_seq, w_asg, w_ret, w_retN, w_drop, w_brk, w_cnt, w_nil, w_sif, w_c, w_ev, w_bin, w_un, w_anil, w_acons, w_tup, w_lst, w_call, w_tB, w_tNot, w_tAnd, w_tOr, w_eIf, w_isN, w_notN, w_gnm, w_gnils, w_gcns, w_gtp2, w_gtp3, w_gtp2p, w_ixT0, w_ixT1, w_ixT2, w_ch, w_chL, w_chK, w_par2, w_par3, w_add, w_sub, w_neg, w_lt, w_le, w_gt, w_ge, w_abs, w_int, w_intb, w_max2, w_min2, w_pno, w_ppart, w_sl, w_bm, w_yes, w_eqI, w_neI, w_eqB, w_neB, QS_nx, QS_rt, QS_bk, QS_ct, QF_nx, QF_rt, QL_nx, QL_ct, QL_bk, QL_rt, wipeE, List.set_cons_succ, List.set_cons_zero, List.getElem?_cons_succ, List.getElem?_cons_zero, D.bl.injEq, D.int.injEq, exists_eq_left', exists_eq_left, w_eAnd, w_tTru, tru_bl, if_true, if_false, Bool.false_eq_true]
        have yr := gr r (List.mem_of_getElem? hr) y hy
        rw [w_ixD (.inl (a11 _ _ (a10 _ _ h9.nms))) (nmL_lk yr.1 (by omega))]
        exact ⟨trivial, Ap.refl _, fun _ => ⟨by first | rfl | trivial, Ap.refl _⟩⟩
      · rw [filterT] at g11
        rw [w_tupR (getL_of g11)]
        refine ⟨?_, a11⟩
        rw [List.getD_eq_getElem?_getD, hr]
        rfl
    · rw [w_tupR (getL_of g10)]
      have er2 : (List.range ((stR u s w l hh rows).map rwD).length).map (fun i => rwD (((stR u s w l hh rows).getD i []).map (nmF s ds))) = (rn (nmF s ds) (stR u s w l hh rows)).map rwD := by
        rw [List.length_map]
        unfold rn
        rw [List.map_map]
        refine range_map (stR u s w l hh rows) (rwD ∘ fun r : List Int => r.map (nmF s ds)) _ fun i x hx => ?_
        rw [List.getD_eq_getElem?_getD, hx]
        rfl
      rw [er2, w_neR (okr _)]
      refine ⟨_, rfl, ?_⟩
      rw [if_neg (by decide)]
      have h10 := h9.ap a10
      -- the parts
      refine w_lcr (n := s) (lo := 0) (fun i => knD (ptK s (i : Nat) (stK u s w l hh b k)) ((stM u s w l hh b mm).map (ptK s (i : Nat)))) ?_ (fun i hi S11 a11 => ?_) (by unfold cap; omega) fun n11 S11 a11 l11 g11 => ?_
      · refine w_rng1 ?_
        simp only [w_seq, w_asg, w_ret, w_retN, w_drop, w_brk, w_cnt, w_nil, w_sif, w_c, w_ev, w_bin, w_un, w_anil, w_acons, w_tup, w_lst, w_call, w_tB, w_tNot, w_tAnd, w_tOr, w_eIf, w_isN, w_notN, w_gnm, w_gnils, w_gcns, w_gtp2, w_gtp3, w_gtp2p, w_ixT0, w_ixT1, w_ixT2, w_ch, w_chL, w_chK, w_par2, w_par3, w_add, w_sub, w_neg, w_lt, w_le, w_gt, w_ge, w_abs, w_int, w_intb, w_max2, w_min2, w_pno, w_ppart, w_sl, w_bm, w_yes, w_eqI, w_neI, w_eqB, w_neB, QS_nx, QS_rt, QS_bk, QS_ct, QF_nx, QF_rt, QL_nx, QL_ct, QL_bk, QL_rt, wipeE, List.set_cons_succ, List.set_cons_zero, List.getElem?_cons_succ, List.getElem?_cons_zero, D.bl.injEq, D.int.injEq, exists_eq_left', exists_eq_left, w_eAnd, w_tTru, tru_bl, if_true, if_false, Bool.false_eq_true]
        exact ⟨_, rfl, by omega, by omega, by simp [Int.toNat], by trivial⟩
      · rw [w_gnm, Int.zero_add (i : Int)]
        simp only [w_seq, w_asg, w_ret, w_retN, w_drop, w_brk, w_cnt, w_nil, w_sif, w_c, w_ev, w_bin, w_un, w_anil, w_acons, w_tup, w_lst, w_call, w_tB, w_tNot, w_tAnd, w_tOr, w_eIf, w_isN, w_notN, w_gnm, w_gnils, w_gcns, w_gtp2, w_gtp3, w_gtp2p, w_ixT0, w_ixT1, w_ixT2, w_ch, w_chL, w_chK, w_par2, w_par3, w_add, w_sub, w_neg, w_lt, w_le, w_gt, w_ge, w_abs, w_int, w_intb, w_max2, w_min2, w_pno, w_ppart, w_sl, w_bm, w_yes, w_eqI, w_neI, w_eqB, w_neB, QS_nx, QS_rt, QS_bk, QS_ct, QF_nx, QF_rt, QL_nx, QL_ct, QL_bk, QL_rt, wipeE, List.set_cons_succ, List.set_cons_zero, List.getElem?_cons_succ, List.getElem?_cons_zero, D.bl.injEq, D.int.injEq, exists_eq_left', exists_eq_left, w_eAnd, w_tTru, tru_bl, if_true, if_false, Bool.false_eq_true]
        refine ⟨trivial, Ap.refl _, ?_⟩
        exact (part_ok hs0 (by omega) gkk).mono fun x S12 e => ⟨e.1, e.2⟩
      · have h11 := h10.ap a11
        rw [w_neL (ds := (List.range s).map fun i => knD (ptK s (i : Nat) (stK u s w l hh b k)) ((stM u s w l hh b mm).map (ptK s (i : Nat)))) (fun x hx => by
          obtain ⟨i, _, rfl⟩ := List.mem_map.mp hx
          exact okD_mono (by omega) (ok3_kn _ _)) (getL_of g11) (getL_of h11.pt)]
        refine ⟨_, rfl, ?_⟩
        rw [if_neg (by decide)]
        try simp only [w_seq, w_asg, w_ret, w_retN, w_drop, w_brk, w_cnt, w_nil, w_sif, w_c, w_ev, w_bin, w_un, w_anil, w_acons, w_tup, w_lst, w_call, w_tB, w_tNot, w_tAnd, w_tOr, w_eIf, w_isN, w_notN, w_gnm, w_gnils, w_gcns, w_gtp2, w_gtp3, w_gtp2p, w_ixT0, w_ixT1, w_ixT2, w_ch, w_chL, w_chK, w_par2, w_par3, w_add, w_sub, w_neg, w_lt, w_le, w_gt, w_ge, w_abs, w_int, w_intb, w_max2, w_min2, w_pno, w_ppart, w_sl, w_bm, w_yes, w_eqI, w_neI, w_eqB, w_neB, QS_nx, QS_rt, QS_bk, QS_ct, QF_nx, QF_rt, QL_nx, QL_ct, QL_bk, QL_rt, wipeE, List.set_cons_succ, List.set_cons_zero, List.getElem?_cons_succ, List.getElem?_cons_zero, D.bl.injEq, D.int.injEq, exists_eq_left', exists_eq_left, w_eAnd, w_tTru, tru_bl, if_true, if_false, Bool.false_eq_true]
        -- of the cache itself
        refine w_meth ?_
        simp only [w_seq, w_asg, w_ret, w_retN, w_drop, w_brk, w_cnt, w_nil, w_sif, w_c, w_ev, w_bin, w_un, w_anil, w_acons, w_tup, w_lst, w_call, w_tB, w_tNot, w_tAnd, w_tOr, w_eIf, w_isN, w_notN, w_gnm, w_gnils, w_gcns, w_gtp2, w_gtp3, w_gtp2p, w_ixT0, w_ixT1, w_ixT2, w_ch, w_chL, w_chK, w_par2, w_par3, w_add, w_sub, w_neg, w_lt, w_le, w_gt, w_ge, w_abs, w_int, w_intb, w_max2, w_min2, w_pno, w_ppart, w_sl, w_bm, w_yes, w_eqI, w_neI, w_eqB, w_neB, QS_nx, QS_rt, QS_bk, QS_ct, QF_nx, QF_rt, QL_nx, QL_ct, QL_bk, QL_rt, wipeE, List.set_cons_succ, List.set_cons_zero, List.getElem?_cons_succ, List.getElem?_cons_zero, D.bl.injEq, D.int.injEq, exists_eq_left', exists_eq_left, w_eAnd, w_tTru, tru_bl, if_true, if_false, Bool.false_eq_true]
        refine ⟨p.n, _, rfl, h11.c1.1, cf_no.2.2, ?_⟩
        refine (lines_ok h11.c1).mono fun x S11' e => ?_
        obtain ⟨rfl, e⟩ := e
        subst e
        refine (of_cache_ok gg (rwz gn.size hs0 hw4 gg) hs4 hw4).mono fun x S12 e => ?_
        obtain ⟨rfl, a12⟩ := e
        obtain ⟨oc1, oc2⟩ := oc_ck (N := 5 * s) (u := u) hs0 hw gg gr
        have ock : Kk (ocK u w (stR u s w l hh rows)) (some (OR w (stR u s w l hh rows))) := KC.kk (N := 5 * s) ⟨oc1, fun m' e => by cases e; exact oc2⟩ (by omega) hw4
        refine (within_ok ock gkk).mono fun x S13 e => ?_
        obtain ⟨rfl, a13⟩ := e
        rw [oc_within hs0 gg gn gk.k.asc (fun x a e => (gk.k.ok x a e).1) gk.ao]
        simp only [tru_bl, Bool.not_true, Bool.false_eq_true, if_false]
        have h13 := (h11.ap a12).ap a13
        rw [w_len (getL_of h13.hd), List.length_map, d.len]
        refine W_take h13.tape (by omega) (by omega) fun z S14 z0 z1 k14 T14 _ => ?_
        have h14 := h13.take o k14 T14
        refine w_ixr (getL_of h14.hd) z0 (by rw [List.length_map, d.len]; exact z1) fun x hx => ?_
        obtain ⟨km, hkm, rfl⟩ := List.mem_map.mp hx
        refine (sides_ok (N := 5) hs0 hs4 hw4 (by omega) gk (d.held km hkm)).mono fun x S15 e => ?_
        obtain ⟨rfl, a15⟩ := e
        simp only [tru_bl, Bool.not_true, Bool.false_eq_true, if_false]
        have h15 := h14.ap a15
        try simp only [w_seq, w_asg, w_ret, w_retN, w_drop, w_brk, w_cnt, w_nil, w_sif, w_c, w_ev, w_bin, w_un, w_anil, w_acons, w_tup, w_lst, w_call, w_tB, w_tNot, w_tAnd, w_tOr, w_eIf, w_isN, w_notN, w_gnm, w_gnils, w_gcns, w_gtp2, w_gtp3, w_gtp2p, w_ixT0, w_ixT1, w_ixT2, w_ch, w_chL, w_chK, w_par2, w_par3, w_add, w_sub, w_neg, w_lt, w_le, w_gt, w_ge, w_abs, w_int, w_intb, w_max2, w_min2, w_pno, w_ppart, w_sl, w_bm, w_yes, w_eqI, w_neI, w_eqB, w_neB, QS_nx, QS_rt, QS_bk, QS_ct, QF_nx, QF_rt, QL_nx, QL_ct, QL_bk, QL_rt, wipeE, List.set_cons_succ, List.set_cons_zero, List.getElem?_cons_succ, List.getElem?_cons_zero, D.bl.injEq, D.int.injEq, exists_eq_left', exists_eq_left, w_eAnd, w_tTru, tru_bl, if_true, if_false, Bool.false_eq_true]
        refine ⟨tyL h15.hd, ?_⟩
        rw [w_app h15.hd (by rw [List.length_map, d.len]; unfold cap; omega)]
        have fin : LI s w u ds p (stR u s w l hh rows) (upA A (ix s l) (stA u w (l / s) hh (A (ix s l)))) (stK u s w l hh b k) (stM u s w l hh b mm) (hs ++ [(stK u s w l hh b k, stM u s w l hh b mm)]) (S15.set p.hd (.lst ((hs.map fun q => knD q.1 q.2) ++ [knD (stK u s w l hh b k) (stM u s w l hh b mm)]))) := by
          have st : ∀ {q : Nat} {ob : O}, q ≠ p.hd → S15[q]? = some ob → (S15.set p.hd (.lst ((hs.map fun q => knD q.1 q.2) ++ [knD (stK u s w l hh b k) (stM u s w l hh b mm)])))[q]? = some ob := fun z e => by
            rw [List.getElem?_set_ne (Ne.symm z)]
            exact e
          refine ⟨h15.tape.set (by omega) (by omega), st (by omega) h15.nms, ⟨st (by omega) h15.c1.1, st (by omega) h15.c1.2.1, h15.c1.2.2⟩, ⟨st (by omega) h15.c2.1, st (by omega) h15.c2.2.1, h15.c2.2.2⟩, st (by omega) h15.al, fun i hi => ?_, st (by omega) h15.pt, ?_⟩
          · have := o.h2 i hi
            have c := h15.ac i hi
            exact ⟨st (by omega) c.1, st (by omega) c.2.1, c.2.2⟩
          · rw [set_at h15.hd, List.map_append]
            rfl
        refine hN _ _ _ _ _ _ _ _ _ _ _ _ _ _ _ _ _ _ ⟨gg, gs, gn, gk, gr, fun q hq => ?_, by rw [List.length_append, d.len]; rfl⟩ fin
        rcases List.mem_append.mp hq with hq | hq
        · exact d.held q hq
        · rw [List.mem_singleton.mp hq]
          exact gk
end
end K50
/-! K50l: the start, and the law. -/
namespace K50
open PySem L2 FL M51
section
variable {s w : Nat} {u : Bool} {ds : List Int} {rs : List (List Int)} {S S' : Sto} {Q : D → Sto → Prop}
abbrev e27 (x1 x2 x3 x4 x5 x6 x7 x8 x9 x10 x11 x12 x13 x14 x15 : Option D) : FL.Env := [some (.ref 0), x1, x2, x3, x4, x5, x6, x7, x8, x9, x10, x11, x12, x13, x14, x15, none, none, none, none, none, none, none, none, none, none, none]
theorem make_ok {s w : Nat} {u : Bool} {rows : List (List Int)} {fr : FA} {env : FL.Env} (hz : rows.length ≤ 1000) (h : W (fr env S) fun ds S1 => ds = [tD s w u, .tup (rows.map rwD)] ∧ Ap S S1) (hq : ∀ n m S', Ap S S' → S.length ≤ n → n < m → CA S' s w u n m rows → Q (.ref n) S') : W (eMake "Cache" f_Cache___init__ fr env S) Q := by
  refine w_make (h.mono fun ds S1 e => ?_)
  obtain ⟨rfl, a⟩ := e
  refine (init_ok (rows := rows) hz (new_at _ _)).mono fun d S2 e => ?_
  obtain ⟨m, rfl, c, k, l⟩ := e
  rw [List.length_append] at l
  refine ⟨rfl, hq _ m S2 (fun q o e => ?_) a.len (by simp at l; omega) c⟩
  have e1 := a _ _ e
  exact k _ _ (by have := lt_of_at e1; omega) (Ap.app _ _ _ _ e1)
theorem L_mono {L : Nat → Nat} (h : ∀ i, L i ≤ L (i + 1)) {j k : Nat} (hjk : j ≤ k) : L j ≤ L k := by
  induction k with
  | zero =>
    have : j = 0 := by omega
    subst this
    exact Nat.le_refl _
  | succ k ih =>
    by_cases e : j = k + 1
    · subst e
      exact Nat.le_refl _
    · exact Nat.le_trans (ih (by omega)) (h k)
def A0 (s : Nat) (rs : List (List Int)) : Nat → List Int := fun i => (rs.getD i []).map fun l => l / (s : Int)
theorem side0 (hs : 0 < s) (g : Good s rs) : Side s rs (A0 s rs) := by
  refine ⟨g.len, fun i hi => ?_⟩
  obtain ⟨r0, e⟩ : ∃ r0, rs[i]? = some r0 := ⟨_, List.getElem?_eq_getElem (show i < rs.length by rw [g.len]; exact hi)⟩
  unfold A0
  rw [List.getD_eq_getElem?_getD, e]
  show some r0 = some ((r0.map fun l => l / (s : Int)).map fun y => (s : Int) * y + (i : Nat))
  rw [List.map_map]
  congr 1
  have : ∀ r : List Int, (∀ l ∈ r, l % (s : Int) = (i : Int)) → r = r.map ((fun y => (s : Int) * y + (i : Nat)) ∘ fun l => l / (s : Int)) := fun r => by
    induction r with
    | nil => intro _; rfl
    | cons l r ih =>
      intro h
      rw [List.map_cons, ← ih fun x hx => h x (List.mem_cons_of_mem _ hx)]
      have := h l List.mem_cons_self
      have d := Int.emod_add_mul_ediv l s
      rw [this] at d
      show l :: r = ((s : Int) * (l / s) + (i : Nat)) :: r
      rw [show (s : Int) * (l / s) + (i : Nat) = l by omega]
  exact this _ fun l hl => g.md i _ l e hl
theorem good0 (hl : rs.length = s) (hr : ∀ i r, rs[i]? = some r → RW s i w r) : Good s rs := ⟨hl, fun i r h => (hr i r h).nd, fun i r l h hl => (hr i r h).md l hl⟩
theorem rest2_ok {tp tm nd : Nat} {x7 : Option D} {QO : Out → Sto → Prop} (hs : 0 < s) (hs4 : s ≤ 4) (hw : 0 < w) (hw4 : w ≤ 4) (hD : Drw ds) (hl5 : ds.length = 5 * s) (hT : Tape S tp tm) (o1 : tp < nd) (o2 : tm < nd) (gn : S[nd]? = some (.dic ((nmL s ds).map kvI)))
    (hl : rs.length = s) (hr : ∀ i r, rs[i]? = some r → RW s i w r) (hN : ∀ S', QO (.rt (.bl true)) S') :
    W ((sSeq (sAsg (eCall fTuple (aCons (eLc (iSeq (eVar 5)) (gNm 24) (tYs) (eCall fTuple (aCons (eLc (iSeq (eVar 24)) (gNm 7) (tYs) (eBin oIx (eVar 6) (eVar 7)) [7]) (aNil))) [24]) (aNil))) (gNm 8)) (sSeq (sIf (tOr (tNot (tTru (eCall f_is_start (aCons (eVar 2) (aCons (eVar 5) (aNil)))))) (tNot (tTru (eCall f_is_start (aCons (eVar 2) (aCons (eVar 8) (aNil))))))) (sRet (eC (.bl false))) (sNil)) (sSeq (sAsg (eTup (aCons (eMake "Cache" f_Cache___init__ (aCons (eVar 2) (aCons (eVar 5) (aNil)))) (aCons (eMake "Cache" f_Cache___init__ (aCons (eVar 2) (aCons (eVar 8) (aNil)))) (aCons (eLc (FL.iRng1 (aCons (eVar 3) (aNil))) (gNm 18) (tYs) (eMake "Cache" f_Cache___init__ (aCons (eVar 4) (aCons (eTup (aCons (eCall fTuple (aCons (eLc (iSeq (eBin oIx (eVar 5) (eVar 18))) (gNm 7) (tYs) (eBin oDiv (eCall fInt (aCons (eVar 7) (aNil))) (eVar 3)) [7]) (aNil))) (aNil))) (aNil)))) [18]) (aNil))))) (gTp 3 (gCns (gNm 9) (gCns (gNm 10) (gCns (gNm 11) (gNils)))))) (sSeq (sAsg (eIf (FL.tB (eBin oGt (eCall f__law_take (aCons (eVar 1) (aCons (eC (.int 3)) (aNil)))) (eC (.int 0)))) (eCall f_of_cache (aCons (eVar 2) (aCons (eVar 5) (aNil)))) (eCall f_anything aNil)) (gNm 12)) (sSeq (sPar [13, 14] (aCons (eCall f__law_named (aCons (eVar 12) (aCons (eVar 6) (aNil)))) (aCons (eLc (FL.iRng1 (aCons (eVar 3) (aNil))) (gNm 18) (tYs) (eCall f__law_part_of (aCons (eVar 12) (aCons (eVar 3) (aCons (eVar 18) (aNil))))) [18]) (aNil)))) (sSeq (sAsg (eLst (aCons (eVar 12) (aNil))) (gNm 15)) (sSeq (sFor (FL.iRng1 (aCons (eC (.int 24)) (aNil))) (gNm 16) (sSeq (sPar [7, 17] (aCons (eCall f__law_take (aCons (eVar 1) (aCons (eBin oMul (eC (.int 5)) (eVar 3)) (aNil)))) (aCons (eCall f__law_take (aCons (eVar 1) (aCons (eC (.int 4)) (aNil)))) (aNil)))) (sSeq (sAsg (eBin oMod (eCall fInt (aCons (eVar 7) (aNil))) (eVar 3)) (gNm 18)) (sSeq (sAsg (eCall f__law_step (aCons (eVar 2) (aCons (eVar 9) (aCons (eVar 12) (aCons (eVar 7) (aCons (eVar 17) (aNil))))))) (gTp 3 (gCns (gNm 19) (gCns (gNm 20) (gCns (gNm 21) (gNils)))))) (sSeq (sAsg (eCall f__law_step (aCons (eVar 2) (aCons (eVar 10) (aCons (eVar 13) (aCons (eBin oIx (eVar 6) (eVar 7)) (aCons (eVar 17) (aNil))))))) (gNm 22)) (sSeq (sAsg (eCall f__law_step (aCons (eVar 4) (aCons (eBin oIx (eVar 11) (eVar 18)) (aCons (eBin oIx (eVar 14) (eVar 18)) (aCons (eBin oDiv (eCall fInt (aCons (eVar 7) (aNil))) (eVar 3)) (aCons (eVar 17) (aNil))))))) (gNm 23)) (sSeq (sIf (tOr (FL.tB (eBin oNotIn (eVar 19) (eVar 20))) (tOr (FL.tB (eBin oNe (eSl (eVar 22) pNo (pPart (eC (.int 2)))) (eTup (aCons (eVar 19) (aCons (eVar 20) (aNil)))))) (tOr (FL.tB (eBin oNe (eSl (eVar 23) pNo (pPart (eC (.int 2)))) (eTup (aCons (eVar 19) (aCons (eVar 20) (aNil)))))) (tOr (FL.tB (eBin oNe (eBin oIx (eVar 22) (eC (.int 2))) (eCall f__law_named (aCons (eVar 21) (aCons (eVar 6) (aNil)))))) (FL.tB (eBin oNe (eBin oIx (eVar 23) (eC (.int 2))) (eCall f__law_part_of (aCons (eVar 21) (aCons (eVar 3) (aCons (eVar 18) (aNil))))))))))) (sRet (eC (.bl false))) (sNil)) (sSeq (sAsg (eTup (aCons (eVar 21) (aCons (eBin oIx (eVar 22) (eC (.int 2))) (aCons (eBin oIx (eVar 23) (eC (.int 2))) (aNil))))) (gTp 3 (gCns (gNm 12) (gCns (gNm 13) (gCns (gIx (eVar 14) (eVar 18)) (gNils)))))) (sSeq (sIf (FL.tB (eBin oNe (eMeth "Cache" "lines" f_Cache_lines (eVar 9) aNil) (eCall fTuple (aCons (eLc (FL.iRng1 (aCons (eVar 3) (aNil))) (gNm 25) (tYs) (eCall fTuple (aCons (eLc (iSeq (eBin oIx (eMeth "Cache" "lines" f_Cache_lines (eBin oIx (eVar 11) (eVar 25)) aNil) (eC (.int 0)))) (gNm 26) (tYs) (eBin oAdd (eBin oMul (eVar 26) (eVar 3)) (eVar 25)) [26]) (aNil))) [25]) (aNil))))) (sRet (eC (.bl false))) (sNil)) (sSeq (sIf (tOr (FL.tB (eBin oNe (eMeth "Cache" "lines" f_Cache_lines (eVar 10) aNil) (eCall fTuple (aCons (eLc (iSeq (eMeth "Cache" "lines" f_Cache_lines (eVar 9) aNil)) (gNm 24) (tYs) (eCall fTuple (aCons (eLc (iSeq (eVar 24)) (gNm 26) (tYs) (eBin oIx (eVar 6) (eVar 26)) [26]) (aNil))) [24]) (aNil))))) (FL.tB (eBin oNe (eLc (FL.iRng1 (aCons (eVar 3) (aNil))) (gNm 25) (tYs) (eCall f__law_part_of (aCons (eVar 12) (aCons (eVar 3) (aCons (eVar 25) (aNil))))) [25]) (eVar 14)))) (sRet (eC (.bl false))) (sNil)) (sSeq (sIf (tOr (tNot (tTru (eCall f_is_known_within (aCons (eCall f_of_cache (aCons (eVar 2) (aCons (eMeth "Cache" "lines" f_Cache_lines (eVar 9) aNil) (aNil)))) (aCons (eVar 12) (aNil)))))) (tNot (tTru (eCall f__law_sides (aCons (eVar 2) (aCons (eVar 12) (aCons (eBin oIx (eVar 15) (eCall f__law_take (aCons (eVar 1) (aCons (eCall fLen (aCons (eVar 15) (aNil))) (aNil))))) (aNil)))))))) (sRet (eC (.bl false))) (sNil)) (sDrop (eBm "list" mAppend (eVar 15) (aCons (eVar 12) (aNil))))))))))))))) (sRet (eC (.bl true)))))))))) (e27 (some (.ref tp)) (some (tD s w u)) (some (.int s)) (some (tD 1 w u)) (some (.tup (rs.map rwD))) (some (.ref nd)) x7 none none none none none none none none) S) QO := by
  have ss0 : 0 < (s : Int) := by omega
  have ss1 : (s : Int) < 18446744073709551616 := by omega
  have g0 := good0 hl hr
  have nm := nmF_nam hs hD
  have rl : ∀ r ∈ rs, r.length ≤ w := fun r h => by
    obtain ⟨i, hi⟩ := List.mem_iff_getElem?.mp h
    exact (hr i r hi).len
  have rg : Rg s rs := fun r h x hx => by
    obtain ⟨i, hi⟩ := List.mem_iff_getElem?.mp h
    exact (hr i r hi).rg x hx
  have rw0 : ∀ x, (row s rs x).length ≤ w := fun x => rl _ (List.mem_of_getElem? (g0.row hs x))
  -- other
  rw [w_seq]
  simp only [w_asg, w_call, w_acons, w_anil]
  refine w_lcg (ds := rs.map rwD) (fun i => rwD ((rs.getD i []).map (nmF s ds))) ?_ (fun i dd hdd S1 a1 => ?_) (by rw [List.length_map, hl]; unfold cap; omega) fun n1 S1 a1 l1 g1 => ?_
  · refine w_iseqT ?_
    simp only [w_seq, w_asg, w_ret, w_retN, w_drop, w_brk, w_cnt, w_nil, w_sif, w_c, w_ev, w_bin, w_un, w_anil, w_acons, w_tup, w_lst, w_call, w_tB, w_tNot, w_tAnd, w_tOr, w_eIf, w_isN, w_notN, w_gnm, w_gnils, w_gcns, w_gtp2, w_gtp3, w_gtp2p, w_ixT0, w_ixT1, w_ixT2, w_ch, w_chL, w_chK, w_par2, w_par3, w_add, w_sub, w_neg, w_lt, w_le, w_gt, w_ge, w_abs, w_int, w_intb, w_max2, w_min2, w_pno, w_ppart, w_sl, w_bm, w_yes, w_eqI, w_neI, w_eqB, w_neB, QS_nx, QS_rt, QS_bk, QS_ct, QF_nx, QF_rt, QL_nx, QL_ct, QL_bk, QL_rt, wipeE, List.set_cons_succ, List.set_cons_zero, List.getElem?_cons_succ, List.getElem?_cons_zero, D.bl.injEq, D.int.injEq, exists_eq_left', exists_eq_left, w_eAnd, w_tTru, tru_bl, if_true, if_false, Bool.false_eq_true]
    exact ⟨_, rfl, Ap.refl _, by simp [ItD.fix], fun S2 a i => rfl⟩
  · rw [List.getElem?_map] at hdd
    obtain ⟨r, hrr, rfl⟩ := Option.map_eq_some_iff.mp hdd
    simp only [w_seq, w_asg, w_ret, w_retN, w_drop, w_brk, w_cnt, w_nil, w_sif, w_c, w_ev, w_bin, w_un, w_anil, w_acons, w_tup, w_lst, w_call, w_tB, w_tNot, w_tAnd, w_tOr, w_eIf, w_isN, w_notN, w_gnm, w_gnils, w_gcns, w_gtp2, w_gtp3, w_gtp2p, w_ixT0, w_ixT1, w_ixT2, w_ch, w_chL, w_chK, w_par2, w_par3, w_add, w_sub, w_neg, w_lt, w_le, w_gt, w_ge, w_abs, w_int, w_intb, w_max2, w_min2, w_pno, w_ppart, w_sl, w_bm, w_yes, w_eqI, w_neI, w_eqB, w_neB, QS_nx, QS_rt, QS_bk, QS_ct, QF_nx, QF_rt, QL_nx, QL_ct, QL_bk, QL_rt, wipeE, List.set_cons_succ, List.set_cons_zero, List.getElem?_cons_succ, List.getElem?_cons_zero, D.bl.injEq, D.int.injEq, exists_eq_left', exists_eq_left, w_eAnd, w_tTru, tru_bl, if_true, if_false, Bool.false_eq_true]
    refine ⟨trivial, Ap.refl _, ?_⟩
    have := rl r (List.mem_of_getElem? hrr)
    refine w_lci (ns := r) (nmF s ds) (fun _ => true) ?_ (fun y hy S2 a2 => ?_) (by unfold cap; omega) fun n2 S2 a2 l2 g2 => ?_
    · refine w_iseqT ?_
      simp only [w_seq, w_asg, w_ret, w_retN, w_drop, w_brk, w_cnt, w_nil, w_sif, w_c, w_ev, w_bin, w_un, w_anil, w_acons, w_tup, w_lst, w_call, w_tB, w_tNot, w_tAnd, w_tOr, w_eIf, w_isN, w_notN, w_gnm, w_gnils, w_gcns, w_gtp2, w_gtp3, w_gtp2p, w_ixT0, w_ixT1, w_ixT2, w_ch, w_chL, w_chK, w_par2, w_par3, w_add, w_sub, w_neg, w_lt, w_le, w_gt, w_ge, w_abs, w_int, w_intb, w_max2, w_min2, w_pno, w_ppart, w_sl, w_bm, w_yes, w_eqI, w_neI, w_eqB, w_neB, QS_nx, QS_rt, QS_bk, QS_ct, QF_nx, QF_rt, QL_nx, QL_ct, QL_bk, QL_rt, wipeE, List.set_cons_succ, List.set_cons_zero, List.getElem?_cons_succ, List.getElem?_cons_zero, D.bl.injEq, D.int.injEq, exists_eq_left', exists_eq_left, w_eAnd, w_tTru, tru_bl, if_true, if_false, Bool.false_eq_true]
      exact ⟨_, rfl, Ap.refl _, by simp [ItD.fix], fun S2 a i => rfl⟩
    · simp only [w_seq, w_asg, w_ret, w_retN, w_drop, w_brk, w_cnt, w_nil, w_sif, w_c, w_ev, w_bin, w_un, w_anil, w_acons, w_tup, w_lst, w_call, w_tB, w_tNot, w_tAnd, w_tOr, w_eIf, w_isN, w_notN, w_gnm, w_gnils, w_gcns, w_gtp2, w_gtp3, w_gtp2p, w_ixT0, w_ixT1, w_ixT2, w_ch, w_chL, w_chK, w_par2, w_par3, w_add, w_sub, w_neg, w_lt, w_le, w_gt, w_ge, w_abs, w_int, w_intb, w_max2, w_min2, w_pno, w_ppart, w_sl, w_bm, w_yes, w_eqI, w_neI, w_eqB, w_neB, QS_nx, QS_rt, QS_bk, QS_ct, QF_nx, QF_rt, QL_nx, QL_ct, QL_bk, QL_rt, wipeE, List.set_cons_succ, List.set_cons_zero, List.getElem?_cons_succ, List.getElem?_cons_zero, D.bl.injEq, D.int.injEq, exists_eq_left', exists_eq_left, w_eAnd, w_tTru, tru_bl, if_true, if_false, Bool.false_eq_true]
      have yr := rg r (List.mem_of_getElem? hrr) y hy
      rw [w_ixD (.inl (a2 _ _ (a1 _ _ gn))) (nmL_lk yr.1 (by omega))]
      exact ⟨trivial, Ap.refl _, fun _ => ⟨by first | rfl | trivial, Ap.refl _⟩⟩
    · rw [filterT] at g2
      rw [w_tupR (getL_of g2)]
      refine ⟨?_, a2⟩
      rw [List.getD_eq_getElem?_getD, hrr]
      rfl
  rw [w_tupR (getL_of g1)]
  have er : (List.range (rs.map rwD).length).map (fun i => rwD ((rs.getD i []).map (nmF s ds))) = (rn (nmF s ds) rs).map rwD := by
    rw [List.length_map]
    unfold rn
    rw [List.map_map]
    refine range_map rs (rwD ∘ fun r : List Int => r.map (nmF s ds)) _ fun i x hx => ?_
    rw [List.getD_eq_getElem?_getD, hx]
    rfl
  rw [er]
  simp only [w_gnm, List.set_cons_succ, List.set_cons_zero, QS_nx]
  -- starts
  rw [w_seq]
  simp only [w_sif, w_tOr, w_tNot, w_tTru, w_call, w_acons, w_anil, w_ev, List.getElem?_cons_succ, List.getElem?_cons_zero]
  have gr2 := Good.rn (rows := rs) nm g0
  refine (is_start_ok hs g0 rl hs4 hw4).mono fun d S2 e => ?_
  obtain ⟨rfl, a2⟩ := e
  simp only [tru_bl, Bool.not_true, Bool.false_eq_true, if_false]
  refine (is_start_ok hs gr2 (fun r h => by
    obtain ⟨r0, h0, rfl⟩ := List.mem_map.mp h
    rw [List.length_map]
    exact rl r0 h0) hs4 hw4).mono fun d S3 e => ?_
  obtain ⟨rfl, a3⟩ := e
  simp only [tru_bl, Bool.not_true, Bool.false_eq_true, if_false, w_nil, QS_nx]
  have T3 := ((hT.ap a1).ap a2).ap a3
  have n3 := a3 _ _ (a2 _ _ (a1 _ _ gn))
  have ln3 := lt_of_at n3
  -- caches
  rw [w_seq]
  simp only [w_asg, w_tup, w_acons, w_anil]
  refine make_ok (rows := rs) (by omega) (by simp only [w_seq, w_asg, w_ret, w_retN, w_drop, w_brk, w_cnt, w_nil, w_sif, w_c, w_ev, w_bin, w_un, w_anil, w_acons, w_tup, w_lst, w_call, w_tB, w_tNot, w_tAnd, w_tOr, w_eIf, w_isN, w_notN, w_gnm, w_gnils, w_gcns, w_gtp2, w_gtp3, w_gtp2p, w_ixT0, w_ixT1, w_ixT2, w_ch, w_chL, w_chK, w_par2, w_par3, w_add, w_sub, w_neg, w_lt, w_le, w_gt, w_ge, w_abs, w_int, w_intb, w_max2, w_min2, w_pno, w_ppart, w_sl, w_bm, w_yes, w_eqI, w_neI, w_eqB, w_neB, QS_nx, QS_rt, QS_bk, QS_ct, QF_nx, QF_rt, QL_nx, QL_ct, QL_bk, QL_rt, wipeE, List.set_cons_succ, List.set_cons_zero, List.getElem?_cons_succ, List.getElem?_cons_zero, D.bl.injEq, D.int.injEq, exists_eq_left', exists_eq_left, w_eAnd, w_tTru, tru_bl, if_true, if_false, Bool.false_eq_true]; first | exact ⟨rfl, Ap.refl _⟩ | exact ⟨trivial, Ap.refl _⟩) fun n m S4 a4 l4 nm4 c4 => ?_
  refine make_ok (rows := rn (nmF s ds) rs) (by rw [List.length_map]; omega) (by simp only [w_seq, w_asg, w_ret, w_retN, w_drop, w_brk, w_cnt, w_nil, w_sif, w_c, w_ev, w_bin, w_un, w_anil, w_acons, w_tup, w_lst, w_call, w_tB, w_tNot, w_tAnd, w_tOr, w_eIf, w_isN, w_notN, w_gnm, w_gnils, w_gcns, w_gtp2, w_gtp3, w_gtp2p, w_ixT0, w_ixT1, w_ixT2, w_ch, w_chL, w_chK, w_par2, w_par3, w_add, w_sub, w_neg, w_lt, w_le, w_gt, w_ge, w_abs, w_int, w_intb, w_max2, w_min2, w_pno, w_ppart, w_sl, w_bm, w_yes, w_eqI, w_neI, w_eqB, w_neB, QS_nx, QS_rt, QS_bk, QS_ct, QF_nx, QF_rt, QL_nx, QL_ct, QL_bk, QL_rt, wipeE, List.set_cons_succ, List.set_cons_zero, List.getElem?_cons_succ, List.getElem?_cons_zero, D.bl.injEq, D.int.injEq, exists_eq_left', exists_eq_left, w_eAnd, w_tTru, tru_bl, if_true, if_false, Bool.false_eq_true]; first | exact ⟨rfl, Ap.refl _⟩ | exact ⟨trivial, Ap.refl _⟩) fun n2 m2 S5 a5 l5 nm5 c5 => ?_
  have lm4 := lt_of_at c4.2.1
  have lm5 := lt_of_at c5.2.1
  refine w_lcq (ds := rngD 0 s) (fun lo hi i y S => ∃ c m, y = .ref c ∧ CA S 1 w u c m [A0 s rs i] ∧ lo ≤ c ∧ c < hi ∧ lo ≤ m ∧ m < hi) ?_ ?_ (fun i d hd S6 a6 l6 => ?_) (by rw [rng_len]; unfold cap; omega) fun al S6 ys L a6 p6 g6 ly L0 Lm Le hP => ?_
  · rintro lo hi i y S S' sp ⟨c, m, rfl, h, h1, h2, h3, h4⟩
    exact ⟨c, m, rfl, ⟨sp _ h1 h2 _ h.1, sp _ h3 h4 _ h.2.1, h.2.2⟩, h1, h2, h3, h4⟩
  · refine w_rng1 ?_
    simp only [w_seq, w_asg, w_ret, w_retN, w_drop, w_brk, w_cnt, w_nil, w_sif, w_c, w_ev, w_bin, w_un, w_anil, w_acons, w_tup, w_lst, w_call, w_tB, w_tNot, w_tAnd, w_tOr, w_eIf, w_isN, w_notN, w_gnm, w_gnils, w_gcns, w_gtp2, w_gtp3, w_gtp2p, w_ixT0, w_ixT1, w_ixT2, w_ch, w_chL, w_chK, w_par2, w_par3, w_add, w_sub, w_neg, w_lt, w_le, w_gt, w_ge, w_abs, w_int, w_intb, w_max2, w_min2, w_pno, w_ppart, w_sl, w_bm, w_yes, w_eqI, w_neI, w_eqB, w_neB, QS_nx, QS_rt, QS_bk, QS_ct, QF_nx, QF_rt, QL_nx, QL_ct, QL_bk, QL_rt, wipeE, List.set_cons_succ, List.set_cons_zero, List.getElem?_cons_succ, List.getElem?_cons_zero, D.bl.injEq, D.int.injEq, exists_eq_left', exists_eq_left, w_eAnd, w_tTru, tru_bl, if_true, if_false, Bool.false_eq_true]
    exact ⟨_, rfl, by omega, by omega, Ap.refl _, by simp [ItD.fix, Int.toNat], fun S2 a i => by simp [ItD.fix, Int.toNat]⟩
  · obtain ⟨rfl, hi⟩ := rng_get hd
    rw [w_gnm, Int.zero_add (i : Int)]
    simp only [List.set_cons_succ, List.set_cons_zero, wipeE]
    rw [w_yes]
    refine ⟨rfl, Ap.refl _, ?_⟩
    refine make_ok (s := 1) (w := w) (u := u) (rows := [A0 s rs i]) (by simp) ?_ fun c m S7 a7 l7 nm7 c7 => ?_
    · simp only [w_seq, w_asg, w_ret, w_retN, w_drop, w_brk, w_cnt, w_nil, w_sif, w_c, w_ev, w_bin, w_un, w_anil, w_acons, w_tup, w_lst, w_call, w_tB, w_tNot, w_tAnd, w_tOr, w_eIf, w_isN, w_notN, w_gnm, w_gnils, w_gcns, w_gtp2, w_gtp3, w_gtp2p, w_ixT0, w_ixT1, w_ixT2, w_ch, w_chL, w_chK, w_par2, w_par3, w_add, w_sub, w_neg, w_lt, w_le, w_gt, w_ge, w_abs, w_int, w_intb, w_max2, w_min2, w_pno, w_ppart, w_sl, w_bm, w_yes, w_eqI, w_neI, w_eqB, w_neB, QS_nx, QS_rt, QS_bk, QS_ct, QF_nx, QF_rt, QL_nx, QL_ct, QL_bk, QL_rt, wipeE, List.set_cons_succ, List.set_cons_zero, List.getElem?_cons_succ, List.getElem?_cons_zero, D.bl.injEq, D.int.injEq, exists_eq_left', exists_eq_left, w_eAnd, w_tTru, tru_bl, if_true, if_false, Bool.false_eq_true]
      have e := List.getElem?_eq_getElem (show i < rs.length by omega)
      have az : (rs[i]'(by omega)).length ≤ w := rl _ (List.getElem_mem _)
      refine w_lci (ns := rs[i]'(by omega)) (fun l => l / (s : Int)) (fun _ => true) ?_ (fun y hy S8 a8 => ?_) (by unfold cap; omega) fun n8 S8 a8 l8 g8 => ?_
      · refine w_iseqT ?_
        simp only [w_seq, w_asg, w_ret, w_retN, w_drop, w_brk, w_cnt, w_nil, w_sif, w_c, w_ev, w_bin, w_un, w_anil, w_acons, w_tup, w_lst, w_call, w_tB, w_tNot, w_tAnd, w_tOr, w_eIf, w_isN, w_notN, w_gnm, w_gnils, w_gcns, w_gtp2, w_gtp3, w_gtp2p, w_ixT0, w_ixT1, w_ixT2, w_ch, w_chL, w_chK, w_par2, w_par3, w_add, w_sub, w_neg, w_lt, w_le, w_gt, w_ge, w_abs, w_int, w_intb, w_max2, w_min2, w_pno, w_ppart, w_sl, w_bm, w_yes, w_eqI, w_neI, w_eqB, w_neB, QS_nx, QS_rt, QS_bk, QS_ct, QF_nx, QF_rt, QL_nx, QL_ct, QL_bk, QL_rt, wipeE, List.set_cons_succ, List.set_cons_zero, List.getElem?_cons_succ, List.getElem?_cons_zero, D.bl.injEq, D.int.injEq, exists_eq_left', exists_eq_left, w_eAnd, w_tTru, tru_bl, if_true, if_false, Bool.false_eq_true]
        rw [w_ixT (d := rwD (rs[i]'(by omega))) (by
          refine FL.atI_nat ?_
          rw [List.getElem?_map, e]
          rfl)]
        exact ⟨_, rfl, Ap.refl _, by simp [ItD.fix], fun S2 a i => rfl⟩
      · simp only [w_seq, w_asg, w_ret, w_retN, w_drop, w_brk, w_cnt, w_nil, w_sif, w_c, w_ev, w_bin, w_un, w_anil, w_acons, w_tup, w_lst, w_call, w_tB, w_tNot, w_tAnd, w_tOr, w_eIf, w_isN, w_notN, w_gnm, w_gnils, w_gcns, w_gtp2, w_gtp3, w_gtp2p, w_ixT0, w_ixT1, w_ixT2, w_ch, w_chL, w_chK, w_par2, w_par3, w_add, w_sub, w_neg, w_lt, w_le, w_gt, w_ge, w_abs, w_int, w_intb, w_max2, w_min2, w_pno, w_ppart, w_sl, w_bm, w_yes, w_eqI, w_neI, w_eqB, w_neB, QS_nx, QS_rt, QS_bk, QS_ct, QF_nx, QF_rt, QL_nx, QL_ct, QL_bk, QL_rt, wipeE, List.set_cons_succ, List.set_cons_zero, List.getElem?_cons_succ, List.getElem?_cons_zero, D.bl.injEq, D.int.injEq, exists_eq_left', exists_eq_left, w_eAnd, w_tTru, tru_bl, if_true, if_false, Bool.false_eq_true]
        rw [w_div ss0 ss1]
        exact ⟨trivial, Ap.refl _, fun _ => ⟨by first | rfl | trivial, Ap.refl _⟩⟩
      · rw [filterT] at g8
        rw [w_tupR (getL_of g8)]
        refine ⟨by show 1 ≤ 10000000; decide, ?_, a8⟩
        unfold A0
        rw [List.getD_eq_getElem?_getD, e]
        rfl
    · exact ⟨a7, c, m, rfl, c7, l7, lt_of_at c7.1, by omega, lt_of_at c7.2.1⟩
  obtain ⟨f, rfl, hf⟩ := lf_of (n := s) (by rw [ly, rng_len]) (fun i hi => hP i (by rw [rng_len]; exact hi))
  clear hP ly
  rw [rng_len] at Le
  have ⟨an, am, hnm⟩ : ∃ n m : Nat → Nat, ∀ i, i < s → f i = .ref (n i) ∧ CA S6 1 w u (n i) (m i) [A0 s rs i] ∧ L i ≤ n i ∧ n i < L (i + 1) ∧ L i ≤ m i ∧ m i < L (i + 1) := by
    have h : ∀ i, ∃ c m, i < s → f i = .ref c ∧ CA S6 1 w u c m [A0 s rs i] ∧ L i ≤ c ∧ c < L (i + 1) ∧ L i ≤ m ∧ m < L (i + 1) := fun i => by
      by_cases hi : i < s
      · obtain ⟨c, m, h⟩ := hf i hi
        exact ⟨c, m, fun _ => h⟩
      · exact ⟨0, 0, fun z => absurd z hi⟩
    exact ⟨fun i => Classical.choose (h i), fun i => Classical.choose (Classical.choose_spec (h i)), fun i hi => Classical.choose_spec (Classical.choose_spec (h i)) hi⟩
  rw [lf_congr fun k hk => (hnm k hk).1] at g6
  clear hf
  refine ⟨by show 3 ≤ 10000000; decide, ?_⟩
  simp only [w_gtp3, w_gcns, w_gnm, w_gnils, List.set_cons_succ, List.set_cons_zero, QS_nx]
  have T6 := ((T3.ap a4).ap a5).ap a6
  have n6 := a6 _ _ (a5 _ _ (a4 _ _ n3))
  have c46 := (c4.ap a5).ap a6
  have c56 := c5.ap a6
  -- known
  have known : ∀ (QO : Out → Sto → Prop) (env : FL.Env), env = e27 (some (.ref tp)) (some (tD s w u)) (some (.int s)) (some (tD 1 w u)) (some (.tup (rs.map rwD))) (some (.ref nd)) x7 (some (.tup ((rn (nmF s ds) rs).map rwD))) (some (.ref n)) (some (.ref n2)) (some (.ref al)) none none none none →
      (∀ k mm S', Kn tp S6 S' → S6.length ≤ S'.length → Tape S' tp tm → SND u s w rs k mm → KC (5 * s) w u k mm → QO (.nx (e27 (some (.ref tp)) (some (tD s w u)) (some (.int s)) (some (tD 1 w u)) (some (.tup (rs.map rwD))) (some (.ref nd)) x7 (some (.tup ((rn (nmF s ds) rs).map rwD))) (some (.ref n)) (some (.ref n2)) (some (.ref al)) (some (knD k mm)) none none none)) S') →
      W ((sAsg (eIf (FL.tB (eBin oGt (eCall f__law_take (aCons (eVar 1) (aCons (eC (.int 3)) (aNil)))) (eC (.int 0)))) (eCall f_of_cache (aCons (eVar 2) (aCons (eVar 5) (aNil)))) (eCall f_anything aNil)) (gNm 12)) env S6) QO := by
    intro QO env ee hq
    subst ee
    simp only [w_seq, w_asg, w_ret, w_retN, w_drop, w_brk, w_cnt, w_nil, w_sif, w_c, w_ev, w_bin, w_un, w_anil, w_acons, w_tup, w_lst, w_call, w_tB, w_tNot, w_tAnd, w_tOr, w_eIf, w_isN, w_notN, w_gnm, w_gnils, w_gcns, w_gtp2, w_gtp3, w_gtp2p, w_ixT0, w_ixT1, w_ixT2, w_ch, w_chL, w_chK, w_par2, w_par3, w_add, w_sub, w_neg, w_lt, w_le, w_gt, w_ge, w_abs, w_int, w_intb, w_max2, w_min2, w_pno, w_ppart, w_sl, w_bm, w_yes, w_eqI, w_neI, w_eqB, w_neB, QS_nx, QS_rt, QS_bk, QS_ct, QF_nx, QF_rt, QL_nx, QL_ct, QL_bk, QL_rt, wipeE, List.set_cons_succ, List.set_cons_zero, List.getElem?_cons_succ, List.getElem?_cons_zero, D.bl.injEq, D.int.injEq, exists_eq_left', exists_eq_left, w_eAnd, w_tTru, tru_bl, if_true, if_false, Bool.false_eq_true]
    refine W_take T6 (by decide) (by decide) fun z S7 z0 z1 k7 T7 l7 => ?_
    simp only [w_seq, w_asg, w_ret, w_retN, w_drop, w_brk, w_cnt, w_nil, w_sif, w_c, w_ev, w_bin, w_un, w_anil, w_acons, w_tup, w_lst, w_call, w_tB, w_tNot, w_tAnd, w_tOr, w_eIf, w_isN, w_notN, w_gnm, w_gnils, w_gcns, w_gtp2, w_gtp3, w_gtp2p, w_ixT0, w_ixT1, w_ixT2, w_ch, w_chL, w_chK, w_par2, w_par3, w_add, w_sub, w_neg, w_lt, w_le, w_gt, w_ge, w_abs, w_int, w_intb, w_max2, w_min2, w_pno, w_ppart, w_sl, w_bm, w_yes, w_eqI, w_neI, w_eqB, w_neB, QS_nx, QS_rt, QS_bk, QS_ct, QF_nx, QF_rt, QL_nx, QL_ct, QL_bk, QL_rt, wipeE, List.set_cons_succ, List.set_cons_zero, List.getElem?_cons_succ, List.getElem?_cons_zero, D.bl.injEq, D.int.injEq, exists_eq_left', exists_eq_left, w_eAnd, w_tTru, tru_bl, if_true, if_false, Bool.false_eq_true]
    by_cases hz : 0 < z
    · rw [decide_eq_true hz, if_pos rfl]
      refine (of_cache_ok g0 rl hs4 hw4).mono fun d S8 e => ?_
      obtain ⟨rfl, a8⟩ := e
      obtain ⟨x1, x2⟩ := oc_ck (N := 5 * s) (u := u) hs hw g0 rg
      exact hq _ _ S8 (k7.trans (a8.kn tp)) (by have := a8.len; omega) (T7.ap a8) (oc_snd hs g0 rw0) ⟨x1, fun m' e => by cases e; exact x2⟩
    · rw [decide_eq_false hz, if_neg Bool.false_ne_true]
      refine w_fn rfl ?_
      show W (b_anything [] S7) _
      unfold b_anything
      simp only [w_seq, w_asg, w_ret, w_retN, w_drop, w_brk, w_cnt, w_nil, w_sif, w_c, w_ev, w_bin, w_un, w_anil, w_acons, w_tup, w_lst, w_call, w_tB, w_tNot, w_tAnd, w_tOr, w_eIf, w_isN, w_notN, w_gnm, w_gnils, w_gcns, w_gtp2, w_gtp3, w_gtp2p, w_ixT0, w_ixT1, w_ixT2, w_ch, w_chL, w_chK, w_par2, w_par3, w_add, w_sub, w_neg, w_lt, w_le, w_gt, w_ge, w_abs, w_int, w_intb, w_max2, w_min2, w_pno, w_ppart, w_sl, w_bm, w_yes, w_eqI, w_neI, w_eqB, w_neB, QS_nx, QS_rt, QS_bk, QS_ct, QF_nx, QF_rt, QL_nx, QL_ct, QL_bk, QL_rt, wipeE, List.set_cons_succ, List.set_cons_zero, List.getElem?_cons_succ, List.getElem?_cons_zero, D.bl.injEq, D.int.injEq, exists_eq_left', exists_eq_left, w_eAnd, w_tTru, tru_bl, if_true, if_false, Bool.false_eq_true]
      refine ⟨by show 0 ≤ 10000000; decide, by show 2 ≤ 10000000; decide, ?_⟩
      exact hq [] none S7 k7 (by omega) T7 (any_snd rw0) ⟨⟨List.Pairwise.nil, fun x a e => (nomatch e)⟩, fun m' e => (nomatch e)⟩
  rw [w_seq]
  refine known _ _ rfl fun k mm S7 k7 l7 T7 sn kc => ?_
  clear known
  rw [QS_nx]
  have lal := lt_of_at g6
  have n7 := k7 _ _ (by omega) n6
  have kk := kc.kk (by omega) hw4
  -- the second, the parts
  rw [w_seq, w_par2]
  simp only [w_acons, w_anil, w_call, w_ev, List.getElem?_cons_succ, List.getElem?_cons_zero]
  have inN : ∀ {v : Nat} {k' : List P}, CK (5 * s) v k' → ∀ p ∈ k', lkP (nmL s ds) p.1 = some (nmF s ds p.1) := fun c p hp => by
    have := c.ok p.1 p.2 ((lk_mem c.asc.nd).mpr hp)
    exact nmL_lk this.2.2.1 (by omega)
  refine (named_ok kk n7 (inN kc.k) fun k2 e => inN (kc.m k2 e)).mono fun x S8 e => ?_
  obtain ⟨rfl, a8⟩ := e
  refine w_lcr (n := s) (lo := 0) (fun i => knD (ptK s (i : Nat) k) (mm.map (ptK s (i : Nat)))) ?_ (fun i hi S9 a9 => ?_) (by unfold cap; omega) fun pt S9 a9 l9 g9 => ?_
  · refine w_rng1 ?_
    simp only [w_seq, w_asg, w_ret, w_retN, w_drop, w_brk, w_cnt, w_nil, w_sif, w_c, w_ev, w_bin, w_un, w_anil, w_acons, w_tup, w_lst, w_call, w_tB, w_tNot, w_tAnd, w_tOr, w_eIf, w_isN, w_notN, w_gnm, w_gnils, w_gcns, w_gtp2, w_gtp3, w_gtp2p, w_ixT0, w_ixT1, w_ixT2, w_ch, w_chL, w_chK, w_par2, w_par3, w_add, w_sub, w_neg, w_lt, w_le, w_gt, w_ge, w_abs, w_int, w_intb, w_max2, w_min2, w_pno, w_ppart, w_sl, w_bm, w_yes, w_eqI, w_neI, w_eqB, w_neB, QS_nx, QS_rt, QS_bk, QS_ct, QF_nx, QF_rt, QL_nx, QL_ct, QL_bk, QL_rt, wipeE, List.set_cons_succ, List.set_cons_zero, List.getElem?_cons_succ, List.getElem?_cons_zero, D.bl.injEq, D.int.injEq, exists_eq_left', exists_eq_left, w_eAnd, w_tTru, tru_bl, if_true, if_false, Bool.false_eq_true]
    exact ⟨_, rfl, by omega, by omega, by simp [Int.toNat], by trivial⟩
  · rw [w_gnm, Int.zero_add (i : Int)]
    simp only [w_seq, w_asg, w_ret, w_retN, w_drop, w_brk, w_cnt, w_nil, w_sif, w_c, w_ev, w_bin, w_un, w_anil, w_acons, w_tup, w_lst, w_call, w_tB, w_tNot, w_tAnd, w_tOr, w_eIf, w_isN, w_notN, w_gnm, w_gnils, w_gcns, w_gtp2, w_gtp3, w_gtp2p, w_ixT0, w_ixT1, w_ixT2, w_ch, w_chL, w_chK, w_par2, w_par3, w_add, w_sub, w_neg, w_lt, w_le, w_gt, w_ge, w_abs, w_int, w_intb, w_max2, w_min2, w_pno, w_ppart, w_sl, w_bm, w_yes, w_eqI, w_neI, w_eqB, w_neB, QS_nx, QS_rt, QS_bk, QS_ct, QF_nx, QF_rt, QL_nx, QL_ct, QL_bk, QL_rt, wipeE, List.set_cons_succ, List.set_cons_zero, List.getElem?_cons_succ, List.getElem?_cons_zero, D.bl.injEq, D.int.injEq, exists_eq_left', exists_eq_left, w_eAnd, w_tTru, tru_bl, if_true, if_false, Bool.false_eq_true]
    refine ⟨trivial, Ap.refl _, ?_⟩
    exact (part_ok hs (by omega) kk).mono fun x S12 e => ⟨e.1, e.2⟩
  simp only [List.set_cons_succ, List.set_cons_zero, QS_nx]
  -- held
  rw [w_seq]
  simp only [w_asg, w_lst, w_acons, w_anil, w_ev, List.getElem?_cons_succ, List.getElem?_cons_zero, W_some, w_gnm, List.set_cons_succ, List.set_cons_zero, QS_nx]
  refine ⟨by show 1 ≤ 10000000; decide, ?_⟩
  have a10 : Ap S9 (S9 ++ [O.lst [knD k mm]]) := Ap.app _ _
  have lpt := lt_of_at g9
  have len8 := a8.len
  have len9 := a9.len
  have len4 := a4.len
  have len5 := a5.len
  have len6 := a6.len
  have po : PO s ⟨tp, tm, nd, n, m, n2, m2, al, an, am, pt, S9.length⟩ := by
    refine ⟨?_, fun i hi => ?_, fun i j hi hj hne => ?_⟩
    · show tp < nd ∧ tm < nd ∧ nd < n ∧ nd < m ∧ n ≠ m ∧ n < n2 ∧ m < n2 ∧ n < m2 ∧ m < m2 ∧ n2 ≠ m2 ∧ n2 < al ∧ m2 < al ∧ al < pt ∧ pt < S9.length
      omega
    · obtain ⟨_, _, z1, z2, z3, z4⟩ := hnm i hi
      have w1 := L_mono Lm (Nat.zero_le i)
      have w2 := L_mono Lm (show i + 1 ≤ s by omega)
      show al < an i ∧ al < am i ∧ an i < pt ∧ am i < pt
      omega
    · obtain ⟨_, _, z1, z2, z3, z4⟩ := hnm i hi
      obtain ⟨_, _, y1, y2, y3, y4⟩ := hnm j hj
      show an i ≠ am j ∧ am i ≠ am j
      rcases Nat.lt_or_ge i j with h | h
      · have w := L_mono Lm (show i + 1 ≤ j by omega)
        exact ⟨by omega, by omega⟩
      · have w := L_mono Lm (show j + 1 ≤ i by omega)
        exact ⟨by omega, by omega⟩
  have up : ∀ q o, q ≠ tp → S6[q]? = some o → (S9 ++ [O.lst [knD k mm]])[q]? = some o := fun q o h e => a10 _ _ (a9 _ _ (a8 _ _ (k7 _ _ h e)))
  have li : LI s w u ds ⟨tp, tm, nd, n, m, n2, m2, al, an, am, pt, S9.length⟩ rs (A0 s rs) k mm [(k, mm)] (S9 ++ [O.lst [knD k mm]]) := by
    refine ⟨((T7.ap a8).ap a9).ap a10, up _ _ (by show nd ≠ tp; omega) n6, ⟨up _ _ (by show n ≠ tp; omega) c46.1, up _ _ (by show m ≠ tp; omega) c46.2.1, c46.2.2⟩, ⟨up _ _ (by show n2 ≠ tp; omega) c56.1, up _ _ (by show m2 ≠ tp; omega) c56.2.1, c56.2.2⟩, up _ _ (by show al ≠ tp; omega) g6, fun i hi => ?_, a10 _ _ g9, new_at _ _⟩
    obtain ⟨_, c, z1, z2, z3, z4⟩ := hnm i hi
    have w1 := L_mono Lm (Nat.zero_le i)
    exact ⟨up _ _ (by show an i ≠ tp; omega) c.1, up _ _ (by show am i ≠ tp; omega) c.2.1, c.2.2⟩
  have di : DI s w u rs (A0 s rs) k mm [(k, mm)] 0 := ⟨g0, side0 hs g0, sn, kc, rg, fun q hq => by rw [List.mem_singleton.mp hq]; exact kc, rfl⟩
  rw [w_seq, w_for]
  refine w_rng1 ?_
  simp only [w_seq, w_asg, w_ret, w_retN, w_drop, w_brk, w_cnt, w_nil, w_sif, w_c, w_ev, w_bin, w_un, w_anil, w_acons, w_tup, w_lst, w_call, w_tB, w_tNot, w_tAnd, w_tOr, w_eIf, w_isN, w_notN, w_gnm, w_gnils, w_gcns, w_gtp2, w_gtp3, w_gtp2p, w_ixT0, w_ixT1, w_ixT2, w_ch, w_chL, w_chK, w_par2, w_par3, w_add, w_sub, w_neg, w_lt, w_le, w_gt, w_ge, w_abs, w_int, w_intb, w_max2, w_min2, w_pno, w_ppart, w_sl, w_bm, w_yes, w_eqI, w_neI, w_eqB, w_neB, QS_nx, QS_rt, QS_bk, QS_ct, QF_nx, QF_rt, QL_nx, QL_ct, QL_bk, QL_rt, wipeE, List.set_cons_succ, List.set_cons_zero, List.getElem?_cons_succ, List.getElem?_cons_zero, D.bl.injEq, D.int.injEq, exists_eq_left', exists_eq_left, w_eAnd, w_tTru, tru_bl, if_true, if_false, Bool.false_eq_true]
  refine ⟨24, rfl, by decide, by decide, ?_⟩
  rw [show Int.toNat 24 = 24 from rfl]
  refine for_rng (lo := 0) (n := 24) (fun t env S => ∃ x7 x16 x17 x18 x19 x20 x21 x22 x23 x24 x25 x26 rows A k mm hs, env = eL ⟨tp, tm, nd, n, m, n2, m2, al, an, am, pt, S9.length⟩ s w u (some (.tup (rs.map rwD))) x7 (some (.tup ((rn (nmF s ds) rs).map rwD))) k mm ds x16 x17 x18 x19 x20 x21 x22 x23 x24 x25 x26 ∧ DI s w u rows A k mm hs t ∧ LI s w u ds ⟨tp, tm, nd, n, m, n2, m2, al, an, am, pt, S9.length⟩ rows A k mm hs S) ?_ ?_ ⟨_, _, _, _, _, _, _, _, _, _, _, _, _, _, _, _, _, rfl, di, li⟩
  · rintro t env S' ht ⟨x7, x16, x17, x18, x19, x20, x21, x22, x23, x24, x25, x26, rows, A, k, mm, held, rfl, d, h⟩
    rw [w_gnm, Int.zero_add (t : Int)]
    simp only [List.set_cons_succ, List.set_cons_zero]
    exact turn1 (p := ⟨tp, tm, nd, n, m, n2, m2, al, an, am, pt, S9.length⟩) (rows := rows) (A := A) (k := k) (mm := mm) (hs := held) hs hs4 hw hw4 hD hl5 po ht d h fun x7 x16 x17 x18 x19 x20 x21 x22 x23 x24 x25 x26 rows A k mm held S' d' h' => ⟨_, _, _, _, _, _, _, _, _, _, _, _, _, _, _, _, _, rfl, d', h'⟩
  · rintro env S' _
    rw [QS_nx]
    simp only [w_ret, w_c]
    exact hN S'
theorem law_true (ns : List Int) (hl : ns.length ≤ 63) : ∃ S', f_law [.ref 0] [.ro (ns.map D.int)] = some (.bl true, S') := by
  have : W (f_law [.ref 0] [.ro (ns.map D.int)]) fun d _ => d = .bl true := by
    refine w_fn rfl ?_
    show W (b_law (e27 none none none none none none none none none none none none none none none) _) _
    unfold b_law
    rw [w_seq]
    simp only [w_asg, w_call, w_acons, w_anil, w_ev, List.getElem?_cons_zero]
    refine (tape_ok hl).mono ?_
    rintro d S0 ⟨tp, tm, rfl, T0⟩
    simp only [w_gnm, List.set_cons_succ, List.set_cons_zero, QS_nx]
    have t0 := T0.lt
    have t1 := T0.ltm
    -- told
    rw [w_seq]
    simp only [w_asg, w_call, w_acons, w_anil, w_ev, List.getElem?_cons_succ, List.getElem?_cons_zero, w_bin, w_lst, w_tup, w_c, W_some]
    refine ⟨by show 3 ≤ 10000000; decide, ?_⟩
    have a1 : Ap S0 (S0 ++ [O.lst [.int 1, .int 2, .int 4]]) := Ap.app _ _
    refine W_take (T0.ap a1) (by decide) (by decide) fun z S1 p0 p1 k1 T1 l1 => ?_
    have g1 := k1 _ _ (by omega) (new_at _ _)
    refine w_ixr (getL_of g1) p0 p1 fun d hd => ?_
    have ⟨s, es, hs, hs4⟩ : ∃ s : Nat, d = .int s ∧ 0 < s ∧ s ≤ 4 := by
      simp only [List.mem_cons, List.mem_singleton, List.not_mem_nil, or_false] at hd
      rcases hd with rfl | rfl | rfl
      · exact ⟨1, rfl, by omega, by omega⟩
      · exact ⟨2, rfl, by omega, by omega⟩
      · exact ⟨4, rfl, by omega, by omega⟩
    subst es
    rw [List.length_append] at l1
    refine W_take T1 (by decide) (by decide) fun z2 S2 q0 q1 k2 T2 l2 => ?_
    simp only [w_add]
    obtain ⟨w, ew⟩ : ∃ w : Nat, 1 + z2 = (w : Int) := ⟨(1 + z2).toNat, by omega⟩
    rw [ew]
    refine ⟨by show 2 ≤ 10000000; decide, ?_⟩
    have a2 : Ap S2 (S2 ++ [O.lst [.str "lru", .str "fifo"]]) := Ap.app _ _
    refine W_take (T2.ap a2) (by decide) (by decide) fun z3 S3 r0 r1 k3 T3 l3 => ?_
    rw [List.length_append] at l3
    have g3 := k3 _ _ (by omega) (new_at _ _)
    refine w_ixr (getL_of g3) r0 r1 fun d hd => ?_
    have ⟨u, eu⟩ : ∃ u : Bool, d = .str (pol u) := by
      simp only [List.mem_cons, List.mem_singleton, List.not_mem_nil, or_false] at hd
      rcases hd with rfl | rfl
      · exact ⟨true, rfl⟩
      · exact ⟨false, rfl⟩
    subst eu
    refine ⟨by show 3 ≤ 10000000; decide, ?_⟩
    simp only [w_gnm, List.set_cons_succ, List.set_cons_zero, QS_nx]
    -- sets, single
    rw [w_seq]
    simp only [w_asg, w_call, w_acons, w_anil, w_ev, List.getElem?_cons_succ, List.getElem?_cons_zero, w_bin, w_tup, w_c, w_ixT0, w_ixT1, w_ixT2]
    refine ⟨by show 3 ≤ 10000000; decide, by show 2 ≤ 10000000; decide, ?_⟩
    simp only [w_gtp2, w_gcns, w_gnm, w_gnils, List.set_cons_succ, List.set_cons_zero, QS_nx]
    -- lines
    rw [w_seq]
    simp only [w_asg, w_call, w_acons, w_anil, w_ev, List.getElem?_cons_succ, List.getElem?_cons_zero]
    refine (lines_of_ok (s := s) (w := w) (u := u) hs hs4 (by omega) T3).mono fun d S4 e => ?_
    obtain ⟨rs, rfl, f4, T4, hl4, hr4⟩ := e
    simp only [w_gnm, List.set_cons_succ, List.set_cons_zero, QS_nx]
    rw [w_seq]
    have d0 : ∀ (env : FL.Env) (S : Sto) (Q : D → Sto → Prop), W (eDic0 env S) Q ↔ W (some (D.ref S.length, S ++ [.dic []])) Q := fun _ _ _ => Iff.rfl
    simp only [w_asg, d0, W_some, w_gnm, List.set_cons_succ, List.set_cons_zero, QS_nx]
    rw [w_seq]
    have a5 : Ap S4 (S4 ++ [O.dic []]) := Ap.app _ _
    have lf4 := f4.len
    refine names_ok (x1 := none) hs hs4 (T4.ap a5) (by omega) (by omega) (new_at _ _) fun x7 ds S5 hD hl5 T5 f5 g5 => ?_
    rw [QS_nx]
    exact rest2_ok (s := s) (w := w) (u := u) hs hs4 (by omega) (by omega) hD hl5 T5 (by omega) (by omega) g5 hl4 hr4 fun S' => rfl
  obtain ⟨d, S', e, rfl⟩ := this
  exact ⟨S', e⟩
end
end K50
namespace K50
open PySem PySem.Spec PyProof.Rows L2 FL
theorem walk {l : PySem.W.OpenLaw} {q : Program} {loose : List Str} {XP : (Str → Option Value) → Heap → Prop} {YP : World → Heap → Prop} {d : DefRec} {K : Params → PySem.W.Frag} (hn : l.most = some 63) (hdf : d.params.defaults = [])
    (hY : ∀ (w : World) (h : Heap), YP w h → (K w.params).In h)
    (F : ∀ (w : World) (mg : Str → Option Value) (fa : Addr) (h : Heap), (K w.params).In h → h.Ns mainGlobals mg → mg d.name = some (.ref fa) →
      ∃ fd : FuncData, (∀ (s : Shared) (u : Value), BindsTo s fd ⟨[u], []⟩ [("script", u)]) ∧ ∀ base : Heap, (K w.params).In base → base.Ns mainGlobals mg → FnOk l.prog w (K w.params) mg base CX0 5 fa fd ["script"] (spF ⟨K w.params, ctK (K w.params)⟩ 1 f_law)) :
    PySem.W.WalkO q loose XP YP l.row.toRowW d [] (fun f vs => PySem.call f vs) :=
  L2.walk_of (n := 63) (k := 5) (x := "script") (CX := fun _ => CX0) (sp := fun w => spF ⟨K w.params, ctK (K w.params)⟩ 1 f_law) hn (by decide) hdf ⟨rfl, by decide, by decide⟩ hY F (fun w H a ns hl hO hS => end_red (law_true ns hl) hO hS) fun _ _ _ _ _ z => z
end K50
open PySem PySem.W PyProof.Rows in
set_option maxRecDepth 100000 in
set_option maxHeartbeats 0 in
theorem PySem.Challenge.cw_nocyclemore_k50_whole_caches_set_by_set_holds : PySem.Challenge.rw_nocyclemore_k50_whole_caches_set_by_set.Holds := by
  w_on; o_law; k_head; (case hw => w_witness2)
  k_fill
  refine K50.walk (l := PySem.Challenge.rw_nocyclemore_k50_whole_caches_set_by_set) rfl rfl (fun w h Y => PySem.W.kIn_of Y) ?F
  case F =>
    intro w mg fa h KX G hmg
    refine' K50.all_mk KX G hmg ?aC_Cache ?pg_Cache ?hd_Cache ?po_Cache ?sa_Cache ?mk_Cache ?kc_Cache ?nF_Cache_policy ?nF_Cache_rows ?nF_Cache_sets ?nF_Cache_ways ?a0 ?l0 ?c0 ?k0 ?a1 ?l1 ?c1 ?k1 ?a2 ?i2 ?l2 ?c2 ?k2 ?a3 ?l3 ?c3 ?k3 ?a4 ?l4 ?c4 ?k4 ?a5 ?l5 ?c5 ?k5 ?a6 ?l6 ?c6 ?k6 ?a7 ?l7 ?c7 ?k7 ?a8 ?l8 ?c8 ?k8 ?a9 ?l9 ?c9 ?k9 ?a10 ?l10 ?c10 ?k10 ?a11 ?l11 ?c11 ?k11 ?a12 ?i12 ?l12 ?c12 ?k12 ?a13 ?l13 ?c13 ?k13 ?a14 ?l14 ?c14 ?k14 ?a15 ?i15 ?l15 ?c15 ?k15 ?a16 ?l16 ?c16 ?k16 ?a17 ?l17 ?c17 ?k17 ?a18 ?l18 ?c18 ?k18 ?a19 ?i19 ?l19 ?c19 ?k19 ?a20 ?l20 ?c20 ?k20 ?a21 ?l21 ?c21 ?k21 ?a22 ?l22 ?c22 ?k22 ?a23 ?l23 ?c23 ?k23 ?z_abs ?z_all ?z_any ?z_dict ?z_enumerate ?z_int ?z_len ?z_max ?z_min ?z_range ?z_sorted ?z_tuple
    (case aC_Cache => k_is)
    (case pg_Cache => k_is)
    (case hd_Cache => k_is)
    (case po_Cache => k_is)
    (case sa_Cache => k_is)
    (case mk_Cache => k_is)
    (case kc_Cache => k_is)
    (case nF_Cache_policy => k_is)
    (case nF_Cache_rows => k_is)
    (case nF_Cache_sets => k_is)
    (case nF_Cache_ways => k_is)
    (case a0 => k_is)
    (case l0 => k_is)
    (case c0 => k_is)
    (case k0 => k_is)
    (case a1 => k_is)
    (case l1 => k_is)
    (case c1 => k_is)
    (case k1 => k_is)
    (case a2 => k_is)
    (case i2 => k_is)
    (case l2 => k_is)
    (case c2 => k_is)
    (case k2 => k_is)
    (case a3 => k_is)
    (case l3 => k_is)
    (case c3 => k_is)
    (case k3 => k_is)
    (case a4 => k_is)
    (case l4 => k_is)
    (case c4 => k_is)
    (case k4 => k_is)
    (case a5 => k_is)
    (case l5 => k_is)
    (case c5 => k_is)
    (case k5 => k_is)
    (case a6 => k_is)
    (case l6 => k_is)
    (case c6 => k_is)
    (case k6 => k_is)
    (case a7 => k_is)
    (case l7 => k_is)
    (case c7 => k_is)
    (case k7 => k_is)
    (case a8 => k_is)
    (case l8 => k_is)
    (case c8 => k_is)
    (case k8 => k_is)
    (case a9 => k_is)
    (case l9 => k_is)
    (case c9 => k_is)
    (case k9 => k_is)
    (case a10 => k_is)
    (case l10 => k_is)
    (case c10 => k_is)
    (case k10 => k_is)
    (case a11 => k_is)
    (case l11 => k_is)
    (case c11 => k_is)
    (case k11 => k_is)
    (case a12 => k_is)
    (case i12 => k_is)
    (case l12 => k_is)
    (case c12 => k_is)
    (case k12 => k_is)
    (case a13 => k_is)
    (case l13 => k_is)
    (case c13 => k_is)
    (case k13 => k_is)
    (case a14 => k_is)
    (case l14 => k_is)
    (case c14 => k_is)
    (case k14 => k_is)
    (case a15 => k_is)
    (case i15 => k_is)
    (case l15 => k_is)
    (case c15 => k_is)
    (case k15 => k_is)
    (case a16 => k_is)
    (case l16 => k_is)
    (case c16 => k_is)
    (case k16 => k_is)
    (case a17 => k_is)
    (case l17 => k_is)
    (case c17 => k_is)
    (case k17 => k_is)
    (case a18 => k_is)
    (case l18 => k_is)
    (case c18 => k_is)
    (case k18 => k_is)
    (case a19 => k_is)
    (case i19 => k_is)
    (case l19 => k_is)
    (case c19 => k_is)
    (case k19 => k_is)
    (case a20 => k_is)
    (case l20 => k_is)
    (case c20 => k_is)
    (case k20 => k_is)
    (case a21 => k_is)
    (case l21 => k_is)
    (case c21 => k_is)
    (case k21 => k_is)
    (case a22 => k_is)
    (case l22 => k_is)
    (case c22 => k_is)
    (case k22 => k_is)
    (case a23 => k_is)
    (case l23 => k_is)
    (case c23 => k_is)
    (case k23 => k_is)
    (case z_abs => k_is)
    (case z_all => k_is)
    (case z_any => k_is)
    (case z_dict => k_is)
    (case z_enumerate => k_is)
    (case z_int => k_is)
    (case z_len => k_is)
    (case z_max => k_is)
    (case z_min => k_is)
    (case z_range => k_is)
    (case z_sorted => k_is)
    (case z_tuple => k_is)
