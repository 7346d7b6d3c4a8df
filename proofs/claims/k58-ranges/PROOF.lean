import PyProof.Rows.All
import Wide.All
import OpenK.AllK
import Wide.FinOn
import HandS.ForMost
import HandS.Wide
import HandS.WideMore
import HandS.Flow
import HandS.TupAny
import HandS.Small
import HandS.SortInts
import HandS.WordsDict
import HandS.RaiseMore
import HandS.More
import HandS.Iter
import HandS.Text
import HandS.DictComp
import HandS.Style
import HandS.Zip
import HandS.Ends
import HandS.EndOwn
import HandS.SetFor
import HandS.Strs
import PySem.Challenge.RW_nocyclemore_k58_whole_ranges_that_are_ju
set_option Elab.async false
set_option linter.all false
set_option maxRecDepth 100000
set_option autoImplicit false
set_option maxHeartbeats 8000000
/-! FL1: a functional layer over the hand layer: data (D), stores (Sto), how they stand in the abstract heap. -/
namespace FL
open PySem PySem.Spec PyProof.Rows L2

/-- data: tuples by value, what can change by its place in the store -/
inductive D where
  | non | bl (b : Bool) | int (i : Int) | str (x : Str) | tup (ds : List D) | ref (n : Nat)
/-- what stands at a place of the store; ro: a list that is read alone; lck: a dict that a loop walks -/
inductive O where
  | lst (ds : List D) | ro (ds : List D) | dic (kvs : List (Key × D)) | lck (kvs : List (Key × D)) | ins (k : Str) (fs : List (Str × D)) | gone
abbrev Sto := List O
abbrev Env := List (Option D)
structure FC where
  K : PySem.W.Frag
  ct : Str → Addr

mutual
def Rep (c : FC) (μ : List Addr) (H : Hp) : D → V → Prop
  | .non, v => v = .non
  | .bl b, v => v = .bl b
  | .int i, v => v = .int i
  | .str x, v => v = .str x
  | .tup ds, v => ∃ a xs, v = .ref a ∧ SqT c.K H a xs ∧ Reps c μ H ds xs
  | .ref n, v => ∃ a, μ[n]? = some a ∧ v = .ref a
def Reps (c : FC) (μ : List Addr) (H : Hp) : List D → List V → Prop
  | [], xs => xs = []
  | d :: ds, xs => ∃ v vs, xs = v :: vs ∧ Rep c μ H d v ∧ Reps c μ H ds vs
end

def RepKV {κ : Type} (c : FC) (μ : List Addr) (H : Hp) (kvs : List (κ × D)) (ys : List (κ × V)) : Prop := kvs.map (·.1) = ys.map (·.1) ∧ Reps c μ H (kvs.map (·.2)) (ys.map (·.2))

def RepO (c : FC) (μ : List Addr) (H : Hp) (a : Addr) : O → Prop
  | .lst ds => ∃ xs, H a = some (.lst xs) ∧ Reps c μ H ds xs
  | .ro ds => ∃ xs, ((∃ o, H a = some (.frz o (.lst xs))) ∨ (∃ (o : Obj) (its : Array Value) (n : Nat), c.K.lookup a = some o ∧ o.cls = .type "list" ∧ o.dict = none ∧ o.data = .seq its n ∧ its.size ≤ sizeLine ∧ Vals xs its.toList)) ∧ Reps c μ H ds xs
  | .dic kvs => ∃ ys, H a = some (.dK ys) ∧ RepKV c μ H kvs ys
  | .lck kvs => ∃ o ys, H a = some (.frz o (.dK ys)) ∧ RepKV c μ H kvs ys
  | .ins k fs => ∃ dx ys, H a = some (.ins (c.ct k) dx ys) ∧ RepKV c μ H fs ys
  | .gone => True

/-- objects whose place is theirs alone -/
def own : O → Bool
  | .ro _ => false
  | .gone => false
  | _ => true

structure Ext (c : FC) (μ : List Addr) (H : Hp) (μ' : List Addr) (H' : Hp) : Prop where
  pre : ∀ (n : Nat) (a : Addr), μ[n]? = some a → μ'[n]? = some a
  tup : ∀ (a : Addr) (xs : List V), SqT c.K H a xs → SqT c.K H' a xs
  frz : ∀ (a : Addr) (o : Obj) (u : HO), H a = some (.frz o u) → H' a = some (.frz o u)
theorem Ext.refl {c : FC} {μ : List Addr} {H : Hp} : Ext c μ H μ H := ⟨fun _ _ h => h, fun _ _ h => h, fun _ _ _ h => h⟩
theorem Ext.trans {c : FC} {μ μ1 μ2 : List Addr} {H H1 H2 : Hp} (a : Ext c μ H μ1 H1) (b : Ext c μ1 H1 μ2 H2) : Ext c μ H μ2 H2 :=
  ⟨fun n x h => b.pre n x (a.pre n x h), fun p xs h => b.tup p xs (a.tup p xs h), fun p o u h => b.frz p o u (a.frz p o u h)⟩

mutual
theorem Rep.mono {c : FC} {μ μ' : List Addr} {H H' : Hp} (e : Ext c μ H μ' H') : ∀ (d : D) (v : V), Rep c μ H d v → Rep c μ' H' d v
  | .non, _, h => h
  | .bl _, _, h => h
  | .int _, _, h => h
  | .str _, _, h => h
  | .tup ds, v, h => by
    obtain ⟨a, xs, ev, hs, hr⟩ := h
    exact ⟨a, xs, ev, e.tup a xs hs, Reps.mono e ds xs hr⟩
  | .ref n, v, h => by
    obtain ⟨a, ha, ev⟩ := h
    exact ⟨a, e.pre n a ha, ev⟩
theorem Reps.mono {c : FC} {μ μ' : List Addr} {H H' : Hp} (e : Ext c μ H μ' H') : ∀ (ds : List D) (xs : List V), Reps c μ H ds xs → Reps c μ' H' ds xs
  | [], _, h => h
  | d :: ds, _, h => by
    obtain ⟨v, vs, ev, h1, h2⟩ := h
    exact ⟨v, vs, ev, Rep.mono e d v h1, Reps.mono e ds vs h2⟩
end

theorem Reps.len {c : FC} {μ : List Addr} {H : Hp} : ∀ {ds : List D} {xs : List V}, Reps c μ H ds xs → xs.length = ds.length
  | [], _, h => by
    have e : _ = [] := h
    rw [e]
    rfl
  | d :: ds, _, h => by
    obtain ⟨v, vs, ev, _, h2⟩ := h
    rw [ev, List.length_cons, List.length_cons, Reps.len h2]
theorem Reps.get {c : FC} {μ : List Addr} {H : Hp} : ∀ {ds : List D} {xs : List V} {i : Nat} {d : D}, Reps c μ H ds xs → ds[i]? = some d → ∃ v, xs[i]? = some v ∧ Rep c μ H d v
  | [], _, _, _, _, e => by simp at e
  | x :: ds, _, 0, d, h, e => by
    obtain ⟨v, vs, ev, h1, _⟩ := h
    have e' : x = d := by simpa using e
    subst e'
    exact ⟨v, by rw [ev]; rfl, h1⟩
  | x :: ds, _, i + 1, d, h, e => by
    obtain ⟨v, vs, ev, _, h2⟩ := h
    obtain ⟨w, e1, e2⟩ := Reps.get (i := i) h2 (by simpa using e)
    exact ⟨w, by rw [ev]; simpa using e1, e2⟩
theorem Reps.app {c : FC} {μ : List Addr} {H : Hp} : ∀ {ds es : List D} {xs ys : List V}, Reps c μ H ds xs → Reps c μ H es ys → Reps c μ H (ds ++ es) (xs ++ ys)
  | [], _, _, _, h, k => by
    have e : _ = [] := h
    rw [e]
    exact k
  | d :: ds, _, _, _, h, k => by
    obtain ⟨v, vs, ev, h1, h2⟩ := h
    exact ⟨v, vs ++ _, by rw [ev]; rfl, h1, Reps.app h2 k⟩
theorem Reps.one {c : FC} {μ : List Addr} {H : Hp} {d : D} {v : V} (h : Rep c μ H d v) : Reps c μ H [d] [v] := ⟨v, [], rfl, h, rfl⟩
theorem Reps.drop {c : FC} {μ : List Addr} {H : Hp} : ∀ (n : Nat) {ds : List D} {xs : List V}, Reps c μ H ds xs → Reps c μ H (ds.drop n) (xs.drop n)
  | 0, _, _, h => h
  | n + 1, [], _, h => by
    have e : _ = [] := h
    rw [e]
    exact rfl
  | n + 1, d :: ds, _, h => by
    obtain ⟨v, vs, ev, _, h2⟩ := h
    rw [ev]
    exact Reps.drop n h2
theorem Reps.take {c : FC} {μ : List Addr} {H : Hp} : ∀ (n : Nat) {ds : List D} {xs : List V}, Reps c μ H ds xs → Reps c μ H (ds.take n) (xs.take n)
  | 0, _, _, _ => by
    rw [List.take_zero, List.take_zero]
    exact rfl
  | n + 1, [], _, h => by
    have e : _ = [] := h
    rw [e]
    exact rfl
  | n + 1, d :: ds, _, h => by
    obtain ⟨v, vs, ev, h1, h2⟩ := h
    rw [ev]
    exact ⟨v, vs.take n, rfl, h1, Reps.take n h2⟩
theorem Reps.set {c : FC} {μ : List Addr} {H : Hp} {d : D} {v : V} (hd : Rep c μ H d v) : ∀ (n : Nat) {ds : List D} {xs : List V}, Reps c μ H ds xs → Reps c μ H (ds.set n d) (xs.set n v)
  | _, [], _, h => by
    have e : _ = [] := h
    rw [e]
    exact rfl
  | 0, x :: ds, _, h => by
    obtain ⟨w, vs, ev, _, h2⟩ := h
    rw [ev]
    exact ⟨v, vs, rfl, hd, h2⟩
  | n + 1, x :: ds, _, h => by
    obtain ⟨w, vs, ev, h1, h2⟩ := h
    rw [ev]
    exact ⟨w, vs.set n v, rfl, h1, Reps.set hd n h2⟩
theorem Reps.rev {c : FC} {μ : List Addr} {H : Hp} : ∀ {ds : List D} {xs : List V}, Reps c μ H ds xs → Reps c μ H ds.reverse xs.reverse
  | [], _, h => by
    have e : _ = [] := h
    rw [e]
    exact rfl
  | d :: ds, _, h => by
    obtain ⟨v, vs, ev, h1, h2⟩ := h
    rw [ev, List.reverse_cons, List.reverse_cons]
    exact Reps.app (Reps.rev h2) (Reps.one h1)
theorem Reps.dropLast {c : FC} {μ : List Addr} {H : Hp} : ∀ {ds : List D} {xs : List V}, Reps c μ H ds xs → Reps c μ H ds.dropLast xs.dropLast := fun {ds xs} h => by
  rw [List.dropLast_eq_take, List.dropLast_eq_take, Reps.len h]
  exact Reps.take _ h
theorem Reps.erase {c : FC} {μ : List Addr} {H : Hp} : ∀ (n : Nat) {ds : List D} {xs : List V}, Reps c μ H ds xs → Reps c μ H (ds.eraseIdx n) (xs.eraseIdx n)
  | _, [], _, h => by
    have e : _ = [] := h
    rw [e]
    exact rfl
  | 0, x :: ds, _, h => by
    obtain ⟨w, vs, ev, _, h2⟩ := h
    rw [ev]
    exact h2
  | n + 1, x :: ds, _, h => by
    obtain ⟨w, vs, ev, h1, h2⟩ := h
    rw [ev]
    exact ⟨w, vs.eraseIdx n, rfl, h1, Reps.erase n h2⟩

structure StoOk (c : FC) (μ : List Addr) (S : Sto) (H : Hp) : Prop where
  len : μ.length = S.length
  stands : ∀ (n : Nat) (o : O), S[n]? = some o → ∃ a, μ[n]? = some a ∧ RepO c μ H a o
  inj : ∀ (n m : Nat) (a : Addr) (o o' : O), S[n]? = some o → S[m]? = some o' → own o = true → own o' = true → μ[n]? = some a → μ[m]? = some a → n = m
def EnvOk (c : FC) (μ : List Addr) (H : Hp) (env : Env) (σ : L2.St) : Prop := env.length = σ.length ∧ ∀ (i : Nat) (d : D), env[i]? = some (some d) → ∃ v, σ[i]? = some (some v) ∧ Rep c μ H d v

theorem RepKV.mono {κ : Type} {c : FC} {μ μ' : List Addr} {H H' : Hp} {kvs : List (κ × D)} {ys : List (κ × V)} (e : Ext c μ H μ' H') (h : RepKV c μ H kvs ys) : RepKV c μ' H' kvs ys := ⟨h.1, Reps.mono e _ _ h.2⟩
/-- an object stays where its place stays and tuples do -/
theorem RepO.mono {c : FC} {μ μ' : List Addr} {H H' : Hp} {a : Addr} (e : Ext c μ H μ' H') : ∀ {o : O}, (∀ u, H a = some u → H' a = some u) → RepO c μ H a o → RepO c μ' H' a o
  | .lst _, k, ⟨xs, h, r⟩ => ⟨xs, k _ h, Reps.mono e _ _ r⟩
  | .ro _, k, ⟨xs, h, r⟩ => ⟨xs, h.imp (fun ⟨o, q⟩ => ⟨o, k _ q⟩) id, Reps.mono e _ _ r⟩
  | .dic _, k, ⟨ys, h, r⟩ => ⟨ys, k _ h, r.mono e⟩
  | .lck _, k, ⟨o, ys, h, r⟩ => ⟨o, ys, k _ h, r.mono e⟩
  | .ins _ _, k, ⟨dx, ys, h, r⟩ => ⟨dx, ys, k _ h, r.mono e⟩
  | .gone, _, _ => trivial
theorem EnvOk.mono {c : FC} {μ μ' : List Addr} {H H' : Hp} {env : Env} {σ : L2.St} (e : Ext c μ H μ' H') (h : EnvOk c μ H env σ) : EnvOk c μ' H' env σ :=
  ⟨h.1, fun i d q => let ⟨v, h1, h2⟩ := h.2 i d q; ⟨v, h1, Rep.mono e d v h2⟩⟩
theorem EnvOk.set {c : FC} {μ : List Addr} {H : Hp} {env : Env} {σ : L2.St} {d : D} {v : V} (i : Nat) (h : EnvOk c μ H env σ) (r : Rep c μ H d v) : EnvOk c μ H (env.set i (some d)) (σ.set i (some v)) := by
  refine ⟨by rw [List.length_set, List.length_set, h.1], fun j e q => ?_⟩
  by_cases hj : i = j
  · subst hj
    by_cases hl : i < env.length
    · rw [List.getElem?_set_self hl] at q
      have q' : d = e := Option.some.inj (Option.some.inj q)
      subst q'
      exact ⟨v, List.getElem?_set_self (by rw [← h.1]; exact hl), r⟩
    · rw [List.getElem?_eq_none (by rw [List.length_set]; omega)] at q
      cases q
  · rw [List.getElem?_set_ne hj] at q ⊢
    exact h.2 j e q

theorem sqT_upd {K : PySem.W.Frag} {H : Hp} {p : Addr} {u : HO} (h : H p = none ∨ ∃ w, H p = some w ∧ Mut (some w)) {a : Addr} {xs : List V} (q : SqT K H a xs) : SqT K (upd H p u) a xs := by
  rcases q with q | q
  · have ne : ∀ w, H a = some w → ¬ Mut (some w) → a ≠ p := fun w e nm z => by
      rw [← z] at h
      rcases h with h | ⟨w', h, m⟩
      · rw [h] at e; cases e
      · rw [h] at e; cases e; exact nm m
    rcases q with q | ⟨o, q⟩
    · exact .inl (.inl (by rw [upd_ne (ne _ q fun z => z)]; exact q))
    · exact .inl (.inr ⟨o, by rw [upd_ne (ne _ q fun z => z)]; exact q⟩)
  · exact .inr q
theorem frz_upd {H : Hp} {p : Addr} {u : HO} (h : H p = none ∨ ∃ w, H p = some w ∧ Mut (some w)) {a : Addr} {o : Obj} {v : HO} (q : H a = some (.frz o v)) : (upd H p u) a = some (.frz o v) := by
  rw [upd_ne]
  · exact q
  · intro z
    rw [← z] at h
    rcases h with h | ⟨w', h, m⟩
    · rw [h] at q; cases q
    · rw [h] at q; cases q; exact m
theorem Ext.upd {c : FC} {μ : List Addr} {H : Hp} {p : Addr} {u : HO} (h : H p = none ∨ ∃ w, H p = some w ∧ Mut (some w)) : Ext c μ H μ (upd H p u) := ⟨fun _ _ e => e, fun _ _ q => sqT_upd h q, fun _ _ _ q => frz_upd h q⟩
theorem Ext.new {c : FC} {μ : List Addr} {H : Hp} {p : Addr} {u : HO} (h : H p = none) : Ext c μ H (μ ++ [p]) (L2.upd H p u) :=
  ⟨fun n a e => by
    have hn : n < μ.length := (List.getElem?_eq_some_iff.mp e).1
    rw [List.getElem?_append_left hn]
    exact e, fun _ _ q => sqT_upd (.inl h) q, fun _ _ _ q => frz_upd (.inl h) q⟩

/-- a place with an object of its own is tracked, and not free -/
theorem RepO.tracked {c : FC} {μ : List Addr} {H : Hp} {a : Addr} : ∀ {o : O}, own o = true → RepO c μ H a o → ∃ u, H a = some u
  | .lst _, _, ⟨_, h, _⟩ => ⟨_, h⟩
  | .dic _, _, ⟨_, h, _⟩ => ⟨_, h⟩
  | .lck _, _, ⟨_, _, h, _⟩ => ⟨_, h⟩
  | .ins _ _, _, ⟨_, _, h, _⟩ => ⟨_, h⟩

theorem RepO.notRo {c : FC} {μ : List Addr} {H : Hp} {a : Addr} {ob : Obj} {xs : List V} : ∀ {o : O}, own o = true → RepO c μ H a o → ¬ H a = some (.frz ob (.lst xs))
  | .lst _, _, ⟨_, h, _⟩, q => by rw [h] at q; cases q
  | .dic _, _, ⟨_, h, _⟩, q => by rw [h] at q; cases q
  | .lck _, _, ⟨_, _, h, _⟩, q => by rw [h] at q; cases q
  | .ins _ _, _, ⟨_, _, h, _⟩, q => by rw [h] at q; cases q

/-- a tuple (nothing of the store) is made -/
theorem StoOk.same {c : FC} {μ : List Addr} {S : Sto} {H : Hp} {p : Addr} {u : HO} (h : StoOk c μ S H) (hp : H p = none) : StoOk c μ S (upd H p u) := by
  refine ⟨h.len, fun n o e => ?_, h.inj⟩
  obtain ⟨a, e1, r⟩ := h.stands n o e
  exact ⟨a, e1, r.mono (Ext.upd (.inl hp)) fun w q => by rw [upd_ne (ne_of_none q hp)]; exact q⟩
/-- a new object -/
theorem StoOk.alloc {c : FC} {μ : List Addr} {S : Sto} {H : Hp} {p : Addr} {u : HO} {o : O} (h : StoOk c μ S H) (hp : H p = none) (new : RepO c (μ ++ [p]) (upd H p u) p o) : StoOk c (μ ++ [p]) (S ++ [o]) (upd H p u) := by
  have old : ∀ n a, n < S.length → ((μ ++ [p])[n]? = some a ↔ μ[n]? = some a) := fun n a hn => by
    rw [List.getElem?_append_left (by rw [h.len]; exact hn)]
  have key : ∀ n a o', S[n]? = some o' → own o' = true → μ[n]? = some a → a ≠ p := fun n a o' e ow e1 z => by
    obtain ⟨b, e2, r⟩ := h.stands n o' e
    rw [e1] at e2
    cases e2
    obtain ⟨w, q⟩ := r.tracked ow
    rw [z, hp] at q
    cases q
  refine ⟨by simp [h.len], fun n o' e => ?_, fun n m a o1 o2 e1 e2 w1 w2 a1 a2 => ?_⟩
  · by_cases hn : n < S.length
    · rw [List.getElem?_append_left hn] at e
      obtain ⟨a, e1, r⟩ := h.stands n o' e
      exact ⟨a, (old n a hn).mpr e1, r.mono (Ext.new hp) fun w q => by rw [upd_ne (ne_of_none q hp)]; exact q⟩
    · have hlt : n < S.length + 1 := by
        have := (List.getElem?_eq_some_iff.mp e).1
        simpa using this
      have en : n = S.length := by omega
      subst en
      rw [List.getElem?_append_right (Nat.le_refl _), Nat.sub_self] at e
      have e' : o = o' := by simpa using e
      subst e'
      refine ⟨p, ?_, new⟩
      rw [← h.len, List.getElem?_append_right (Nat.le_refl _), Nat.sub_self]
      rfl
  · by_cases hn : n < S.length
    · by_cases hm : m < S.length
      · rw [List.getElem?_append_left hn] at e1
        rw [List.getElem?_append_left hm] at e2
        exact h.inj n m a o1 o2 e1 e2 w1 w2 ((old n a hn).mp a1) ((old m a hm).mp a2)
      · have em : m = S.length := by
          have := (List.getElem?_eq_some_iff.mp e2).1
          simp at this
          omega
        subst em
        rw [List.getElem?_append_left hn] at e1
        rw [← h.len, List.getElem?_append_right (Nat.le_refl _), Nat.sub_self] at a2
        have a2' : p = a := by simpa using a2
        exact absurd a2'.symm (key n a o1 e1 w1 ((old n a hn).mp a1))
    · have en : n = S.length := by
        have := (List.getElem?_eq_some_iff.mp e1).1
        simp at this
        omega
      by_cases hm : m < S.length
      · subst en
        rw [List.getElem?_append_left hm] at e2
        rw [← h.len, List.getElem?_append_right (Nat.le_refl _), Nat.sub_self] at a1
        have a1' : p = a := by simpa using a1
        exact absurd a1'.symm (key m a o2 e2 w2 ((old m a hm).mp a2))
      · have em : m = S.length := by
          have := (List.getElem?_eq_some_iff.mp e2).1
          simp at this
          omega
        omega
/-- an object changed -/
theorem StoOk.write {c : FC} {μ : List Addr} {S : Sto} {H : Hp} {n : Nat} {a : Addr} {u : HO} {o0 o : O} (h : StoOk c μ S H) (hn : S[n]? = some o0) (how : own o0 = true) (ha : μ[n]? = some a) (he : Ext c μ H μ (upd H a u)) (new : RepO c μ (upd H a u) a o) : StoOk c μ (S.set n o) (upd H a u) := by
  have hlt : n < S.length := (List.getElem?_eq_some_iff.mp hn).1
  refine ⟨by rw [List.length_set]; exact h.len, fun m o' e => ?_, fun m k b o1 o2 e1 e2 w1 w2 a1 a2 => ?_⟩
  · by_cases hk : n = m
    · subst hk
      rw [List.getElem?_set_self hlt] at e
      cases e
      exact ⟨a, ha, new⟩
    · rw [List.getElem?_set_ne hk] at e
      obtain ⟨b, e1, r⟩ := h.stands m o' e
      refine ⟨b, e1, ?_⟩
      by_cases hb : b = a
      · -- only what is read alone can stand at the same place
        subst hb
        cases hw : own o' with
        | true => exact absurd (h.inj n m b o0 o' hn e how hw ha e1) hk
        | false =>
          cases o' with
          | ro ds =>
            obtain ⟨xs, q, rr⟩ := r
            rcases q with ⟨ob, q⟩ | q
            · obtain ⟨b', e2, r2⟩ := h.stands n o0 hn
              rw [ha] at e2
              cases e2
              exact absurd q (RepO.notRo how r2)
            · exact ⟨xs, .inr q, Reps.mono he _ _ rr⟩
          | gone => trivial
          | lst _ => cases hw
          | dic _ => cases hw
          | lck _ => cases hw
          | ins _ _ => cases hw
      · exact r.mono he fun w q => by rw [upd_ne hb]; exact q
  · have back : ∀ (m : Nat) (o' : O) (b : Addr), (S.set n o)[m]? = some o' → own o' = true → μ[m]? = some b → ∃ o'', S[m]? = some o'' ∧ own o'' = true := fun m o' b e w _ => by
      by_cases hk : n = m
      · subst hk
        exact ⟨o0, hn, how⟩
      · rw [List.getElem?_set_ne hk] at e
        exact ⟨o', e, w⟩
    obtain ⟨p1, q1, v1⟩ := back m o1 b e1 w1 a1
    obtain ⟨p2, q2, v2⟩ := back k o2 b e2 w2 a2
    exact h.inj m k b p1 p2 q1 q2 v1 v2 a1 a2
end FL
/-! FL2: readings by functions: expressions, tests, argument lists, operators, calls. -/
namespace FL
open PySem PySem.Spec PyProof.Rows L2

def th {α β : Type} (r : Option (α × Sto)) (k : α → Sto → Option β) : Option β := match r with
  | some (x, S) => k x S
  | none => none
@[simp] theorem th_some {α β : Type} (x : α) (S : Sto) (k : α → Sto → Option β) : th (some (x, S)) k = k x S := rfl
@[simp] theorem th_none {α β : Type} (k : α → Sto → Option β) : th (none : Option (α × Sto)) k = none := rfl
theorem th_inv {α β : Type} {r : Option (α × Sto)} {k : α → Sto → Option β} {z : β} (h : th r k = some z) : ∃ x S, r = some (x, S) ∧ k x S = some z := by
  cases r with
  | none => cases h
  | some p => exact ⟨p.1, p.2, rfl, h⟩

abbrev FE := Env → Sto → Option (D × Sto)
abbrev FT := Env → Sto → Option (Bool × Sto)
abbrev FA := Env → Sto → Option (List D × Sto)
inductive Out where
  | nx (e : Env) | rt (d : D) | bk (e : Env) | ct (e : Env)
abbrev FS := Env → Sto → Option (Out × Sto)
abbrev FF := List D → Sto → Option (D × Sto)
abbrev F2 := D → D → Sto → Option (D × Sto)
abbrev F1 := D → Sto → Option (D × Sto)
def cap : Nat := 10000000
theorem cap_le {n : Nat} (h : n ≤ cap) : n ≤ sizeLine := by
  rw [sizeLine_eq]
  unfold cap at h
  omega

/-! ### readings -/
def After (c : FC) (μ : List Addr) (H : Hp) (S' : Sto) (d : D) (Q : VK) : Prop := ∀ (μ' : List Addr) (H' : Hp) (v : V), Ext c μ H μ' H' → StoOk c μ' S' H' → Rep c μ' H' d v → Q v H'
def tE (c : FC) (f : FE) : TE := fun σ H Q => ∃ μ env S d S', EnvOk c μ H env σ ∧ StoOk c μ S H ∧ f env S = some (d, S') ∧ After c μ H S' d Q
def tT (c : FC) (f : FT) : TT := fun σ H Q => ∃ μ env S b S', EnvOk c μ H env σ ∧ StoOk c μ S H ∧ f env S = some (b, S') ∧ ∀ μ' H', Ext c μ H μ' H' → StoOk c μ' S' H' → Q b H'
def tA (c : FC) (f : FA) : TA := fun σ H Q => ∃ μ env S ds S', EnvOk c μ H env σ ∧ StoOk c μ S H ∧ f env S = some (ds, S') ∧ ∀ μ' H' vs, Ext c μ H μ' H' → StoOk c μ' S' H' → Reps c μ' H' ds vs → Q vs H'
def r2 (c : FC) (r : F2) : R2 := fun x y H Q => ∃ μ S dx dy d S', StoOk c μ S H ∧ Rep c μ H dx x ∧ Rep c μ H dy y ∧ r dx dy S = some (d, S') ∧ After c μ H S' d Q
def r1 (c : FC) (r : F1) : V → Hp → VK → Prop := fun x H Q => ∃ μ S dx d S', StoOk c μ S H ∧ Rep c μ H dx x ∧ r dx S = some (d, S') ∧ After c μ H S' d Q
def rA (c : FC) (r : FF) : List V → Hp → VK → Prop := fun xs H Q => ∃ μ S ds d S', StoOk c μ S H ∧ Reps c μ H ds xs ∧ r ds S = some (d, S') ∧ After c μ H S' d Q
def rM (c : FC) (r : D → FF) : V → List V → Hp → VK → Prop := fun x xs H Q => ∃ μ S dx ds d S', StoOk c μ S H ∧ Rep c μ H dx x ∧ Reps c μ H ds xs ∧ r dx ds S = some (d, S') ∧ After c μ H S' d Q

theorem PE.w {X : Cx} {e : Expr} {t t' : TE} (h : PE X e t) (w : ∀ σ H Q, t' σ H Q → t σ H Q) : PE X e t' := ⟨fun pins s σ H Q I q => h.run pins s σ H Q I (w σ H Q q)⟩
theorem PT.w {X : Cx} {e : Expr} {t t' : TT} (h : PT X e t) (w : ∀ σ H Q, t' σ H Q → t σ H Q) : PT X e t' := ⟨fun pins s σ H Q I q => h.run pins s σ H Q I (w σ H Q q)⟩
theorem PW.w {X : Cx} {e : Expr} {t t' : TT} (h : PW X e t) (w : ∀ σ H Q, t' σ H Q → t σ H Q) : PW X e t' := ⟨fun wh pins s σ H Q I q => h.run wh pins s σ H Q I (w σ H Q q)⟩
theorem PA.w {X : Cx} {es : List Expr} {t t' : TA} (h : PA X es t) (w : ∀ σ H Q, t' σ H Q → t σ H Q) : PA X es t' := ⟨fun pos pins s σ H Q I q => h.run pos pins s σ H Q I (w σ H Q q)⟩
theorem OpR.w {X : Cx} {f : Value → Value → Sem Value} {r r' : R2} (h : OpR X f r) (w : ∀ x y H Q, r' x y H Q → r x y H Q) : OpR X f r' := fun pins s σ H x y v u Q I r1 r2 q => h pins s σ H x y v u Q I r1 r2 (w x y H Q q)
theorem UnR.w {X : Cx} {f : Value → Sem Value} {r r' : V → Hp → VK → Prop} (h : UnR X f r) (w : ∀ x H Q, r' x H Q → r x H Q) : UnR X f r' := fun pins s σ H x v Q I r1 q => h pins s σ H x v Q I r1 (w x H Q q)
theorem CallR.w {X : Cx} {f : Value} {r r' : List V → Hp → VK → Prop} (h : CallR X f r) (w : ∀ xs H Q, r' xs H Q → r xs H Q) : CallR X f r' := fun pins s σ H xs us Q I r1 q => h pins s σ H xs us Q I r1 (w xs H Q q)
theorem IxR.w {X : Cx} {r r' : R2} (h : IxR X r) (w : ∀ x y H Q, r' x y H Q → r x y H Q) : IxR X r' := fun va sl pins s σ H x y v u Q I r1 r2 q hs => h va sl pins s σ H x y v u Q I r1 r2 (w x y H Q q) hs
theorem MtR.w {X : Cx} {id : String} {r r' : V → List V → Hp → VK → Prop} (h : MtR X id r) (w : ∀ x xs H Q, r' x xs H Q → r x xs H Q) : MtR X id r' := fun pins s σ H x xs v us Q I r1 r2 q => h pins s σ H x xs v us Q I r1 r2 (w x xs H Q q)

theorem After.ext {c : FC} {μ μ1 : List Addr} {H H1 : Hp} {S' : Sto} {d : D} {Q : VK} (h : After c μ H S' d Q) (e : Ext c μ H μ1 H1) : After c μ1 H1 S' d Q := fun μ' H' v e' k r => h μ' H' v (e.trans e') k r
theorem After.now {c : FC} {μ : List Addr} {H : Hp} {S' : Sto} {d : D} {Q : VK} {v : V} (h : After c μ H S' d Q) (k : StoOk c μ S' H) (r : Rep c μ H d v) : Q v H := h μ H v Ext.refl k r

/-! ### names, constants -/
def eVar (i : Nat) : FE := fun env S => match env[i]? with
  | some (some d) => some (d, S)
  | _ => none
def eC (d : D) : FE := fun _ S => some (d, S)
section
variable {c : FC} {X : Cx}
theorem q_var (i : Nat) {x : Str} {pos : Pos} (hN : X.N[i]? = some x := by rfl) (hv : Vis X.env.scope x := by first | exact Or.inl rfl | exact Or.inr (Or.inl rfl) | exact Or.inr (Or.inr rfl)) (hd : (x == ("__debug__" : Str)) = false := by decide)
    (hcd : (x == ("__classdict__" : Str)) = false := by decide) : PE X (.Name x pos) (tE c (eVar i)) := by
  refine PE.w (pe_var hN hv hd hcd) fun σ H Q h => ?_
  obtain ⟨μ, env, S, d, S', he, hs, hf, ha⟩ := h
  unfold eVar at hf
  split at hf
  · rename_i d' e
    cases hf
    obtain ⟨v, e1, r⟩ := he.2 i d e
    exact ⟨v, e1, ha.now hs r⟩
  · cases hf
theorem q_con {e : Expr} {v : V} {d : D} (h : PE X e (tC v)) (r : ∀ μ H, Rep c μ H d v) : PE X e (tE c (eC d)) := by
  refine PE.w h fun σ H Q h => ?_
  obtain ⟨μ, env, S, d', S', he, hs, hf, ha⟩ := h
  have e' : (d, S) = (d', S') := Option.some.inj hf
  cases e'
  exact ha.now hs (r μ H)
theorem q_int {i : Int} {j pos} : PE X (.Constant (.int i) j pos) (tE c (eC (.int i))) := q_con pe_int fun _ _ => rfl
theorem q_bl {b : Bool} {j pos} : PE X (.Constant (.bool b) j pos) (tE c (eC (.bl b))) := q_con pe_bl fun _ _ => rfl
theorem q_non {j pos} : PE X (.Constant .none j pos) (tE c (eC .non)) := q_con pe_non fun _ _ => rfl
theorem q_str {x : Str} {j pos} : PE X (.Constant (.str x) j pos) (tE c (eC (.str x))) := q_con pe_str fun _ _ => rfl
/-- a constant of the module -/
def Cst (c : FC) (u : Value) (d : D) : Prop := ∃ v, RelV v u ∧ ∀ μ H, Rep c μ H d v
theorem q_glob {x : Str} {u : Value} {d : D} {pos : Pos} (hg : Gl X x) (hm : X.mg x = some u) (h : Cst c u d) (hd : (x == ("__debug__" : Str)) = false := by decide) : PE X (.Name x pos) (tE c (eC d)) :=
  let ⟨_, r, k⟩ := h
  q_con (pe_glob hg hm r hd) k

/-! ### two operands, one -/
def eBin (r : F2) (fa fb : FE) : FE := fun env S => th (fa env S) fun x S1 => th (fb env S1) fun y S2 => r x y S2
def eUn (r : F1) (fa : FE) : FE := fun env S => th (fa env S) fun x S1 => r x S1
variable {a b cc e : Expr} {fa fb fc : FE} {pos : Pos} {r : F2}
theorem bin_red {σ : L2.St} {H : Hp} {Q : VK} (h : tE c (eBin r fa fb) σ H Q) : tOp (r2 c r) (tE c fa) (tE c fb) σ H Q := by
  obtain ⟨μ, env, S, d, S', he, hs, hf, ha⟩ := h
  obtain ⟨x, S1, h1, hf⟩ := th_inv hf
  obtain ⟨y, S2, h2, hf⟩ := th_inv hf
  refine ⟨μ, env, S, x, S1, he, hs, h1, fun μ1 H1 v e1 k1 r1 => ?_⟩
  refine ⟨μ1, env, S1, y, S2, he.mono e1, k1, h2, fun μ2 H2 w e2 k2 q2 => ?_⟩
  exact ⟨μ2, S2, x, y, d, S', k2, Rep.mono e2 _ _ r1, q2, hf, (ha.ext e1).ext e2⟩
theorem q_bin {op : Operator} (ho : OpR X (binaryOp op) (r2 c r)) (ha : PE X a (tE c fa)) (hb : PE X b (tE c fb)) : PE X (.BinOp a op b pos) (tE c (eBin r fa fb)) := PE.w (pe_op ho ha hb) fun _ _ _ => bin_red
theorem q_cmp {op : CmpOp} (ho : OpR X (compareOp op) (r2 c r)) (ha : PE X a (tE c fa)) (hb : PE X b (tE c fb)) (hm : behindInMarks op b = false := by rfl) : PE X (.Compare a [op] [b] pos) (tE c (eBin r fa fb)) := PE.w (pe_cmpR ho ha hb hm) fun _ _ _ => bin_red
theorem q_un {op : UnaryOp} {r : F1} (ho : UnR X (unaryOp op) (r1 c r)) (ha : PE X a (tE c fa)) : PE X (.UnaryOp op a pos) (tE c (eUn r fa)) := by
  refine PE.w (pe_un ho ha) fun σ H Q h => ?_
  obtain ⟨μ, env, S, d, S', he, hs, hf, ha⟩ := h
  obtain ⟨x, S1, h1, hf⟩ := th_inv hf
  exact ⟨μ, env, S, x, S1, he, hs, h1, fun μ1 H1 v e1 k1 q1 => ⟨μ1, S1, x, d, S', k1, q1, hf, ha.ext e1⟩⟩
theorem q_ix (hr : IxR X (r2 c r)) (ha : PE X a (tE c fa)) (hb : PE X b (tE c fb)) (hs : PlainIx b := by exact fun _ _ => rfl) : PE X (.Subscript a b pos) (tE c (eBin r fa fb)) := PE.w (pe_ix hr ha hb hs) fun _ _ _ => bin_red

/-! ### argument lists, displays -/
def aNil : FA := fun _ S => some ([], S)
def aCons (fa : FE) (fr : FA) : FA := fun env S => th (fa env S) fun x S1 => th (fr env S1) fun xs S2 => some (x :: xs, S2)
def eTup (fr : FA) : FE := fun env S => th (fr env S) fun ds S1 => if ds.length ≤ cap then some (.tup ds, S1) else none
def eLst (fr : FA) : FE := fun env S => th (fr env S) fun ds S1 => if ds.length ≤ cap then some (.ref S1.length, S1 ++ [.lst ds]) else none
variable {es : List Expr} {fr : FA}
theorem q_nil : PA X [] (tA c aNil) := by
  refine PA.w pa_nil fun σ H Q h => ?_
  obtain ⟨μ, env, S, ds, S', he, hs, hf, ha⟩ := h
  have e' : (([] : List D), S) = (ds, S') := Option.some.inj hf
  cases e'
  exact ha μ H [] Ext.refl hs rfl
theorem q_cons (ha : PE X e (tE c fa)) (hr : PA X es (tA c fr)) (hs : starEach (e :: es) X.env = (false, eval e X.env) :: starEach es X.env := by rfl) : PA X (e :: es) (tA c (aCons fa fr)) := by
  refine PA.w (pa_cons ha hr hs) fun σ H Q h => ?_
  obtain ⟨μ, env, S, ds, S', he, hs, hf, ha⟩ := h
  obtain ⟨x, S1, h1, hf⟩ := th_inv hf
  obtain ⟨xs, S2, h2, hf⟩ := th_inv hf
  cases hf
  refine ⟨μ, env, S, x, S1, he, hs, h1, fun μ1 H1 v e1 k1 q1 => ?_⟩
  refine ⟨μ1, env, S1, xs, _, he.mono e1, k1, h2, fun μ2 H2 vs e2 k2 q2 => ?_⟩
  exact ha μ2 H2 (v :: vs) (e1.trans e2) k2 ⟨v, vs, rfl, Rep.mono e2 _ _ q1, q2⟩
theorem tup_new {μ : List Addr} {S : Sto} {H : Hp} {ds : List D} {vs : List V} {p : Addr} (hs : StoOk c μ S H) (r : Reps c μ H ds vs) (hp : H p = none) :
    Ext c μ H μ (upd H p (.tup vs)) ∧ StoOk c μ S (upd H p (.tup vs)) ∧ Rep c μ (upd H p (.tup vs)) (.tup ds) (.ref p) :=
  ⟨Ext.upd (.inl hp), hs.same hp, p, vs, rfl, SqT.of upd_same, Reps.mono (Ext.upd (.inl hp)) _ _ r⟩
theorem lst_new {μ : List Addr} {S : Sto} {H : Hp} {ds : List D} {vs : List V} {p : Addr} (hs : StoOk c μ S H) (r : Reps c μ H ds vs) (hp : H p = none) :
    Ext c μ H (μ ++ [p]) (upd H p (.lst vs)) ∧ StoOk c (μ ++ [p]) (S ++ [.lst ds]) (upd H p (.lst vs)) ∧ Rep c (μ ++ [p]) (upd H p (.lst vs)) (.ref S.length) (.ref p) := by
  have e : Ext c μ H (μ ++ [p]) (upd H p (.lst vs)) := Ext.new hp
  refine ⟨e, hs.alloc hp ⟨vs, upd_same, Reps.mono e _ _ r⟩, p, ?_, rfl⟩
  rw [← hs.len, List.getElem?_append_right (Nat.le_refl _), Nat.sub_self]
  rfl
theorem q_tup {k : Nat} (hr : PA X es (tA c fr)) : PE X (.Tuple es k pos) (tE c (eTup fr)) := by
  refine PE.w (pe_tup hr) fun σ H Q h => ?_
  obtain ⟨μ, env, S, d, S', he, hs, hf, ha⟩ := h
  obtain ⟨ds, S1, h1, hf⟩ := th_inv hf
  refine ⟨μ, env, S, ds, S1, he, hs, h1, fun μ1 H1 vs e1 k1 q1 => ?_⟩
  split at hf
  · rename_i hz
    cases hf
    refine ⟨by rw [q1.len]; exact cap_le hz, fun p hp => ?_⟩
    obtain ⟨x1, x2, x3⟩ := tup_new k1 q1 hp
    exact ha _ _ _ (e1.trans x1) x2 x3
  · cases hf
theorem q_lst (hr : PA X es (tA c fr)) : PE X (.List es pos) (tE c (eLst fr)) := by
  refine PE.w (pe_lst hr) fun σ H Q h => ?_
  obtain ⟨μ, env, S, d, S', he, hs, hf, ha⟩ := h
  obtain ⟨ds, S1, h1, hf⟩ := th_inv hf
  refine ⟨μ, env, S, ds, S1, he, hs, h1, fun μ1 H1 vs e1 k1 q1 => ?_⟩
  split at hf
  · rename_i hz
    cases hf
    refine ⟨by rw [q1.len]; exact cap_le hz, fun p hp => ?_⟩
    obtain ⟨x1, x2, x3⟩ := lst_new k1 q1 hp
    exact ha _ _ _ (e1.trans x1) x2 x3
  · cases hf

/-! ### calls: built-ins, types, methods of built-in types, defs -/
def eCall (F : FF) (fr : FA) : FE := fun env S => th (fr env S) fun ds S1 => F ds S1
def eMt (F : D → FF) (fo : FE) (fr : FA) : FE := fun env S => th (fo env S) fun x S1 => th (fr env S1) fun ds S2 => F x ds S2
theorem callB_red {F : FF} {σ : L2.St} {H : Hp} {Q : VK} (h : tE c (eCall F fr) σ H Q) : tCB (rA c F) (tA c fr) σ H Q := by
  obtain ⟨μ, env, S, d, S', he, hs, hf, ha⟩ := h
  obtain ⟨ds, S1, h1, hf⟩ := th_inv hf
  exact ⟨μ, env, S, ds, S1, he, hs, h1, fun μ1 H1 vs e1 k1 q1 => ⟨μ1, S1, ds, d, S', k1, q1, hf, ha.ext e1⟩⟩
theorem q_cb {F : FF} (h : PE X e (tCB (rA c F) (tA c fr))) : PE X e (tE c (eCall F fr)) := PE.w h fun _ _ _ => callB_red

/-- the promise of a def that is the function F -/
def spF (c : FC) (n : Nat) (F : FF) : Sp := fun vs H Q _ => vs.length = n ∧ rA c F vs H Q
theorem q_fn {n : Nat} {F : FF} {E : XK} (h : PE X e (tCall (spF c n F) [] E (tA c fr))) (hl : ∀ (env : Env) (S : Sto) (ds : List D) (S' : Sto), fr env S = some (ds, S') → ds.length = n) : PE X e (tE c (eCall F fr)) := by
  refine PE.w h fun σ H Q h => ?_
  obtain ⟨μ, env, S, d, S', he, hs, hf, ha⟩ := h
  obtain ⟨ds, S1, h1, hf⟩ := th_inv hf
  refine ⟨μ, env, S, ds, S1, he, hs, h1, fun μ1 H1 vs e1 k1 q1 => ?_⟩
  show spF c n F (vs ++ []) H1 Q E
  rw [List.append_nil]
  exact ⟨by rw [q1.len]; exact hl _ _ _ _ h1, μ1, S1, ds, d, S', k1, q1, hf, ha.ext e1⟩
end
theorem len0 : ∀ (env : Env) (S : Sto) (ds : List D) (S' : Sto), aNil env S = some (ds, S') → ds.length = 0 := fun _ _ _ _ h => by
  cases h
  rfl
theorem lenS {fa : FE} {fr : FA} {n : Nat} (h : ∀ (env : Env) (S : Sto) (ds : List D) (S' : Sto), fr env S = some (ds, S') → ds.length = n) : ∀ (env : Env) (S : Sto) (ds : List D) (S' : Sto), aCons fa fr env S = some (ds, S') → ds.length = n + 1 := fun env S ds S' q => by
  obtain ⟨x, S1, h1, q⟩ := th_inv q
  obtain ⟨xs, S2, h2, q⟩ := th_inv q
  cases q
  rw [List.length_cons, h env S1 xs _ h2]
end FL
/-! FL3: tests, and, or, not, conditional expressions, chains; the operators by data. -/
namespace FL
open PySem PySem.Spec PyProof.Rows L2

def getL (S : Sto) (n : Nat) : Option (List D) := match S[n]? with
  | some (.lst ds) => some ds
  | some (.ro ds) => some ds
  | _ => none
def getD (S : Sto) (n : Nat) : Option (List (Key × D)) := match S[n]? with
  | some (.dic kvs) => some kvs
  | some (.lck kvs) => some kvs
  | _ => none
def tru (d : D) (S : Sto) : Option Bool := match d with
  | .non => some false
  | .bl b => some b
  | .int i => some (i != 0)
  | .str x => if x.length ≤ cap then some ((x.length : Int) != 0) else none
  | .tup ds => some (!ds.isEmpty)
  | .ref n => match S[n]? with
    | some (.lst ds) => some (!ds.isEmpty)
    | some (.ro ds) => some (!ds.isEmpty)
    | some (.dic kvs) => some (!kvs.isEmpty)
    | _ => none
theorem ro_sq {c : FC} {μ : List Addr} {H : Hp} {a : Addr} {ds : List D} (h : RepO c μ H a (.ro ds)) : ∃ xs, SqL c.K H a xs ∧ Reps c μ H ds xs := by
  obtain ⟨xs, h, r⟩ := h
  exact ⟨xs, h.elim (fun ⟨o, q⟩ => .inl (.inr ⟨o, q⟩)) .inr, r⟩
theorem getL_sq {c : FC} {μ : List Addr} {S : Sto} {H : Hp} {n : Nat} {ds : List D} (hs : StoOk c μ S H) (h : getL S n = some ds) : ∃ a xs, μ[n]? = some a ∧ SqL c.K H a xs ∧ Reps c μ H ds xs := by
  unfold getL at h
  split at h
  · rename_i e
    cases h
    obtain ⟨a, e1, xs, q, r⟩ := hs.stands n _ e
    exact ⟨a, xs, e1, SqL.of q, r⟩
  · rename_i e
    cases h
    obtain ⟨a, e1, r⟩ := hs.stands n _ e
    obtain ⟨xs, q, r⟩ := ro_sq r
    exact ⟨a, xs, e1, q, r⟩
  · cases h
theorem isEmpty_reps {c : FC} {μ : List Addr} {H : Hp} {ds : List D} {xs : List V} (r : Reps c μ H ds xs) : ds.isEmpty = xs.isEmpty := by
  have h := r.len
  cases ds <;> cases xs <;> first | rfl | (simp at h)
theorem tru_ok {c : FC} {μ : List Addr} {S : Sto} {H : Hp} {d : D} {v : V} {b : Bool} (hs : StoOk c μ S H) (r : Rep c μ H d v) (h : tru d S = some b) : TruV c.K v H b := by
  cases d with
  | non =>
    cases h
    obtain rfl : v = .non := r
    exact rfl
  | bl k =>
    cases h
    obtain rfl : v = .bl b := r
    exact rfl
  | int i =>
    cases h
    obtain rfl : v = .int i := r
    exact rfl
  | str x =>
    obtain rfl : v = .str x := r
    have h' : (if x.length ≤ cap then some ((x.length : Int) != 0) else none) = some b := h
    by_cases hz : x.length ≤ cap
    · rw [if_pos hz] at h'
      cases h'
      exact ⟨cap_le hz, rfl⟩
    · rw [if_neg hz] at h'
      cases h'
  | tup ds =>
    cases h
    obtain ⟨a, xs, rfl, q, r⟩ := r
    exact .inr (.inl ⟨xs, q, by rw [isEmpty_reps r]⟩)
  | ref n =>
    obtain ⟨a, ha, rfl⟩ := r
    unfold tru at h
    simp only at h
    split at h
    · rename_i ds e
      cases h
      obtain ⟨b', e1, xs, q, rr⟩ := hs.stands n _ e
      rw [ha] at e1
      cases e1
      exact .inl ⟨xs, SqL.of q, by rw [isEmpty_reps rr]⟩
    · rename_i ds e
      cases h
      obtain ⟨b', e1, rr⟩ := hs.stands n _ e
      rw [ha] at e1
      cases e1
      obtain ⟨xs, q, rr⟩ := ro_sq rr
      exact .inl ⟨xs, q, by rw [isEmpty_reps rr]⟩
    · rename_i kvs e
      cases h
      obtain ⟨b', e1, ys, q, rr⟩ := hs.stands n _ e
      rw [ha] at e1
      cases e1
      refine .inr (.inr ⟨ys, q, ?_⟩)
      have hl := congrArg List.length rr.1
      rw [List.length_map, List.length_map] at hl
      cases kvs <;> cases ys <;> first | rfl | (simp at hl)
    · cases h

def tB (fe : FE) : FT := fun env S => th (fe env S) fun d S1 => match d with
  | .bl b => some (b, S1)
  | _ => none
def tTru (fe : FE) : FT := fun env S => th (fe env S) fun d S1 => (tru d S1).map fun b => (b, S1)
def tNot (ft : FT) : FT := fun env S => th (ft env S) fun b S1 => some (!b, S1)
def tAnd (fa fb : FT) : FT := fun env S => th (fa env S) fun b S1 => if b = true then fb env S1 else some (false, S1)
def tOr (fa fb : FT) : FT := fun env S => th (fa env S) fun b S1 => if b = true then some (true, S1) else fb env S1
def eIf (ft : FT) (fa fb : FE) : FE := fun env S => th (ft env S) fun b S1 => if b = true then fa env S1 else fb env S1
def eAnd (fa fb : FE) : FE := fun env S => th (fa env S) fun x S1 => match tru x S1 with
  | some true => fb env S1
  | some false => some (x, S1)
  | none => none
def eOr (fa fb : FE) : FE := fun env S => th (fa env S) fun x S1 => match tru x S1 with
  | some true => some (x, S1)
  | some false => fb env S1
  | none => none
def eNot (fa : FE) : FE := fun env S => th (fa env S) fun x S1 => match tru x S1 with
  | some b => some (.bl (!b), S1)
  | none => none

section
variable {c : FC} {X : Cx} {a b e cc : Expr} {fa fb fe : FE} {ft fu : FT} {pos : Pos} {rest : List Expr}
theorem tB_red {σ : L2.St} {H : Hp} {Q : Bool → Hp → Prop} {t : TE} (h : tT c (tB fe) σ H Q) (w : ∀ Q, tE c fe σ H Q → t σ H Q) : t σ H fun x H1 => ∃ k, x = .bl k ∧ Q k H1 := by
  obtain ⟨μ, env, S, b, S', he, hs, hf, ha⟩ := h
  obtain ⟨d, S1, h1, hf⟩ := th_inv hf
  refine w _ ⟨μ, env, S, d, S1, he, hs, h1, fun μ1 H1 v e1 k1 r => ?_⟩
  cases d with
  | bl k =>
    cases hf
    obtain rfl : v = .bl b := r
    exact ⟨b, rfl, ha _ _ e1 k1⟩
  | _ => cases hf
theorem q_tcmp {op : CmpOp} {r : F2} (ho : OpR X (compareOp op) (r2 c r)) (ha : PE X a (tE c fa)) (hb : PE X b (tE c fb)) (hm : behindInMarks op b = false := by rfl) : PT X (.Compare a [op] [b] pos) (tT c (tB (eBin r fa fb))) :=
  PT.w (pt_cmpR ho ha hb hm) fun _ _ _ h => tB_red h fun _ => bin_red
theorem q_tru (hK : c.K = X.K) (h : PE X e (tE c fe)) (he : ∀ whole, isTrue e X.env whole = (do let v ← whole; standAt e.pos; holding [v] (truthy v)) := by intro _; rfl) : PT X e (tT c (tTru fe)) := by
  refine PT.w (pt_truth h he) fun σ H Q h => ?_
  obtain ⟨μ, env, S, b, S', he, hs, hf, ha⟩ := h
  obtain ⟨d, S1, h1, hf⟩ := th_inv hf
  refine ⟨μ, env, S, d, S1, he, hs, h1, fun μ1 H1 v e1 k1 r => ?_⟩
  obtain ⟨k, ek, e2⟩ := Option.map_eq_some_iff.mp hf
  cases e2
  exact ⟨b, by rw [← hK]; exact tru_ok k1 r ek, ha _ _ e1 k1⟩
theorem q_tnot (h : PT X a (tT c ft)) : PT X (.UnaryOp .Not a pos) (tT c (tNot ft)) := by
  refine PT.w (pt_not h) fun σ H Q h => ?_
  obtain ⟨μ, env, S, b, S', he, hs, hf, ha⟩ := h
  obtain ⟨d, S1, h1, hf⟩ := th_inv hf
  cases hf
  exact ⟨μ, env, S, d, _, he, hs, h1, fun μ1 H1 e1 k1 => ha _ _ e1 k1⟩
theorem q_wand1 (h : PT X a (tT c ft)) : PW X (.BoolOp .And [a] pos) (tT c ft) := pw_and1 h
theorem q_wor1 (h : PT X a (tT c ft)) : PW X (.BoolOp .Or [a] pos) (tT c ft) := pw_or1 h
theorem q_wand (h : PT X a (tT c ft)) (k : PW X (.BoolOp .And (b :: rest) pos) (tT c fu)) : PW X (.BoolOp .And (a :: b :: rest) pos) (tT c (tAnd ft fu)) := by
  refine PW.w (pw_and h k) fun σ H Q h => ?_
  obtain ⟨μ, env, S, b, S', he, hs, hf, ha⟩ := h
  obtain ⟨d, S1, h1, hf⟩ := th_inv hf
  refine ⟨μ, env, S, d, _, he, hs, h1, fun μ1 H1 e1 k1 => ?_⟩
  cases d with
  | true => exact ⟨μ1, env, S1, b, S', he.mono e1, k1, hf, fun μ2 H2 e2 k2 => ha _ _ (e1.trans e2) k2⟩
  | false =>
    cases hf
    exact ha _ _ e1 k1
theorem q_wor (h : PT X a (tT c ft)) (k : PW X (.BoolOp .Or (b :: rest) pos) (tT c fu)) : PW X (.BoolOp .Or (a :: b :: rest) pos) (tT c (tOr ft fu)) := by
  refine PW.w (pw_or h k) fun σ H Q h => ?_
  obtain ⟨μ, env, S, b, S', he, hs, hf, ha⟩ := h
  obtain ⟨d, S1, h1, hf⟩ := th_inv hf
  refine ⟨μ, env, S, d, _, he, hs, h1, fun μ1 H1 e1 k1 => ?_⟩
  cases d with
  | false => exact ⟨μ1, env, S1, b, S', he.mono e1, k1, hf, fun μ2 H2 e2 k2 => ha _ _ (e1.trans e2) k2⟩
  | true =>
    cases hf
    exact ha _ _ e1 k1
theorem q_if (h : PT X cc (tT c ft)) (ha : PE X a (tE c fa)) (hb : PE X b (tE c fb)) : PE X (.IfExp cc a b pos) (tE c (eIf ft fa fb)) := by
  refine PE.w (pe_ifExp h ha hb) fun σ H Q h => ?_
  obtain ⟨μ, env, S, d, S', he, hs, hf, ha⟩ := h
  obtain ⟨k, S1, h1, hf⟩ := th_inv hf
  refine ⟨μ, env, S, k, _, he, hs, h1, fun μ1 H1 e1 k1 => ?_⟩
  cases k with
  | true => exact ⟨μ1, env, S1, d, S', he.mono e1, k1, hf, ha.ext e1⟩
  | false => exact ⟨μ1, env, S1, d, S', he.mono e1, k1, hf, ha.ext e1⟩
theorem q_one {op : BoolOp} (h : PE X a (tE c fa)) : PE X (.BoolOp op [a] pos) (tE c fa) := pe_one h
theorem q_and (hK : c.K = X.K) (h : PE X a (tE c fa)) (k : PE X (.BoolOp .And (b :: rest) pos) (tE c fb)) : PE X (.BoolOp .And (a :: b :: rest) pos) (tE c (eAnd fa fb)) := by
  refine PE.w (pe_andT h k) fun σ H Q h => ?_
  obtain ⟨μ, env, S, d, S', he, hs, hf, ha⟩ := h
  obtain ⟨x, S1, h1, hf⟩ := th_inv hf
  refine ⟨μ, env, S, x, _, he, hs, h1, fun μ1 H1 v e1 k1 r1 => ?_⟩
  split at hf
  · rename_i q
    exact ⟨true, by rw [← hK]; exact tru_ok k1 r1 q, ⟨μ1, env, S1, d, S', he.mono e1, k1, hf, ha.ext e1⟩⟩
  · rename_i q
    cases hf
    exact ⟨false, by rw [← hK]; exact tru_ok k1 r1 q, ha _ _ _ e1 k1 r1⟩
  · cases hf
theorem q_or (hK : c.K = X.K) (h : PE X a (tE c fa)) (k : PE X (.BoolOp .Or (b :: rest) pos) (tE c fb)) : PE X (.BoolOp .Or (a :: b :: rest) pos) (tE c (eOr fa fb)) := by
  refine PE.w (pe_orT h k) fun σ H Q h => ?_
  obtain ⟨μ, env, S, d, S', he, hs, hf, ha⟩ := h
  obtain ⟨x, S1, h1, hf⟩ := th_inv hf
  refine ⟨μ, env, S, x, _, he, hs, h1, fun μ1 H1 v e1 k1 r1 => ?_⟩
  split at hf
  · rename_i q
    cases hf
    exact ⟨true, by rw [← hK]; exact tru_ok k1 r1 q, ha _ _ _ e1 k1 r1⟩
  · rename_i q
    exact ⟨false, by rw [← hK]; exact tru_ok k1 r1 q, ⟨μ1, env, S1, d, S', he.mono e1, k1, hf, ha.ext e1⟩⟩
  · cases hf
theorem q_not (hK : c.K = X.K) (h : PE X a (tE c fa)) : PE X (.UnaryOp .Not a pos) (tE c (eNot fa)) := by
  refine PE.w (pe_notT h) fun σ H Q h => ?_
  obtain ⟨μ, env, S, d, S', he, hs, hf, ha⟩ := h
  obtain ⟨x, S1, h1, hf⟩ := th_inv hf
  refine ⟨μ, env, S, x, _, he, hs, h1, fun μ1 H1 v e1 k1 r1 => ?_⟩
  split at hf
  · rename_i k q
    cases hf
    exact ⟨k, by rw [← hK]; exact tru_ok k1 r1 q, ha _ _ _ e1 k1 rfl⟩
  · cases hf
/-- is None, is not None -/
def eIsN (fa : FE) : FE := fun env S => th (fa env S) fun x S1 => match x with
  | .non => some (.bl true, S1)
  | _ => some (.bl false, S1)
def eNotN (fa : FE) : FE := fun env S => th (fa env S) fun x S1 => match x with
  | .non => some (.bl false, S1)
  | _ => some (.bl true, S1)
theorem Rep.isN {μ : List Addr} {H : Hp} : ∀ {d : D} {v : V}, Rep c μ H d v → (decide (v = .non) = match d with | .non => true | _ => false)
  | .non, _, h => by
    obtain rfl := h
    rfl
  | .bl _, _, h => by
    obtain rfl := h
    rfl
  | .int _, _, h => by
    obtain rfl := h
    rfl
  | .str _, _, h => by
    obtain rfl := h
    rfl
  | .tup _, _, h => by
    obtain ⟨_, _, rfl, _⟩ := h
    rfl
  | .ref _, _, h => by
    obtain ⟨_, _, rfl⟩ := h
    rfl
theorem isN_red {σ : L2.St} {H : Hp} {Q : VK} (h : tE c (eIsN fa) σ H Q) : tIsN (tE c fa) σ H Q := by
  obtain ⟨μ, env, S, d, S', he, hs, hf, ha⟩ := h
  obtain ⟨x, S1, h1, hf⟩ := th_inv hf
  refine ⟨μ, env, S, x, _, he, hs, h1, fun μ1 H1 v e1 k1 r1 => ?_⟩
  show Q (.bl (decide (v = .non))) H1
  rw [r1.isN]
  cases x <;> (cases hf; exact ha _ _ _ e1 k1 rfl)
theorem notN_red {σ : L2.St} {H : Hp} {Q : VK} (h : tE c (eNotN fa) σ H Q) : tNotN (tE c fa) σ H Q := by
  obtain ⟨μ, env, S, d, S', he, hs, hf, ha⟩ := h
  obtain ⟨x, S1, h1, hf⟩ := th_inv hf
  refine ⟨μ, env, S, x, _, he, hs, h1, fun μ1 H1 v e1 k1 r1 => ?_⟩
  show Q (.bl (!decide (v = .non))) H1
  rw [r1.isN]
  cases x <;> (cases hf; exact ha _ _ _ e1 k1 rfl)
theorem q_isN {j pos'} (h : PE X a (tE c fa)) : PE X (.Compare a [.Is] [.Constant .none j pos'] pos) (tE c (eIsN fa)) := PE.w (pe_cmp (pc_isN h)) fun _ _ _ => isN_red
theorem q_notN {j pos'} (h : PE X a (tE c fa)) : PE X (.Compare a [.IsNot] [.Constant .none j pos'] pos) (tE c (eNotN fa)) := PE.w (pe_cmp (pc_notN h)) fun _ _ _ => notN_red
theorem q_tisN {j pos'} (h : PE X a (tE c fa)) : PT X (.Compare a [.Is] [.Constant .none j pos'] pos) (tT c (tB (eIsN fa))) := PT.w (pt_cmp (pc_isN h)) fun _ _ _ h => tB_red h fun _ => isN_red
theorem q_tnotN {j pos'} (h : PE X a (tE c fa)) : PT X (.Compare a [.IsNot] [.Constant .none j pos'] pos) (tT c (tB (eNotN fa))) := PT.w (pt_cmp (pc_notN h)) fun _ _ _ h => tB_red h fun _ => notN_red
end

/-! ### chains of comparisons -/
abbrev FC2 := D → Env → Sto → Option (D × Sto)
def chL (r : F2) (fb : FE) : FC2 := fun x env S => th (fb env S) fun y S1 => r x y S1
def chK (r : F2) (fb : FE) (t : FC2) : FC2 := fun x env S => th (fb env S) fun y S1 => th (r x y S1) fun k S2 => match k with
  | .bl true => t y env S2
  | .bl false => some (.bl false, S2)
  | _ => none
def eCh (fa : FE) (t : FC2) : FE := fun env S => th (fa env S) fun x S1 => t x env S1
structure PCh (c : FC) (X : Cx) (ops : List CmpOp) (es : List Expr) (t : FC2) : Prop where
  val : ∀ (pos : Pos) (pins : List (Addr × Obj)) (s : Shared) (σ : L2.St) (H : Hp) (v : V) (u : Value) (Q : VK) (μ : List Addr) (env : Env) (S : Sto) (x d : D) (S' : Sto), Inv X pins σ H s → RelV v u → EnvOk c μ H env σ → StoOk c μ S H → Rep c μ H x v → t x env S = some (d, S') → After c μ H S' d Q →
    wpAny (model X.prog X.w) X.A (compareChain pos u ops (evalEach es X.env)) (EP X pins σ Q) X.xe s
  test : ∀ (pos : Pos) (pins : List (Addr × Obj)) (s : Shared) (σ : L2.St) (H : Hp) (v : V) (u : Value) (Q : Bool → Hp → Prop) (μ : List Addr) (env : Env) (S : Sto) (x : D) (k : Bool) (S' : Sto), Inv X pins σ H s → RelV v u → EnvOk c μ H env σ → StoOk c μ S H → Rep c μ H x v → t x env S = some (.bl k, S') →
    (∀ μ' H', Ext c μ H μ' H' → StoOk c μ' S' H' → Q k H') → wpAny (model X.prog X.w) X.A (testChain pos u ops (evalEach es X.env)) (TP X pins σ Q) X.xe s
section
variable {c : FC} {X : Cx} {a b : Expr} {fa fb : FE} {pos : Pos} {op op' : CmpOp} {ops : List CmpOp} {es : List Expr} {r : F2} {t : FC2}
theorem q_chL (ho : OpR X (compareOp op) (r2 c r)) (hb : PE X b (tE c fb)) : PCh c X [op] [b] (chL r fb) := by
  refine ⟨fun pos pins s σ H v u Q μ env S x d S' I rv he hs rx hf ha => ?_, fun pos pins s σ H v u Q μ env S x k S' I rv he hs rx hf ha => ?_⟩
  · obtain ⟨y, S1, h1, hf⟩ := th_inv hf
    exact chain_last (thn (hb.run pins s σ H (fun w H1 => ∃ μ1, Ext c μ H μ1 H1 ∧ StoOk c μ1 S1 H1 ∧ Rep c μ1 H1 y w) I ⟨μ, env, S, y, S1, he, hs, h1, fun μ1 H1 w e1 k1 r1 => ⟨μ1, e1, k1, r1⟩⟩) fun w' s1 ⟨w, H1, I1, rw1, μ1, e1, k1, r1⟩ =>
      ho pins s1 σ H1 v w u w' Q I1 rv rw1 ⟨μ1, S1, x, y, d, S', k1, Rep.mono e1 _ _ rx, r1, hf, ha.ext e1⟩)
  · obtain ⟨y, S1, h1, hf⟩ := th_inv hf
    exact test_last (thn (hb.run pins s σ H (fun w H1 => ∃ μ1, Ext c μ H μ1 H1 ∧ StoOk c μ1 S1 H1 ∧ Rep c μ1 H1 y w) I ⟨μ, env, S, y, S1, he, hs, h1, fun μ1 H1 w e1 k1 r1 => ⟨μ1, e1, k1, r1⟩⟩) fun w' s1 ⟨w, H1, I1, rw1, μ1, e1, k1, r1⟩ =>
      thn (ho pins s1 σ H1 v w u w' (fun z H2 => z = .bl k ∧ Q k H2) I1 rv rw1 ⟨μ1, S1, x, y, _, S', k1, Rep.mono e1 _ _ rx, r1, hf, fun μ2 H2 z e2 k2 r2 => ⟨r2, ha _ _ (e1.trans e2) k2⟩⟩) fun z' s2 ⟨z, H2, I2, rz, ez, q2⟩ => by
        subst ez
        cases rz
        exact wpAny_truthy_bool ⟨H2, I2, q2⟩)
theorem q_chK (ho : OpR X (compareOp op) (r2 c r)) (hb : PE X b (tE c fb)) {b' : Expr} (hr : PCh c X (op' :: ops) (b' :: es) t) : PCh c X (op :: op' :: ops) (b :: b' :: es) (chK r fb t) := by
  refine ⟨fun pos pins s σ H v u Q μ env S x d S' I rv he hs rx hf ha => ?_, fun pos pins s σ H v u Q μ env S x k S' I rv he hs rx hf ha => ?_⟩
  · obtain ⟨y, S1, h1, hf⟩ := th_inv hf
    obtain ⟨z, S2, h2, hf⟩ := th_inv hf
    refine chain_link (thn (hb.run pins s σ H (fun w H1 => ∃ μ1, Ext c μ H μ1 H1 ∧ StoOk c μ1 S1 H1 ∧ Rep c μ1 H1 y w) I ⟨μ, env, S, y, S1, he, hs, h1, fun μ1 H1 w e1 k1 r1 => ⟨μ1, e1, k1, r1⟩⟩) fun w' s1 ⟨w, H1, I1, rw1, μ1, e1, k1, r1⟩ => ?_)
    refine thn (ho pins s1 σ H1 v w u w' (fun z' H2 => ∃ μ2, Ext c μ1 H1 μ2 H2 ∧ StoOk c μ2 S2 H2 ∧ Rep c μ2 H2 z z') I1 rv rw1 ⟨μ1, S1, x, y, z, S2, k1, Rep.mono e1 _ _ rx, r1, h2, fun μ2 H2 z' e2 k2 r2 => ⟨μ2, e2, k2, r2⟩⟩) fun z' s2 ⟨zv, H2, I2, rz, μ2, e2, k2, r2⟩ => ?_
    cases z with
    | bl k =>
      obtain rfl : zv = .bl k := r2
      cases rz
      refine wpAny_truthy_bool ?_
      cases k with
      | true => exact ite_tt (hr.val pos pins s2 σ H2 w w' Q μ2 env S2 y d S' I2 rw1 ((he.mono e1).mono e2) k2 (Rep.mono e2 _ _ r1) hf ((ha.ext e1).ext e2))
      | false =>
        cases hf
        exact ite_ff ⟨.bl false, H2, I2, rfl, ha _ _ _ (e1.trans e2) k2 rfl⟩
    | _ => cases hf
  · obtain ⟨y, S1, h1, hf⟩ := th_inv hf
    obtain ⟨z, S2, h2, hf⟩ := th_inv hf
    refine test_link (thn (hb.run pins s σ H (fun w H1 => ∃ μ1, Ext c μ H μ1 H1 ∧ StoOk c μ1 S1 H1 ∧ Rep c μ1 H1 y w) I ⟨μ, env, S, y, S1, he, hs, h1, fun μ1 H1 w e1 k1 r1 => ⟨μ1, e1, k1, r1⟩⟩) fun w' s1 ⟨w, H1, I1, rw1, μ1, e1, k1, r1⟩ => ?_)
    refine thn (ho pins s1 σ H1 v w u w' (fun z' H2 => ∃ μ2, Ext c μ1 H1 μ2 H2 ∧ StoOk c μ2 S2 H2 ∧ Rep c μ2 H2 z z') I1 rv rw1 ⟨μ1, S1, x, y, z, S2, k1, Rep.mono e1 _ _ rx, r1, h2, fun μ2 H2 z' e2 k2 r2 => ⟨μ2, e2, k2, r2⟩⟩) fun z' s2 ⟨zv, H2, I2, rz, μ2, e2, k2, r2⟩ => ?_
    cases z with
    | bl k' =>
      obtain rfl : zv = .bl k' := r2
      cases rz
      refine wpAny_truthy_bool ?_
      cases k' with
      | true => exact ite_tt (hr.test pos pins s2 σ H2 w w' Q μ2 env S2 y k S' I2 rw1 ((he.mono e1).mono e2) k2 (Rep.mono e2 _ _ r1) hf fun μ3 H3 e3 k3 => ha _ _ ((e1.trans e2).trans e3) k3)
      | false =>
        cases hf
        exact ite_ff ⟨H2, I2, ha _ _ (e1.trans e2) k2⟩
    | _ => cases hf
theorem q_ch {op'' : CmpOp} {b' : Expr} (ha : PE X a (tE c fa)) (hr : PCh c X (op :: op'' :: ops) (b :: b' :: es) t) (hm : lastMarks (op :: op'' :: ops) (b :: b' :: es) = false := by with_unfolding_all rfl) : PE X (.Compare a (op :: op'' :: ops) (b :: b' :: es) pos) (tE c (eCh fa t)) := by
  refine ⟨fun pins s σ H Q I h => ?_⟩
  obtain ⟨μ, env, S, d, S', he, hs, hf, hq⟩ := h
  obtain ⟨x, S1, h1, hf⟩ := th_inv hf
  refine Compare_chain (thn (ha.run pins s σ H (fun w H1 => ∃ μ1, Ext c μ H μ1 H1 ∧ StoOk c μ1 S1 H1 ∧ Rep c μ1 H1 x w) I ⟨μ, env, S, x, S1, he, hs, h1, fun μ1 H1 w e1 k1 r1 => ⟨μ1, e1, k1, r1⟩⟩) fun w' s1 ⟨w, H1, I1, rw1, μ1, e1, k1, r1⟩ => ?_) hm
  exact hr.val pos pins s1 σ H1 w w' Q μ1 env S1 x d S' I1 rw1 (he.mono e1) k1 r1 hf (hq.ext e1)
theorem q_tch {op'' : CmpOp} {b' : Expr} (ha : PE X a (tE c fa)) (hr : PCh c X (op :: op'' :: ops) (b :: b' :: es) t) (hm : lastMarks (op :: op'' :: ops) (b :: b' :: es) = false := by with_unfolding_all rfl) : PT X (.Compare a (op :: op'' :: ops) (b :: b' :: es) pos) (tT c (tB (eCh fa t))) := by
  refine ⟨fun pins s σ H Q I h => ?_⟩
  obtain ⟨μ, env, S, k, S', he, hs, hf, hq⟩ := h
  obtain ⟨d, S2, h2, hf⟩ := th_inv hf
  obtain ⟨x, S1, h1, h2⟩ := th_inv h2
  cases d with
  | bl k' =>
    cases hf
    refine isTrue_chain (thn (ha.run pins s σ H (fun w H1 => ∃ μ1, Ext c μ H μ1 H1 ∧ StoOk c μ1 S1 H1 ∧ Rep c μ1 H1 x w) I ⟨μ, env, S, x, S1, he, hs, h1, fun μ1 H1 w e1 k1 r1 => ⟨μ1, e1, k1, r1⟩⟩) fun w' s1 ⟨w, H1, I1, rw1, μ1, e1, k1, r1⟩ => ?_) hm
    exact hr.test pos pins s1 σ H1 w w' Q μ1 env S1 x _ S' I1 rw1 (he.mono e1) k1 r1 h2 fun μ2 H2 e2 k2 => hq _ _ (e1.trans e2) k2
  | _ => cases hf
end
end FL
/-! FL4: operators, subscripts, slices, built-ins and methods by data. -/
namespace FL
open PySem PySem.Spec PyProof.Rows L2

/-! ### dicts as lists of pairs -/
section
variable {κ : Type} [DecidableEq κ] {β : Type}
def valG (kvs : List (κ × β)) (k : κ) : Option β := (kvs.find? fun kv => decide (kv.1 = k)).map (·.2)
def putG (kvs : List (κ × β)) (k : κ) (v : β) : List (κ × β) := if (kvs.any fun kv => decide (kv.1 = k)) = true then kvs.map (fun kv => if kv.1 = k then (kv.1, v) else kv) else kvs ++ [(k, v)]
def dropG (kvs : List (κ × β)) (k : κ) : List (κ × β) := kvs.filter fun kv => decide (kv.1 ≠ k)
variable {c : FC} {μ : List Addr} {H : Hp}
theorem RepKV.nil : RepKV c μ H ([] : List (κ × D)) [] := ⟨rfl, rfl⟩
theorem RepKV.cons {k : κ} {d : D} {v : V} {kvs : List (κ × D)} {ys : List (κ × V)} (r : Rep c μ H d v) (h : RepKV c μ H kvs ys) : RepKV c μ H ((k, d) :: kvs) ((k, v) :: ys) := ⟨by rw [List.map_cons, List.map_cons, h.1], v, _, rfl, r, h.2⟩
theorem RepKV.inv {k : κ} {d : D} {kvs : List (κ × D)} {ys : List (κ × V)} (h : RepKV c μ H ((k, d) :: kvs) ys) : ∃ v ys', ys = (k, v) :: ys' ∧ Rep c μ H d v ∧ RepKV c μ H kvs ys' := by
  obtain ⟨h1, v, vs, h2, r, rr⟩ := h
  cases ys with
  | nil => simp at h1
  | cons y ys' =>
    rw [List.map_cons, List.map_cons] at h1
    rw [List.map_cons] at h2
    injection h1 with e1 e2
    injection h2 with e3 e4
    obtain ⟨y1, y2⟩ := y
    simp only at e1 e3
    subst e1
    subst e3
    exact ⟨y2, ys', rfl, r, e2, by rw [e4]; exact rr⟩
theorem RepKV.inv0 {ys : List (κ × V)} (h : RepKV c μ H ([] : List (κ × D)) ys) : ys = [] := by
  obtain ⟨h1, _⟩ := h
  cases ys with
  | nil => rfl
  | cons _ _ => simp at h1
theorem RepKV.len {kvs : List (κ × D)} {ys : List (κ × V)} (h : RepKV c μ H kvs ys) : ys.length = kvs.length := by
  have q := congrArg List.length h.1
  rw [List.length_map, List.length_map] at q
  exact q.symm
theorem RepKV.val : ∀ {kvs : List (κ × D)} {ys : List (κ × V)} (k : κ), RepKV c μ H kvs ys → (∀ d, valG kvs k = some d → ∃ v, valV ys k = some v ∧ Rep c μ H d v) ∧ (valG kvs k = none → valV ys k = none)
  | [], ys, k, h => by
    rw [h.inv0]
    exact ⟨(fun _ e => nomatch e), fun _ => rfl⟩
  | (k', d') :: kvs, ys, k, h => by
    obtain ⟨v, ys', rfl, r, h2⟩ := h.inv
    obtain ⟨i1, i2⟩ := RepKV.val k h2
    by_cases e : k' = k
    · have e1 : valG ((k', d') :: kvs) k = some d' := by simp [valG, List.find?_cons, e]
      rw [e1, valV_pos (p := (k', v)) e]
      exact ⟨(fun d q => by cases q; exact ⟨v, rfl, r⟩), (fun q => nomatch q)⟩
    · have e1 : valG ((k', d') :: kvs) k = valG kvs k := by simp [valG, List.find?_cons, e]
      rw [e1, valV_neg (p := (k', v)) e]
      exact ⟨i1, i2⟩
theorem RepKV.any : ∀ {kvs : List (κ × D)} {ys : List (κ × V)} (k : κ), RepKV c μ H kvs ys → (ys.any fun kv => decide (kv.1 = k)) = kvs.any fun kv => decide (kv.1 = k)
  | [], ys, k, h => by rw [h.inv0]; rfl
  | (k', d') :: kvs, ys, k, h => by
    obtain ⟨v, ys', rfl, r, h2⟩ := h.inv
    rw [List.any_cons, List.any_cons, RepKV.any k h2]
theorem RepKV.app : ∀ {kvs : List (κ × D)} {ys : List (κ × V)} {more : List (κ × D)} {zs : List (κ × V)}, RepKV c μ H kvs ys → RepKV c μ H more zs → RepKV c μ H (kvs ++ more) (ys ++ zs)
  | [], ys, _, _, h, k => by rw [h.inv0]; exact k
  | (k', d') :: kvs, ys, _, _, h, k => by
    obtain ⟨v, ys', rfl, r, h2⟩ := h.inv
    exact RepKV.cons r (RepKV.app h2 k)
theorem RepKV.map {k : κ} {d : D} {v : V} (r : Rep c μ H d v) : ∀ {kvs : List (κ × D)} {ys : List (κ × V)}, RepKV c μ H kvs ys → RepKV c μ H (kvs.map fun kv => if kv.1 = k then (kv.1, d) else kv) (ys.map fun kv => if kv.1 = k then (kv.1, v) else kv)
  | [], ys, h => by rw [h.inv0]; exact RepKV.nil
  | (k', d') :: kvs, ys, h => by
    obtain ⟨v', ys', rfl, r', h2⟩ := h.inv
    rw [List.map_cons, List.map_cons]
    by_cases e : k' = k
    · rw [if_pos e, if_pos e]
      exact RepKV.cons r (RepKV.map r h2)
    · rw [if_neg e, if_neg e]
      exact RepKV.cons r' (RepKV.map r h2)
theorem RepKV.put {k : κ} {d : D} {v : V} (r : Rep c μ H d v) {kvs : List (κ × D)} {ys : List (κ × V)} (h : RepKV c μ H kvs ys) : RepKV c μ H (putG kvs k d) (putK ys k v) := by
  unfold putG putK
  rw [h.any k]
  split
  · exact RepKV.map r h
  · exact h.app (RepKV.cons r RepKV.nil)
theorem RepKV.drop {k : κ} : ∀ {kvs : List (κ × D)} {ys : List (κ × V)}, RepKV c μ H kvs ys → RepKV c μ H (dropG kvs k) (dropK ys k)
  | [], ys, h => by rw [h.inv0]; exact RepKV.nil
  | (k', d') :: kvs, ys, h => by
    obtain ⟨v', ys', rfl, r', h2⟩ := h.inv
    have ih := RepKV.drop (k := k) h2
    unfold dropG dropK at ih ⊢
    rw [List.filter_cons, List.filter_cons]
    by_cases e : k' = k
    · rw [if_neg (by simp [e]), if_neg (by simp [e])]
      exact ih
    · rw [if_pos (by simp [e]), if_pos (by simp [e])]
      exact RepKV.cons r' ih
end
def keyD : D → Option Key
  | .int i => some (.inl i)
  | .str x => some (.inr x)
  | _ => none
def dKey : Key → D
  | .inl i => .int i
  | .inr x => .str x
theorem keyD_rep {c : FC} {μ : List Addr} {H : Hp} {d : D} {v : V} {k : Key} (r : Rep c μ H d v) (h : keyD d = some k) : v = kV k := by
  cases d with
  | int i =>
    cases h
    exact r
  | str x =>
    cases h
    exact r
  | _ => cases h
theorem dKey_rep {c : FC} {μ : List Addr} {H : Hp} (k : Key) : Rep c μ H (dKey k) (kV k) := by cases k <;> exact rfl
theorem getD_rd {c : FC} {μ : List Addr} {S : Sto} {H : Hp} {n : Nat} {kvs : List (Key × D)} (hs : StoOk c μ S H) (h : getD S n = some kvs) : ∃ a ys, μ[n]? = some a ∧ Rd H a (.dK ys) ∧ RepKV c μ H kvs ys := by
  unfold getD at h
  split at h
  · rename_i e
    cases h
    obtain ⟨a, e1, ys, q, r⟩ := hs.stands n _ e
    exact ⟨a, ys, e1, .inl q, r⟩
  · rename_i e
    cases h
    obtain ⟨a, e1, o, ys, q, r⟩ := hs.stands n _ e
    exact ⟨a, ys, e1, .inr ⟨o, q⟩, r⟩
  · cases h

/-! ### data that can be compared -/
mutual
def toPyG (g : Nat → Option PyData) : D → Option PyData
  | .non => some .none
  | .bl b => some (.bool b)
  | .int i => some (.int i)
  | .str x => some (.str x)
  | .tup ds => (toPysG g ds).map .tuple
  | .ref n => g n
def toPysG (g : Nat → Option PyData) : List D → Option (List PyData)
  | [] => some []
  | d :: ds => (toPyG g d).bind fun p => (toPysG g ds).map fun ps => p :: ps
end
def refPy (S : Sto) : Nat → Nat → Option PyData
  | 0, _ => none
  | k + 1, n => (getL S n).bind fun ds => (toPysG (refPy S k) ds).map .list
def toPy (S : Sto) (d : D) : Option PyData := toPyG (refPy S 4) d
section
variable {c : FC} {μ : List Addr} {S : Sto} {H : Hp}
mutual
theorem toPyG_dp {g : Nat → Option PyData} (hg : ∀ n a p, g n = some p → μ[n]? = some a → Dp c.K H (.ref a) p) : ∀ (d : D) (p : PyData) (v : V), toPyG g d = some p → Rep c μ H d v → Dp c.K H v p
  | .non, p, v, h, r => by
    cases h
    obtain rfl : v = .non := r
    exact .non
  | .bl b, p, v, h, r => by
    cases h
    obtain rfl : v = .bl b := r
    exact .bl b
  | .int i, p, v, h, r => by
    cases h
    obtain rfl : v = .int i := r
    exact .int i
  | .str x, p, v, h, r => by
    cases h
    obtain rfl : v = .str x := r
    exact .str x
  | .tup ds, p, v, h, r => by
    obtain ⟨a, xs, rfl, q, rr⟩ := r
    obtain ⟨ps, e1, e2⟩ := Option.map_eq_some_iff.mp h
    subst e2
    exact .tup q (toPysG_dp hg ds ps xs e1 rr)
  | .ref n, p, v, h, r => by
    obtain ⟨a, ha, rfl⟩ := r
    exact hg n a p h ha
theorem toPysG_dp {g : Nat → Option PyData} (hg : ∀ n a p, g n = some p → μ[n]? = some a → Dp c.K H (.ref a) p) : ∀ (ds : List D) (ps : List PyData) (xs : List V), toPysG g ds = some ps → Reps c μ H ds xs → DpAll c.K H xs ps
  | [], ps, xs, h, r => by
    cases h
    obtain rfl : xs = [] := r
    exact .nil
  | d :: ds, ps, xs, h, r => by
    obtain ⟨v, vs, rfl, r1, r2⟩ := r
    obtain ⟨p, e1, e2⟩ := Option.bind_eq_some_iff.mp h
    obtain ⟨qs, e3, e4⟩ := Option.map_eq_some_iff.mp e2
    subst e4
    exact .cons (toPyG_dp hg d p v e1 r1) (toPysG_dp hg ds qs vs e3 r2)
end
theorem refPy_dp (hs : StoOk c μ S H) : ∀ (k n : Nat) (a : Addr) (p : PyData), refPy S k n = some p → μ[n]? = some a → Dp c.K H (.ref a) p
  | 0, _, _, _, h, _ => nomatch h
  | k + 1, n, a, p, h, ha => by
    obtain ⟨ds, e1, e2⟩ := Option.bind_eq_some_iff.mp h
    obtain ⟨ps, e3, e4⟩ := Option.map_eq_some_iff.mp e2
    subst e4
    obtain ⟨a', xs, e5, q, r⟩ := getL_sq hs e1
    rw [ha] at e5
    cases e5
    exact .lst q (toPysG_dp (fun n a p => refPy_dp hs k n a p) ds ps xs e3 r)
theorem toPy_dp (hs : StoOk c μ S H) {d : D} {p : PyData} {v : V} (h : toPy S d = some p) (r : Rep c μ H d v) : Dp c.K H v p := toPyG_dp (fun n a p => refPy_dp hs 4 n a p) d p v h r
end
def oEq : F2 := fun x y S => match toPy S x, toPy S y with
  | some p, some q => if (SeqAt.shaped p && SeqAt.shaped q) = true then some (.bl (PyData.eqv p q), S) else none
  | _, _ => none
def oNe : F2 := fun x y S => match toPy S x, toPy S y with
  | some p, some q => if (SeqAt.shaped p && SeqAt.shaped q) = true then some (.bl (!PyData.eqv p q), S) else none
  | _, _ => none

/-! ### flat values -/
def flatD : D → Bool
  | .non => true
  | .bl _ => true
  | .int _ => true
  | .str _ => true
  | _ => false
def eqD : D → D → Bool
  | .non, .non => true
  | .bl a, .bl b => a == b
  | .bl a, .int b => (if a then 1 else 0) == b
  | .int a, .bl b => a == (if b then 1 else 0)
  | .int a, .int b => a == b
  | .str a, .str b => a == b
  | _, _ => false
def inD (x : D) (ds : List D) : Bool := ds.any fun y => eqD y x
section
variable {c : FC} {μ : List Addr} {H : Hp}
theorem flat_rep {d : D} {v : V} (h : flatD d = true) (r : Rep c μ H d v) : flatV v = true := by
  cases d with
  | non => obtain rfl : v = .non := r; rfl
  | bl b => obtain rfl : v = .bl b := r; rfl
  | int b => obtain rfl : v = .int b := r; rfl
  | str b => obtain rfl : v = .str b := r; rfl
  | _ => cases h
theorem eq_rep {d e : D} {v w : V} (h : flatD d = true) (k : flatD e = true) (r : Rep c μ H d v) (q : Rep c μ H e w) : eqV v w = eqD d e := by
  cases d with
  | non =>
    obtain rfl : v = .non := r
    cases e with
    | non => obtain rfl : w = .non := q; rfl
    | bl b => obtain rfl : w = .bl b := q; rfl
    | int b => obtain rfl : w = .int b := q; rfl
    | str b => obtain rfl : w = .str b := q; rfl
    | _ => cases k
  | bl a =>
    obtain rfl : v = .bl a := r
    cases e with
    | non => obtain rfl : w = .non := q; rfl
    | bl b => obtain rfl : w = .bl b := q; rfl
    | int b => obtain rfl : w = .int b := q; rfl
    | str b => obtain rfl : w = .str b := q; rfl
    | _ => cases k
  | int a =>
    obtain rfl : v = .int a := r
    cases e with
    | non => obtain rfl : w = .non := q; rfl
    | bl b => obtain rfl : w = .bl b := q; rfl
    | int b => obtain rfl : w = .int b := q; rfl
    | str b => obtain rfl : w = .str b := q; rfl
    | _ => cases k
  | str a =>
    obtain rfl : v = .str a := r
    cases e with
    | non => obtain rfl : w = .non := q; rfl
    | bl b => obtain rfl : w = .bl b := q; rfl
    | int b => obtain rfl : w = .int b := q; rfl
    | str b => obtain rfl : w = .str b := q; rfl
    | _ => cases k
  | _ => cases h
theorem flats_rep : ∀ {ds : List D} {xs : List V}, ds.all flatD = true → Reps c μ H ds xs → xs.all flatV = true
  | [], _, _, r => by
    obtain rfl := (show _ = [] from r)
    rfl
  | d :: ds, _, h, r => by
    obtain ⟨v, vs, rfl, r1, r2⟩ := r
    rw [List.all_cons, Bool.and_eq_true] at h
    rw [List.all_cons, flat_rep h.1 r1, flats_rep h.2 r2]
    rfl
theorem in_rep {x : D} {v : V} (hx : flatD x = true) (rx : Rep c μ H x v) : ∀ {ds : List D} {xs : List V}, ds.all flatD = true → Reps c μ H ds xs → inV v xs = inD x ds
  | [], _, _, r => by
    obtain rfl := (show _ = [] from r)
    rfl
  | d :: ds, _, h, r => by
    obtain ⟨w, vs, rfl, r1, r2⟩ := r
    rw [List.all_cons, Bool.and_eq_true] at h
    have ih := in_rep hx rx h.2 r2
    unfold inV inD at ih ⊢
    rw [List.any_cons, List.any_cons, eq_rep h.1 hx r1 rx, ih]
end
def signD : D → Option Nat
  | .str z => match z.cps.toList with
    | [k] => some k
    | _ => none
  | _ => none
def oInB (x y : D) (S : Sto) : Option Bool := match y with
  | .tup ds => if (flatD x && ds.all flatD) = true then some (inD x ds) else none
  | .str z => match signD x with
    | some k => some (decide (k ∈ z.cps.toList))
    | none => none
  | .ref n => match getL S n with
    | some ds => if (flatD x && ds.all flatD) = true then some (inD x ds) else none
    | none => match getD S n, keyD x with
      | some kvs, some k => some (valG kvs k).isSome
      | _, _ => none
  | _ => none
def oIn : F2 := fun x y S => (oInB x y S).map fun b => (.bl b, S)
def oNotIn : F2 := fun x y S => (oInB x y S).map fun b => (.bl (!b), S)

/-! ### arithmetic -/
def oAdd : F2 := fun x y S => match x, y with
  | .int i, .int j => some (.int (i + j), S)
  | .str a, .str b => if a.length + b.length ≤ cap then some (.str (a ++ b), S) else none
  | .tup xs, .tup ys => if xs.length + ys.length ≤ cap then some (.tup (xs ++ ys), S) else none
  | .ref n, .ref m => match S[n]?, S[m]? with
    | some (.lst xs), some (.lst ys) => if xs.length + ys.length ≤ cap then some (.ref S.length, S ++ [.lst (xs ++ ys)]) else none
    | _, _ => none
  | _, _ => none
def oSub : F2 := fun x y S => match x, y with
  | .int i, .int j => some (.int (i - j), S)
  | _, _ => none
def okMul (i j : Int) : Bool := (decide (-18446744073709551616 < i) && decide (i < 18446744073709551616)) || (decide (-18446744073709551616 < j) && decide (j < 18446744073709551616))
def oMul : F2 := fun x y S => match x, y with
  | .int i, .int j => if okMul i j = true then some (.int (i * j), S) else none
  | .ref n, .int k => match S[n]? with
    | some (.lst xs) => if (decide (0 ≤ k) && decide (k < 1000000) && decide (xs.length * k.toNat ≤ cap)) = true then some (.ref S.length, S ++ [.lst (List.replicate k.toNat xs).flatten]) else none
    | _ => none
  | _, _ => none
def okDiv (j : Int) : Bool := decide (0 < j) && decide (j < 18446744073709551616)
def oDiv : F2 := fun x y S => match x, y with
  | .int i, .int j => if okDiv j = true then some (.int (i / j), S) else none
  | _, _ => none
def oMod : F2 := fun x y S => match x, y with
  | .int i, .int j => if 0 < j then some (.int (i % j), S) else none
  | _, _ => none
def oPow : F2 := fun x y S => match x, y with
  | .int i, .int j => if (decide (0 ≤ j) && decide (j ≤ 1000) && decide (i.natAbs < 18446744073709551616)) = true then some (.int (i ^ j.toNat), S) else none
  | _, _ => none
def oNeg : F1 := fun x S => match x with
  | .int i => some (.int (-i), S)
  | _ => none
def oLt : F2 := fun x y S => match x, y with
  | .int i, .int j => some (.bl (decide (i < j)), S)
  | _, _ => none
def oLe : F2 := fun x y S => match x, y with
  | .int i, .int j => some (.bl (decide (i ≤ j)), S)
  | _, _ => none
def oGt : F2 := fun x y S => match x, y with
  | .int i, .int j => some (.bl (decide (j < i)), S)
  | _, _ => none
def oGe : F2 := fun x y S => match x, y with
  | .int i, .int j => some (.bl (decide (j ≤ i)), S)
  | _, _ => none

section
variable {c : FC} {X : Cx}
theorem dEq (hK : c.K = X.K) (hu : X.A.units + 64 < cLine) : OpR X (compareOp .Eq) (r2 c oEq) := by
  refine OpR.w (op_eqD hu) fun x y H Q h => ?_
  obtain ⟨μ, S, dx, dy, d, S', hs, rx, ry, hf, ha⟩ := h
  unfold oEq at hf
  split at hf
  · rename_i p q e1 e2
    split at hf
    · rename_i hz
      cases hf
      rw [Bool.and_eq_true] at hz
      exact ⟨p, q, by rw [← hK]; exact toPy_dp hs e1 rx, by rw [← hK]; exact toPy_dp hs e2 ry, hz.1, hz.2, ha.now hs rfl⟩
    · cases hf
  · cases hf
theorem dNe (hK : c.K = X.K) (hu : X.A.units + 64 < cLine) : OpR X (compareOp .NotEq) (r2 c oNe) := by
  refine OpR.w (op_neD hu) fun x y H Q h => ?_
  obtain ⟨μ, S, dx, dy, d, S', hs, rx, ry, hf, ha⟩ := h
  unfold oNe at hf
  split at hf
  · rename_i p q e1 e2
    split at hf
    · rename_i hz
      cases hf
      rw [Bool.and_eq_true] at hz
      exact ⟨p, q, by rw [← hK]; exact toPy_dp hs e1 rx, by rw [← hK]; exact toPy_dp hs e2 ry, hz.1, hz.2, ha.now hs rfl⟩
    · cases hf
  · cases hf
theorem op_inDict (hu : X.A.units + 1 < cLine) : OpR X (compareOp .In) (fun y x H Q => ∃ a o, x = .ref a ∧ DGet H a y o ∧ Q (.bl o.isSome) H) := by
  intro pins s σ H y x iv u Q I ry rx h
  obtain ⟨a, ov, ex, g, q⟩ := h
  subst ex
  obtain rfl : u = Value.ref a := rx
  exact d_in hu I g ry fun s3 I3 => ⟨.bl ov.isSome, H, I3, rfl, q⟩
theorem op_notInDict (hu : X.A.units + 1 < cLine) : OpR X (compareOp .NotIn) (fun y x H Q => ∃ a o, x = .ref a ∧ DGet H a y o ∧ Q (.bl (!o.isSome)) H) := by
  intro pins s σ H y x iv u Q I ry rx h
  obtain ⟨a, ov, ex, g, q⟩ := h
  subst ex
  obtain rfl : u = Value.ref a := rx
  exact d_notIn hu I g ry fun s3 I3 => ⟨.bl (!ov.isSome), H, I3, rfl, q⟩
theorem sign_rep {μ : List Addr} {H : Hp} {x : D} {v : V} {k : Nat} (h : signD x = some k) (r : Rep c μ H x v) : v = .str ⟨#[k]⟩ := by
  cases x with
  | str z =>
    obtain rfl : v = .str z := r
    unfold signD at h
    simp only at h
    split at h
    · rename_i k' e
      cases h
      have : z = ⟨#[k]⟩ := by
        obtain ⟨⟨l⟩⟩ := z
        simp at e
        rw [e]
      rw [this]
    · cases h
  | _ => cases h
theorem inB_red (neg : Bool) (hK : c.K = X.K) {x y : V} {H : Hp} {Q : VK} {μ : List Addr} {S : Sto} {dx dy : D} {b : Bool} (hs : StoOk c μ S H) (rx : Rep c μ H dx x) (ry : Rep c μ H dy y) (hf : oInB dx dy S = some b) (q : Q (.bl (if neg then !b else b)) H) :
    rIn X.K neg x y H Q ∨ (∃ (k : Nat) (z : Str), x = .str ⟨#[k]⟩ ∧ y = .str z ∧ Q (.bl (if neg then !decide (k ∈ z.cps.toList) else decide (k ∈ z.cps.toList))) H) ∨ ∃ a o, y = .ref a ∧ DGet H a x o ∧ Q (.bl (if neg then !o.isSome else o.isSome)) H := by
  cases dy with
  | tup ds =>
    obtain ⟨a, xs, rfl, hq, r⟩ := ry
    unfold oInB at hf
    simp only at hf
    split at hf
    · rename_i hz
      cases hf
      rw [Bool.and_eq_true] at hz
      exact .inl ⟨a, xs, rfl, .inr (by rw [← hK]; exact hq), flat_rep hz.1 rx, flats_rep hz.2 r, by rw [in_rep hz.1 rx hz.2 r]; exact q⟩
    · cases hf
  | str z =>
    obtain rfl : y = .str z := ry
    unfold oInB at hf
    simp only at hf
    split at hf
    · rename_i k e
      cases hf
      exact .inr (.inl ⟨k, z, sign_rep e rx, rfl, q⟩)
    · cases hf
  | ref n =>
    obtain ⟨a, ha, rfl⟩ := ry
    unfold oInB at hf
    simp only at hf
    split at hf
    · rename_i ds e
      split at hf
      · rename_i hz
        cases hf
        rw [Bool.and_eq_true] at hz
        obtain ⟨a', xs, e1, hq, r⟩ := getL_sq hs e
        rw [ha] at e1
        cases e1
        exact .inl ⟨a, xs, rfl, .inl (by rw [← hK]; exact hq), flat_rep hz.1 rx, flats_rep hz.2 r, by rw [in_rep hz.1 rx hz.2 r]; exact q⟩
      · cases hf
    · split at hf
      · rename_i kvs k e1 e2
        cases hf
        obtain ⟨a', ys, e3, hq, r⟩ := getD_rd hs e1
        rw [ha] at e3
        cases e3
        refine .inr (.inr ⟨a, valV ys k, rfl, .inl ⟨ys, k, hq, keyD_rep rx e2, rfl⟩, ?_⟩)
        have ei : (valV ys k).isSome = (valG kvs k).isSome := by
          obtain ⟨i1, i2⟩ := r.val k
          cases hv : valG kvs k with
          | none => rw [i2 hv]; rfl
          | some d =>
            obtain ⟨v, e, _⟩ := i1 d hv
            rw [e]
            rfl
        rw [ei]
        exact q
      · cases hf
  | _ => cases hf
theorem dIn (hK : c.K = X.K) (hu : X.A.units + 64 < cLine) : OpR X (compareOp .In) (r2 c oIn) := by
  refine OpR.w (op_in_seq.or (op_in_sign.or (op_inDict (by omega)))) fun x y H Q h => ?_
  obtain ⟨μ, S, dx, dy, d, S', hs, rx, ry, hf, ha⟩ := h
  obtain ⟨b, e1, e2⟩ := Option.map_eq_some_iff.mp hf
  cases e2
  exact inB_red false hK hs rx ry e1 (ha.now hs rfl)
theorem dNotIn (hK : c.K = X.K) (hu : X.A.units + 64 < cLine) : OpR X (compareOp .NotIn) (r2 c oNotIn) := by
  refine OpR.w (op_notIn_seq.or (op_notIn_sign.or (op_notInDict (by omega)))) fun x y H Q h => ?_
  obtain ⟨μ, S, dx, dy, d, S', hs, rx, ry, hf, ha⟩ := h
  obtain ⟨b, e1, e2⟩ := Option.map_eq_some_iff.mp hf
  cases e2
  exact inB_red true hK hs rx ry e1 (ha.now hs rfl)
theorem dAdd (hK : c.K = X.K) : OpR X (binaryOp .Add) (r2 c oAdd) := by
  refine OpR.w (op_add.or (op_add_str.or (op_catA.or op_cat))) fun x y H Q h => ?_
  obtain ⟨μ, S, dx, dy, d, S', hs, rx, ry, hf, ha⟩ := h
  unfold oAdd at hf
  split at hf
  · cases hf
    obtain rfl := (show x = .int _ from rx)
    obtain rfl := (show y = .int _ from ry)
    exact .inl ⟨_, _, rfl, rfl, ha.now hs rfl⟩
  · split at hf
    · rename_i hz
      cases hf
      obtain rfl := (show x = .str _ from rx)
      obtain rfl := (show y = .str _ from ry)
      exact .inr (.inl ⟨_, _, rfl, rfl, cap_le hz, ha.now hs rfl⟩)
    · cases hf
  · split at hf
    · rename_i us ws hz
      cases hf
      obtain ⟨a, xs, rfl, q1, r1⟩ := rx
      obtain ⟨b, ys, rfl, q2, r2⟩ := ry
      refine .inr (.inr (.inl ⟨a, b, xs, ys, rfl, rfl, by rw [← hK]; exact q1, by rw [← hK]; exact q2, by rw [r1.len, r2.len]; exact cap_le hz, fun ex => ?_, fun _ ey => ?_, fun _ _ p hp => ?_⟩))
      · refine ha.now hs ⟨b, ys, rfl, q2, ?_⟩
        have : us = [] := by
          have := r1.len
          rw [ex] at this
          exact List.length_eq_zero_iff.mp this.symm
        rw [this]
        exact r2
      · refine ha.now hs ⟨a, xs, rfl, q1, ?_⟩
        have : ws = [] := by
          have := r2.len
          rw [ey] at this
          exact List.length_eq_zero_iff.mp this.symm
        rw [this, List.append_nil]
        exact r1
      · obtain ⟨x1, x2, x3⟩ := tup_new hs (r1.app r2) hp
        exact ha _ _ _ x1 x2 x3
    · cases hf
  · split at hf
    · rename_i n m us ws e1 e2
      split at hf
      · rename_i hz
        cases hf
        obtain ⟨a, ha1, rfl⟩ := rx
        obtain ⟨b, hb1, rfl⟩ := ry
        obtain ⟨a', g1, xs, q1, r1⟩ := hs.stands _ _ e1
        rw [ha1] at g1
        cases g1
        obtain ⟨b', g2, ys, q2, r2⟩ := hs.stands _ _ e2
        rw [hb1] at g2
        cases g2
        refine .inr (.inr (.inr ⟨a, b, xs, ys, rfl, rfl, q1, q2, by rw [r1.len, r2.len]; exact cap_le hz, fun p hp => ?_⟩))
        obtain ⟨x1, x2, x3⟩ := lst_new hs (r1.app r2) hp
        exact ha _ _ _ x1 x2 x3
      · cases hf
    · cases hf
  · cases hf
theorem dSub : OpR X (binaryOp .Sub) (r2 c oSub) := by
  refine OpR.w op_sub fun x y H Q h => ?_
  obtain ⟨μ, S, dx, dy, d, S', hs, rx, ry, hf, ha⟩ := h
  unfold oSub at hf
  split at hf
  · cases hf
    obtain rfl := (show x = .int _ from rx)
    obtain rfl := (show y = .int _ from ry)
    exact ⟨_, _, rfl, rfl, ha.now hs rfl⟩
  · cases hf
theorem okMul_c {i j : Int} (h : okMul i j = true) : CMul i j := by
  unfold okMul at h
  rw [Bool.or_eq_true, Bool.and_eq_true, Bool.and_eq_true] at h
  rcases h with h | h
  · exact .inl ⟨of_decide_eq_true h.1, of_decide_eq_true h.2⟩
  · exact .inr ⟨of_decide_eq_true h.1, of_decide_eq_true h.2⟩
theorem Reps.rep {μ : List Addr} {H : Hp} {ds : List D} {xs : List V} (r : Reps c μ H ds xs) : ∀ k : Nat, Reps c μ H (List.replicate k ds).flatten (List.replicate k xs).flatten
  | 0 => rfl
  | k + 1 => by
    rw [List.replicate_succ, List.replicate_succ, List.flatten_cons, List.flatten_cons]
    exact r.app (Reps.rep r k)
theorem dMul : OpR X (binaryOp .Mult) (r2 c oMul) := by
  refine OpR.w (op_mul.or op_rep) fun x y H Q h => ?_
  obtain ⟨μ, S, dx, dy, d, S', hs, rx, ry, hf, ha⟩ := h
  unfold oMul at hf
  split at hf
  · split at hf
    · rename_i hz
      cases hf
      obtain rfl := (show x = .int _ from rx)
      obtain rfl := (show y = .int _ from ry)
      exact .inl ⟨_, _, rfl, rfl, okMul_c hz, ha.now hs rfl⟩
    · cases hf
  · split at hf
    · rename_i n k us e1
      split at hf
      · rename_i hz
        cases hf
        obtain ⟨a, ha1, rfl⟩ := rx
        obtain rfl := (show y = .int _ from ry)
        obtain ⟨a', g1, xs, q1, r1⟩ := hs.stands _ _ e1
        rw [ha1] at g1
        cases g1
        rw [Bool.and_eq_true, Bool.and_eq_true] at hz
        obtain ⟨⟨z1, z2⟩, z3⟩ := hz
        have z1 := of_decide_eq_true z1
        have z2 := of_decide_eq_true z2
        have z3 := of_decide_eq_true z3
        refine .inr ⟨a, _, xs, rfl, rfl, q1, by omega, by omega, by rw [r1.len]; exact cap_le z3, fun p hp => ?_⟩
        obtain ⟨x1, x2, x3⟩ := lst_new hs (r1.rep _) hp
        exact ha _ _ _ x1 x2 x3
      · cases hf
    · cases hf
  · cases hf
theorem okDiv_c {i j : Int} (h : okDiv j = true) : CDivW i j := by
  unfold okDiv at h
  rw [Bool.and_eq_true] at h
  have h1 := of_decide_eq_true h.1
  have h2 := of_decide_eq_true h.2
  exact wide_div (b := 64) h1 (by omega) (by decide) (by decide)
theorem dDiv : OpR X (binaryOp .FloorDiv) (r2 c oDiv) := by
  refine OpR.w op_fdivW fun x y H Q h => ?_
  obtain ⟨μ, S, dx, dy, d, S', hs, rx, ry, hf, ha⟩ := h
  unfold oDiv at hf
  split at hf
  · split at hf
    · rename_i hz
      cases hf
      obtain rfl := (show x = .int _ from rx)
      obtain rfl := (show y = .int _ from ry)
      exact ⟨_, _, rfl, rfl, okDiv_c hz, ha.now hs rfl⟩
    · cases hf
  · cases hf
theorem dMod : OpR X (binaryOp .Mod) (r2 c oMod) := by
  refine OpR.w op_mod fun x y H Q h => ?_
  obtain ⟨μ, S, dx, dy, d, S', hs, rx, ry, hf, ha⟩ := h
  unfold oMod at hf
  split at hf
  · split at hf
    · rename_i hz
      cases hf
      obtain rfl := (show x = .int _ from rx)
      obtain rfl := (show y = .int _ from ry)
      exact ⟨_, _, rfl, rfl, hz, ha.now hs rfl⟩
    · cases hf
  · cases hf
theorem dPow : OpR X (binaryOp .Pow) (r2 c oPow) := by
  refine OpR.w op_pow fun x y H Q h => ?_
  obtain ⟨μ, S, dx, dy, d, S', hs, rx, ry, hf, ha⟩ := h
  unfold oPow at hf
  split at hf
  · split at hf
    · rename_i i j hz
      cases hf
      obtain rfl := (show x = .int _ from rx)
      obtain rfl := (show y = .int _ from ry)
      rw [Bool.and_eq_true, Bool.and_eq_true] at hz
      obtain ⟨⟨z1, z2⟩, z3⟩ := hz
      have z1 := of_decide_eq_true z1
      have z2 := of_decide_eq_true z2
      have z3 := of_decide_eq_true z3
      exact ⟨_, _, rfl, rfl, ⟨z1, by omega, by omega⟩, ha.now hs rfl⟩
    · cases hf
  · cases hf
theorem dNeg : UnR X (unaryOp .USub) (r1 c oNeg) := by
  refine UnR.w un_neg fun x H Q h => ?_
  obtain ⟨μ, S, dx, d, S', hs, rx, hf, ha⟩ := h
  unfold oNeg at hf
  split at hf
  · cases hf
    obtain rfl := (show x = .int _ from rx)
    exact ⟨_, rfl, ha.now hs rfl⟩
  · cases hf
theorem dLt : OpR X (compareOp .Lt) (r2 c oLt) := by
  refine OpR.w op_lt fun x y H Q h => ?_
  obtain ⟨μ, S, dx, dy, d, S', hs, rx, ry, hf, ha⟩ := h
  unfold oLt at hf
  split at hf
  · cases hf
    obtain rfl := (show x = .int _ from rx)
    obtain rfl := (show y = .int _ from ry)
    exact ⟨_, _, rfl, rfl, ha.now hs rfl⟩
  · cases hf
theorem dLe : OpR X (compareOp .LtE) (r2 c oLe) := by
  refine OpR.w op_le fun x y H Q h => ?_
  obtain ⟨μ, S, dx, dy, d, S', hs, rx, ry, hf, ha⟩ := h
  unfold oLe at hf
  split at hf
  · cases hf
    obtain rfl := (show x = .int _ from rx)
    obtain rfl := (show y = .int _ from ry)
    exact ⟨_, _, rfl, rfl, ha.now hs rfl⟩
  · cases hf
theorem dGt : OpR X (compareOp .Gt) (r2 c oGt) := by
  refine OpR.w op_gt fun x y H Q h => ?_
  obtain ⟨μ, S, dx, dy, d, S', hs, rx, ry, hf, ha⟩ := h
  unfold oGt at hf
  split at hf
  · cases hf
    obtain rfl := (show x = .int _ from rx)
    obtain rfl := (show y = .int _ from ry)
    exact ⟨_, _, rfl, rfl, ha.now hs rfl⟩
  · cases hf
theorem dGe : OpR X (compareOp .GtE) (r2 c oGe) := by
  refine OpR.w op_ge fun x y H Q h => ?_
  obtain ⟨μ, S, dx, dy, d, S', hs, rx, ry, hf, ha⟩ := h
  unfold oGe at hf
  split at hf
  · cases hf
    obtain rfl := (show x = .int _ from rx)
    obtain rfl := (show y = .int _ from ry)
    exact ⟨_, _, rfl, rfl, ha.now hs rfl⟩
  · cases hf
end
end FL
/-! FL5: subscripts, slices, built-ins, methods, dict displays, fields, instances. -/
namespace FL
open PySem PySem.Spec PyProof.Rows L2

/-! ### subscripts -/
def oIx : F2 := fun x y S => match x with
  | .tup ds => match y with
    | .int i => (atI ds i).map fun d => (d, S)
    | _ => none
  | .str z => match y with
    | .int i => if z.length ≤ cap then (atI z.cps.toList i).map fun k => (.str ⟨#[k]⟩, S) else none
    | _ => none
  | .ref n => match getL S n with
    | some ds => match y with
      | .int i => (atI ds i).map fun d => (d, S)
      | _ => none
    | none => match getD S n, keyD y with
      | some kvs, some k => (valG kvs k).map fun d => (d, S)
      | _, _ => none
  | _ => none
section
variable {c : FC} {X : Cx}
theorem ix_dict (hu : X.A.units + 1 < cLine) : IxR X (fun x y H Q => ∃ a v, x = .ref a ∧ DGet H a y (some v) ∧ Q v H) := by
  intro value slice pins s σ H x y v u Q I rx ry h hs
  obtain ⟨a, w', ex, g, q⟩ := h
  subst ex
  obtain rfl : v = Value.ref a := rx
  have hT := dict_typeIs I g
  unfold subscriptTail
  refine wpAny_bind ?_
  rw [getitemInPython_of_ne hT.not_modules]
  refine wpAny_bind (wpAny_specialOf hT PySem.F.slot_dict_getitem.lookup ?_)
  have fin : wpAny (model X.prog X.w) X.A (subscripted slice false (.ref a) u) (fun r s₃ => wpAny (model X.prog X.w) X.A (letTemporaryGo value (.ref a) r >>= fun _ => pure r) (EP X pins σ Q) X.xe s₃) X.xe s := by
    rw [hs]
    exact wpAny_operating (d_getItem hu I g ry fun w3 s3 I3 rw3 => wpAny_bind (wpAny_letTemporaryGo (wpAny_pure ⟨w', H, I3, rw3, q⟩)))
  first
    | exact wpAny_pure (wpAny_bind fin)
    | exact wpAny_bind (wpAny_pure (wpAny_bind fin))
    | exact wpAny_bind fin
theorem atI_rep {μ : List Addr} {H : Hp} {ds : List D} {xs : List V} {i : Int} {d : D} (r : Reps c μ H ds xs) (h : atI ds i = some d) : ∃ v, atI xs i = some v ∧ Rep c μ H d v := by
  unfold atI at h ⊢
  obtain ⟨j, e1, e2⟩ := Option.bind_eq_some_iff.mp h
  obtain ⟨v, e3, e4⟩ := r.get e2
  exact ⟨v, by rw [r.len, e1]; exact e3, e4⟩
theorem dIx (hK : c.K = X.K) (hu : X.A.units + 64 < cLine) : IxR X (r2 c oIx) := by
  refine IxR.w (ix_seq.or (ix_dict (by omega))) fun x y H Q h => ?_
  obtain ⟨μ, S, dx, dy, d, S', hs, rx, ry, hf, ha⟩ := h
  unfold oIx at hf
  cases dx with
  | tup ds =>
    obtain ⟨a, xs, rfl, q1, r1⟩ := rx
    cases dy with
    | int i =>
      obtain rfl := (show y = .int _ from ry)
      obtain ⟨d', e1, e2⟩ := Option.map_eq_some_iff.mp hf
      cases e2
      obtain ⟨v, e3, e4⟩ := atI_rep r1 e1
      exact .inl (.inr (.inl ⟨a, xs, i, v, rfl, rfl, by rw [← hK]; exact q1, e3, ha.now hs e4⟩))
    | _ => cases hf
  | str z =>
    obtain rfl := (show x = .str _ from rx)
    cases dy with
    | int i =>
      obtain rfl := (show y = .int _ from ry)
      simp only at hf
      split at hf
      · rename_i hz
        obtain ⟨d', e1, e2⟩ := Option.map_eq_some_iff.mp hf
        cases e2
        exact .inl (.inr (.inr ⟨z, i, d', rfl, rfl, cap_le hz, e1, ha.now hs rfl⟩))
      · cases hf
    | _ => cases hf
  | ref n =>
    obtain ⟨a, ha1, rfl⟩ := rx
    simp only at hf
    split at hf
    · rename_i ds e
      obtain ⟨a', xs, g1, q1, r1⟩ := getL_sq hs e
      rw [ha1] at g1
      cases g1
      cases dy with
      | int i =>
        obtain rfl := (show y = .int _ from ry)
        obtain ⟨d', e1, e2⟩ := Option.map_eq_some_iff.mp hf
        cases e2
        obtain ⟨v, e3, e4⟩ := atI_rep r1 e1
        exact .inl (.inl ⟨a, xs, i, v, rfl, rfl, by rw [← hK]; exact q1, e3, ha.now hs e4⟩)
      | _ => cases hf
    · split at hf
      · rename_i kvs k e1 e2
        obtain ⟨d', e3, e4⟩ := Option.map_eq_some_iff.mp hf
        cases e4
        obtain ⟨a', ys, g1, q1, r1⟩ := getD_rd hs e1
        rw [ha1] at g1
        cases g1
        obtain ⟨v, e5, e6⟩ := (r1.val k).1 _ e3
        exact .inr ⟨a, v, rfl, .inl ⟨ys, k, q1, keyD_rep ry e2, e5.symm⟩, ha.now hs e6⟩
      · cases hf
  | _ => cases hf

/-! ### slices -/
def cutG {α : Type} (xs : List α) (lo hi : Option Int) : List α := (xs.drop (HT.sIx xs.length 0 lo)).take (HT.sIx xs.length xs.length hi - HT.sIx xs.length 0 lo)
def oSl (x : D) (lo hi : Option Int) (S : Sto) : Option (D × Sto) := match x with
  | .tup ds => some (.tup (cutG ds lo hi), S)
  | .str z => if z.length ≤ cap then some (.str (cutS z lo hi), S) else none
  | .ref n => match getL S n with
    | some ds => some (.ref S.length, S ++ [.lst (cutG ds lo hi)])
    | none => none
  | _ => none
abbrev FO := Env → Sto → Option (Option Int × Sto)
def pNo : FO := fun _ S => some (none, S)
def pPart (fe : FE) : FO := fun env S => th (fe env S) fun d S1 => match d with
  | .int i => some (some i, S1)
  | _ => none
def tO (c : FC) (f : FO) : TO := fun σ H Q => ∃ μ env S o S', EnvOk c μ H env σ ∧ StoOk c μ S H ∧ f env S = some (o, S') ∧ ∀ μ' H', Ext c μ H μ' H' → StoOk c μ' S' H' → Q o H'
def eSl (fe : FE) (fl fh : FO) : FE := fun env S => th (fe env S) fun x S1 => th (fl env S1) fun l S2 => th (fh env S2) fun h S3 => oSl x l h S3
theorem PO.w {e : Option Expr} {t t' : TO} (h : PO X e t) (w : ∀ σ H Q, t' σ H Q → t σ H Q) : PO X e t' := ⟨fun pins s σ H Q I q => h.run pins s σ H Q I (w σ H Q q)⟩
theorem q_pno : PO X none (tO c pNo) := by
  refine PO.w po_none fun σ H Q h => ?_
  obtain ⟨μ, env, S, o, S', he, hs, hf, ha⟩ := h
  cases hf
  exact ha μ H Ext.refl hs
theorem q_ppart {e : Expr} {fe : FE} (h : PE X e (tE c fe)) : PO X (some e) (tO c (pPart fe)) := by
  refine PO.w (po_some h) fun σ H Q h => ?_
  obtain ⟨μ, env, S, o, S', he, hs, hf, ha⟩ := h
  obtain ⟨d, S1, h1, hf⟩ := th_inv hf
  refine ⟨μ, env, S, d, S1, he, hs, h1, fun μ1 H1 v e1 k1 r1 => ?_⟩
  cases d with
  | int i =>
    cases hf
    exact ⟨i, r1, ha _ _ e1 k1⟩
  | _ => cases hf
theorem cut_rep {μ : List Addr} {H : Hp} {ds : List D} {xs : List V} (r : Reps c μ H ds xs) (lo hi : Option Int) : Reps c μ H (cutG ds lo hi) (cutV xs lo hi) := by
  unfold cutG cutV
  rw [r.len]
  exact (r.drop _).take _
theorem cut_whole {α : Type} {xs : List α} {lo hi : Option Int} (h : HT.sIx xs.length 0 lo = 0 ∧ HT.sIx xs.length xs.length hi = xs.length) : cutG xs lo hi = xs := by
  unfold cutG
  rw [h.1, h.2]
  simp
theorem q_sl (hK : c.K = X.K) {e : Expr} {lo hi : Option Expr} {p2 pos : Pos} {fe : FE} {fl fh : FO} (he : PE X e (tE c fe)) (hl : PO X lo (tO c fl)) (hh : PO X hi (tO c fh)) : PE X (.Subscript e (.Slice lo hi none p2) pos) (tE c (eSl fe fl fh)) := by
  refine PE.w (pe_slice (sl_list.or (sl_tupA.or sl_str)) he hl hh) fun σ H Q h => ?_
  obtain ⟨μ, env, S, d, S', he, hs, hf, ha⟩ := h
  obtain ⟨x, S1, h1, hf⟩ := th_inv hf
  obtain ⟨l, S2, h2, hf⟩ := th_inv hf
  obtain ⟨u, S3, h3, hf⟩ := th_inv hf
  refine ⟨μ, env, S, x, S1, he, hs, h1, fun μ1 H1 v e1 k1 r1 => ?_⟩
  refine ⟨μ1, env, S1, l, S2, he.mono e1, k1, h2, fun μ2 H2 e2 k2 => ?_⟩
  refine ⟨μ2, env, S2, u, S3, (he.mono e1).mono e2, k2, h3, fun μ3 H3 e3 k3 => ?_⟩
  have r3 : Rep c μ3 H3 x v := Rep.mono e3 _ _ (Rep.mono e2 _ _ r1)
  have ha3 := ((ha.ext e1).ext e2).ext e3
  unfold oSl at hf
  cases x with
  | tup ds =>
    cases hf
    obtain ⟨a, xs, rfl, q, rr⟩ := r3
    refine .inr (.inl ⟨a, xs, rfl, by rw [← hK]; exact q, fun hw => ?_, fun _ p hp => ?_⟩)
    · refine ha3.now k3 ?_
      rw [cut_whole (by rw [← rr.len]; exact hw)]
      exact ⟨a, xs, rfl, q, rr⟩
    · obtain ⟨x1, x2, x3⟩ := tup_new k3 (cut_rep rr l u) hp
      exact ha3 _ _ _ x1 x2 x3
  | str z =>
    simp only at hf
    split at hf
    · rename_i hz
      cases hf
      obtain rfl := (show v = .str z from r3)
      exact .inr (.inr ⟨z, rfl, cap_le hz, ha3.now k3 rfl⟩)
    · cases hf
  | ref n =>
    obtain ⟨a, ha1, rfl⟩ := r3
    simp only at hf
    split at hf
    · rename_i ds e
      cases hf
      obtain ⟨a', xs, g1, q1, rr⟩ := getL_sq k3 e
      rw [ha1] at g1
      cases g1
      refine .inl ⟨a, xs, rfl, by rw [← hK]; exact q1, fun p hp => ?_⟩
      obtain ⟨x1, x2, x3⟩ := lst_new k3 (cut_rep rr l u) hp
      exact ha3 _ _ _ x1 x2 x3
    · cases hf
  | _ => cases hf

/-! ### built-ins -/
def fLen : FF := fun ds S => match ds with
  | [.str z] => if z.length ≤ cap then some (.int z.length, S) else none
  | [.tup xs] => some (.int xs.length, S)
  | [.ref n] => match getL S n with
    | some xs => some (.int xs.length, S)
    | none => match S[n]? with
      | some (.dic kvs) => some (.int kvs.length, S)
      | _ => none
  | _ => none
theorem Reps.one_inv {μ : List Addr} {H : Hp} {d : D} {xs : List V} (r : Reps c μ H [d] xs) : ∃ v, xs = [v] ∧ Rep c μ H d v := by
  obtain ⟨v, vs, rfl, h, k⟩ := r
  obtain rfl : vs = [] := k
  exact ⟨v, rfl, h⟩
theorem Reps.two_inv {μ : List Addr} {H : Hp} {d e : D} {xs : List V} (r : Reps c μ H [d, e] xs) : ∃ v w, xs = [v, w] ∧ Rep c μ H d v ∧ Rep c μ H e w := by
  obtain ⟨v, vs, rfl, h, k⟩ := r
  obtain ⟨w, rfl, k'⟩ := k.one_inv
  exact ⟨v, w, rfl, h, k'⟩
theorem cLen (hK : c.K = X.K) : CallR X (.builtin "len") (rA c fLen) := by
  refine CallR.w (call_len_str.or (call_len_seq.or call_lenD)) fun xs H Q h => ?_
  obtain ⟨μ, S, ds, d, S', hs, rs, hf, ha⟩ := h
  unfold fLen at hf
  split at hf
  · split at hf
    · rename_i z hz
      cases hf
      obtain ⟨v, rfl, r⟩ := rs.one_inv
      obtain rfl := (show v = .str z from r)
      exact .inl ⟨z, rfl, cap_le hz, ha.now hs rfl⟩
    · cases hf
  · cases hf
    obtain ⟨v, rfl, a, ys, rfl, q, rr⟩ := rs.one_inv
    refine .inr (.inl ⟨a, ys, rfl, .inr (by rw [← hK]; exact q), ?_⟩)
    rw [rr.len]
    exact ha.now hs rfl
  · obtain ⟨v, rfl, a, ha1, rfl⟩ := rs.one_inv
    split at hf
    · rename_i us e
      cases hf
      obtain ⟨a', ys, g1, q1, rr⟩ := getL_sq hs e
      rw [ha1] at g1
      cases g1
      refine .inr (.inl ⟨a, ys, rfl, .inl (by rw [← hK]; exact q1), ?_⟩)
      rw [rr.len]
      exact ha.now hs rfl
    · split at hf
      · rename_i kvs e
        cases hf
        obtain ⟨a', g1, ys, q1, rr⟩ := hs.stands _ _ e
        rw [ha1] at g1
        cases g1
        refine .inr (.inr ⟨a, ys, rfl, q1, ?_⟩)
        rw [rr.len]
        exact ha.now hs rfl
      · cases hf
  · cases hf
def fAbs : FF := fun ds S => match ds with
  | [.int i] => some (.int (if i < 0 then -i else i), S)
  | _ => none
theorem cAbs : CallR X (.builtin "abs") (rA c fAbs) := by
  refine CallR.w call_abs fun xs H Q h => ?_
  obtain ⟨μ, S, ds, d, S', hs, rs, hf, ha⟩ := h
  unfold fAbs at hf
  split at hf
  · cases hf
    obtain ⟨v, rfl, r⟩ := rs.one_inv
    obtain rfl := (show v = .int _ from r)
    exact ⟨_, rfl, ha.now hs rfl⟩
  · cases hf
def fInt : FF := fun ds S => match ds with
  | [.int i] => some (.int i, S)
  | [.bl b] => some (.int (if b = true then 1 else 0), S)
  | [.str z] => if z.length ≤ 640 then (PySem.intText? z).map fun n => (.int n, S) else none
  | _ => none
theorem cInt : CallR X (.type "int") (rA c fInt) := by
  refine CallR.w (call_int1.or call_int_str) fun xs H Q h => ?_
  obtain ⟨μ, S, ds, d, S', hs, rs, hf, ha⟩ := h
  unfold fInt at hf
  split at hf
  · cases hf
    obtain ⟨v, rfl, r⟩ := rs.one_inv
    obtain rfl := (show v = .int _ from r)
    exact .inl (.inl ⟨_, rfl, ha.now hs rfl⟩)
  · cases hf
    obtain ⟨v, rfl, r⟩ := rs.one_inv
    obtain rfl := (show v = .bl _ from r)
    exact .inl (.inr ⟨_, rfl, ha.now hs rfl⟩)
  · split at hf
    · rename_i z hz
      obtain ⟨n, e1, e2⟩ := Option.map_eq_some_iff.mp hf
      cases e2
      obtain ⟨v, rfl, r⟩ := rs.one_inv
      obtain rfl := (show v = .str _ from r)
      exact .inr ⟨z, n, rfl, e1, hz, ha.now hs rfl⟩
    · cases hf
  · cases hf
def fBool : FF := fun ds S => match ds with
  | [.int i] => some (.bl (i != 0), S)
  | [.bl b] => some (.bl b, S)
  | [.ref n] => (getL S n).map fun xs => (.bl (!xs.isEmpty), S)
  | _ => none
theorem cBool (hK : c.K = X.K) : CallR X (.type "bool") (rA c fBool) := by
  refine CallR.w (call_bool1.or call_boolL) fun xs H Q h => ?_
  obtain ⟨μ, S, ds, d, S', hs, rs, hf, ha⟩ := h
  unfold fBool at hf
  split at hf
  · cases hf
    obtain ⟨v, rfl, r⟩ := rs.one_inv
    obtain rfl := (show v = .int _ from r)
    exact .inl (.inl ⟨_, rfl, ha.now hs rfl⟩)
  · cases hf
    obtain ⟨v, rfl, r⟩ := rs.one_inv
    obtain rfl := (show v = .bl _ from r)
    exact .inl (.inr ⟨_, rfl, ha.now hs rfl⟩)
  · obtain ⟨us, e1, e2⟩ := Option.map_eq_some_iff.mp hf
    cases e2
    obtain ⟨v, rfl, a, ha1, rfl⟩ := rs.one_inv
    obtain ⟨a', ys, g1, q1, rr⟩ := getL_sq hs e1
    rw [ha1] at g1
    cases g1
    refine .inr ⟨a, ys, rfl, by rw [← hK]; exact q1, ?_⟩
    rw [← isEmpty_reps rr]
    exact ha.now hs rfl
  · cases hf
def fStr : FF := fun ds S => match ds with
  | [.int i] => if i.natAbs < 1000000000000000000000 then some (.str (toString i), S) else none
  | [.str z] => some (.str z, S)
  | _ => none
theorem cStr : CallR X (.type "str") (rA c fStr) := by
  refine CallR.w (call_str_int.or SkE.call_str_str) fun xs H Q h => ?_
  obtain ⟨μ, S, ds, d, S', hs, rs, hf, ha⟩ := h
  unfold fStr at hf
  split at hf
  · split at hf
    · rename_i i hz
      cases hf
      obtain ⟨v, rfl, r⟩ := rs.one_inv
      obtain rfl := (show v = .int _ from r)
      refine .inl ⟨_, rfl, ?_, ha.now hs rfl⟩
      have h1 : i.natAbs < 2 ^ 70 := by omega
      have := PySem.Flt.log2_lt_of (by decide : 0 < 70) h1
      omega
    · cases hf
  · cases hf
    obtain ⟨v, rfl, r⟩ := rs.one_inv
    obtain rfl := (show v = .str _ from r)
    exact .inr ⟨_, rfl, ha.now hs rfl⟩
  · cases hf

/-! lists of ints, of bools -/
def intsD : List D → Option (List Int)
  | [] => some []
  | .int i :: ds => (intsD ds).map fun ns => i :: ns
  | _ :: _ => none
def boolsD : List D → Option (List Bool)
  | [] => some []
  | .bl i :: ds => (boolsD ds).map fun ns => i :: ns
  | _ :: _ => none
theorem intsD_rep {μ : List Addr} {H : Hp} : ∀ {ds : List D} {ns : List Int} {xs : List V}, intsD ds = some ns → Reps c μ H ds xs → xs = ns.map V.int
  | [], _, _, h, r => by
    cases h
    exact r
  | .int i :: ds, ns, xs, h, r => by
    obtain ⟨ms, e1, e2⟩ := Option.map_eq_some_iff.mp h
    subst e2
    obtain ⟨v, vs, rfl, r1, r2⟩ := r
    obtain rfl := (show v = .int i from r1)
    rw [intsD_rep e1 r2]
    rfl
theorem boolsD_rep {μ : List Addr} {H : Hp} : ∀ {ds : List D} {ns : List Bool} {xs : List V}, boolsD ds = some ns → Reps c μ H ds xs → xs = ns.map V.bl
  | [], _, _, h, r => by
    cases h
    exact r
  | .bl i :: ds, ns, xs, h, r => by
    obtain ⟨ms, e1, e2⟩ := Option.map_eq_some_iff.mp h
    subst e2
    obtain ⟨v, vs, rfl, r1, r2⟩ := r
    obtain rfl := (show v = .bl i from r1)
    rw [boolsD_rep e1 r2]
    rfl
theorem ints_rep {μ : List Addr} {H : Hp} : ∀ (ns : List Int), Reps c μ H (ns.map D.int) (ns.map V.int)
  | [] => rfl
  | i :: ns => ⟨_, _, rfl, rfl, ints_rep ns⟩
def ints1 (ds : List D) (S : Sto) : Option (List Int) := match ds with
  | [.ref n] => (getL S n).bind intsD
  | _ => none
theorem ints1_rep {μ : List Addr} {S : Sto} {H : Hp} {ds : List D} {ns : List Int} {xs : List V} (hs : StoOk c μ S H) (h : ints1 ds S = some ns) (r : Reps c μ H ds xs) : ∃ a, xs = [.ref a] ∧ SqL c.K H a (ns.map V.int) := by
  unfold ints1 at h
  split at h
  · obtain ⟨us, e1, e2⟩ := Option.bind_eq_some_iff.mp h
    obtain ⟨v, rfl, a, ha1, rfl⟩ := r.one_inv
    obtain ⟨a', ys, g1, q1, rr⟩ := getL_sq hs e1
    rw [ha1] at g1
    cases g1
    rw [intsD_rep e2 rr] at q1
    exact ⟨a, rfl, q1⟩
  · cases h
def maxL : List Int → Int
  | [] => 0
  | [x] => x
  | x :: y :: r => max x (maxL (y :: r))
def minL : List Int → Int
  | [] => 0
  | [x] => x
  | x :: y :: r => min x (minL (y :: r))
theorem maxL_mem : ∀ (l : List Int), l ≠ [] → maxL l ∈ l ∧ ∀ y ∈ l, y ≤ maxL l
  | [], h => absurd rfl h
  | [x], _ => by simp [maxL]
  | x :: y :: r, _ => by
    obtain ⟨h1, h2⟩ := maxL_mem (y :: r) (by simp)
    have e : maxL (x :: y :: r) = max x (maxL (y :: r)) := rfl
    rw [e]
    refine ⟨?_, fun z hz => ?_⟩
    · by_cases q : x ≤ maxL (y :: r)
      · rw [Int.max_eq_right q]
        exact List.mem_cons_of_mem _ h1
      · rw [Int.max_eq_left (by omega)]
        exact List.mem_cons_self
    · rcases List.mem_cons.mp hz with rfl | hz
      · exact Int.le_max_left _ _
      · exact Int.le_trans (h2 z hz) (Int.le_max_right _ _)
theorem minL_mem : ∀ (l : List Int), l ≠ [] → minL l ∈ l ∧ ∀ y ∈ l, minL l ≤ y
  | [], h => absurd rfl h
  | [x], _ => by simp [minL]
  | x :: y :: r, _ => by
    obtain ⟨h1, h2⟩ := minL_mem (y :: r) (by simp)
    have e : minL (x :: y :: r) = min x (minL (y :: r)) := rfl
    rw [e]
    refine ⟨?_, fun z hz => ?_⟩
    · by_cases q : x ≤ minL (y :: r)
      · rw [Int.min_eq_left q]
        exact List.mem_cons_self
      · rw [Int.min_eq_right (by omega)]
        exact List.mem_cons_of_mem _ h1
    · rcases List.mem_cons.mp hz with rfl | hz
      · exact Int.min_le_left _ _
      · exact Int.le_trans (Int.min_le_right _ _) (h2 z hz)
def fMax : FF := fun ds S => match ds with
  | [.int i, .int j] => some (.int (if j > i then j else i), S)
  | _ => match ints1 ds S with
    | some ns => if ns ≠ [] then some (.int (maxL ns), S) else none
    | none => none
def fMin : FF := fun ds S => match ds with
  | [.int i, .int j] => some (.int (if j < i then j else i), S)
  | _ => match ints1 ds S with
    | some ns => if ns ≠ [] then some (.int (minL ns), S) else none
    | none => none
theorem cMax (hK : c.K = X.K) (hc : X.calm = true) : CallR X (.builtin "max") (rA c fMax) := by
  refine CallR.w ((call_max2 hc).or (cr_max hc)) fun xs H Q h => ?_
  obtain ⟨μ, S, ds, d, S', hs, rs, hf, ha⟩ := h
  unfold fMax at hf
  split at hf
  · cases hf
    obtain ⟨v, w, rfl, r1, r2⟩ := rs.two_inv
    obtain rfl := (show v = .int _ from r1)
    obtain rfl := (show w = .int _ from r2)
    exact .inl ⟨_, _, rfl, ha.now hs rfl⟩
  · split at hf
    · rename_i ns e
      split at hf
      · rename_i hne
        cases hf
        obtain ⟨a, rfl, q⟩ := ints1_rep hs e rs
        obtain ⟨m1, m2⟩ := maxL_mem ns hne
        refine .inr ⟨a, ns, rfl, by rw [← hK]; exact q, List.length_pos_iff.mpr hne, fun m h1 h2 => ?_⟩
        have em : m = maxL ns := Int.le_antisymm (m2 m h1) (h2 _ m1)
        rw [em]
        exact ha.now hs rfl
      · cases hf
    · cases hf
theorem cMin (hK : c.K = X.K) (hc : X.calm = true) : CallR X (.builtin "min") (rA c fMin) := by
  refine CallR.w ((call_min2 hc).or (cr_min hc)) fun xs H Q h => ?_
  obtain ⟨μ, S, ds, d, S', hs, rs, hf, ha⟩ := h
  unfold fMin at hf
  split at hf
  · cases hf
    obtain ⟨v, w, rfl, r1, r2⟩ := rs.two_inv
    obtain rfl := (show v = .int _ from r1)
    obtain rfl := (show w = .int _ from r2)
    exact .inl ⟨_, _, rfl, ha.now hs rfl⟩
  · split at hf
    · rename_i ns e
      split at hf
      · rename_i hne
        cases hf
        obtain ⟨a, rfl, q⟩ := ints1_rep hs e rs
        obtain ⟨m1, m2⟩ := minL_mem ns hne
        refine .inr ⟨a, ns, rfl, by rw [← hK]; exact q, List.length_pos_iff.mpr hne, fun m h1 h2 => ?_⟩
        have em : m = minL ns := Int.le_antisymm (h2 _ m1) (m2 m h1)
        rw [em]
        exact ha.now hs rfl
      · cases hf
    · cases hf
def fSum : FF := fun ds S => (ints1 ds S).map fun ns => (.int ns.sum, S)
theorem cSum (hK : c.K = X.K) (hc : X.calm = true) : CallR X (.builtin "sum") (rA c fSum) := by
  refine CallR.w (cr_sum hc) fun xs H Q h => ?_
  obtain ⟨μ, S, ds, d, S', hs, rs, hf, ha⟩ := h
  obtain ⟨ns, e1, e2⟩ := Option.map_eq_some_iff.mp hf
  cases e2
  obtain ⟨a, rfl, q⟩ := ints1_rep hs e1 rs
  exact ⟨a, ns, rfl, by rw [← hK]; exact q, ha.now hs rfl⟩
def bools1 (ds : List D) (S : Sto) : Option (List Bool) := match ds with
  | [.ref n] => (getL S n).bind boolsD
  | _ => none
theorem bools1_rep {μ : List Addr} {S : Sto} {H : Hp} {ds : List D} {ns : List Bool} {xs : List V} (hs : StoOk c μ S H) (h : bools1 ds S = some ns) (r : Reps c μ H ds xs) : ∃ a, xs = [.ref a] ∧ SqL c.K H a (ns.map V.bl) := by
  unfold bools1 at h
  split at h
  · obtain ⟨us, e1, e2⟩ := Option.bind_eq_some_iff.mp h
    obtain ⟨v, rfl, a, ha1, rfl⟩ := r.one_inv
    obtain ⟨a', ys, g1, q1, rr⟩ := getL_sq hs e1
    rw [ha1] at g1
    cases g1
    rw [boolsD_rep e2 rr] at q1
    exact ⟨a, rfl, q1⟩
  · cases h
def fAny : FF := fun ds S => (bools1 ds S).map fun bs => (.bl (bs.any id), S)
def fAll : FF := fun ds S => (bools1 ds S).map fun bs => (.bl (bs.all id), S)
end
/-- sorted, of ints -/
def insI (x : Int) : List Int → List Int
  | [] => [x]
  | y :: r => if x ≤ y then x :: y :: r else y :: insI x r
def sortI : List Int → List Int
  | [] => []
  | x :: r => insI x (sortI r)
theorem insI_perm (x : Int) : ∀ l : List Int, (insI x l).Perm (x :: l)
  | [] => List.Perm.refl _
  | y :: r => by
    unfold insI
    split
    · exact List.Perm.refl _
    · exact ((insI_perm x r).cons y).trans (List.Perm.swap x y r)
theorem sortI_perm : ∀ l : List Int, (sortI l).Perm l
  | [] => List.Perm.refl _
  | x :: r => (insI_perm x (sortI r)).trans ((sortI_perm r).cons x)
theorem insI_sorted (x : Int) : ∀ l : List Int, l.Pairwise (· ≤ ·) → (insI x l).Pairwise (· ≤ ·)
  | [], _ => List.pairwise_singleton _ _
  | y :: r, h => by
    have h1 : ∀ {z : Int}, z ∈ r → y ≤ z := fun hz => List.rel_of_pairwise_cons h hz
    have h2 := h.of_cons
    unfold insI
    split
    · rename_i q
      refine List.pairwise_cons.mpr ⟨fun z hz => ?_, h⟩
      rcases List.mem_cons.mp hz with rfl | hz
      · exact q
      · exact Int.le_trans q (h1 hz)
    · rename_i q
      refine List.pairwise_cons.mpr ⟨fun z hz => ?_, insI_sorted x r h2⟩
      rcases List.mem_cons.mp ((insI_perm x r).mem_iff.mp hz) with rfl | hz
      · omega
      · exact h1 hz
theorem sortI_sorted : ∀ l : List Int, (sortI l).Pairwise (· ≤ ·)
  | [] => List.Pairwise.nil
  | x :: r => insI_sorted x _ (sortI_sorted r)
theorem sorted_uniq : ∀ {l m : List Int}, l.Perm m → l.Pairwise (· ≤ ·) → m.Pairwise (· ≤ ·) → l = m
  | [], m, p, _, _ => (List.Perm.nil_eq p)
  | x :: r, [], p, _, _ => absurd p.length_eq (by simp)
  | x :: r, y :: q, p, h, k => by
    have e : x = y := by
      have h1 : x ∈ y :: q := p.mem_iff.mp List.mem_cons_self
      have h2 : y ∈ x :: r := p.symm.mem_iff.mp List.mem_cons_self
      rcases List.mem_cons.mp h1 with e | h1
      · exact e
      · rcases List.mem_cons.mp h2 with e | h2
        · exact e.symm
        · exact Int.le_antisymm (List.rel_of_pairwise_cons h h2) (List.rel_of_pairwise_cons k h1)
    subst e
    rw [sorted_uniq (p.cons_inv) h.of_cons k.of_cons]
section
variable {c : FC} {X : Cx}
theorem cAny (hK : c.K = X.K) (hc : X.calm = true) (h : CallR X (.builtin "any") (L2.rAny X.K)) : CallR X (.builtin "any") (rA c fAny) := by
  refine CallR.w h fun xs H Q h => ?_
  obtain ⟨μ, S, ds, d, S', hs, rs, hf, ha⟩ := h
  obtain ⟨ns, e1, e2⟩ := Option.map_eq_some_iff.mp hf
  cases e2
  obtain ⟨a, rfl, q⟩ := bools1_rep hs e1 rs
  exact ⟨a, ns, rfl, by rw [← hK]; exact q, ha.now hs rfl⟩
theorem cAll (hK : c.K = X.K) (hc : X.calm = true) (h : CallR X (.builtin "all") (L2.rAll X.K)) : CallR X (.builtin "all") (rA c fAll) := by
  refine CallR.w h fun xs H Q h => ?_
  obtain ⟨μ, S, ds, d, S', hs, rs, hf, ha⟩ := h
  obtain ⟨ns, e1, e2⟩ := Option.map_eq_some_iff.mp hf
  cases e2
  obtain ⟨a, rfl, q⟩ := bools1_rep hs e1 rs
  exact ⟨a, ns, rfl, by rw [← hK]; exact q, ha.now hs rfl⟩
def fSortI : FF := fun ds S => (ints1 ds S).map fun ns => (.ref S.length, S ++ [.lst ((sortI ns).map D.int)])
theorem cSortI (hK : c.K = X.K) : CallR X (.builtin "sorted") (rA c fSortI) := by
  refine CallR.w cr_sortedI fun xs H Q h => ?_
  obtain ⟨μ, S, ds, d, S', hs, rs, hf, ha⟩ := h
  obtain ⟨ns, e1, e2⟩ := Option.map_eq_some_iff.mp hf
  cases e2
  obtain ⟨a, rfl, q⟩ := ints1_rep hs e1 rs
  refine ⟨a, ns, rfl, by rw [← hK]; exact q, fun ns' p h1 h2 hp => ?_⟩
  have e : ns' = sortI ns := sorted_uniq (h1.trans (sortI_perm ns).symm) h2 (sortI_sorted ns)
  rw [e]
  obtain ⟨x1, x2, x3⟩ := lst_new hs (ints_rep (sortI ns)) hp
  exact ha _ _ _ x1 x2 x3
def fList : FF := fun ds S => match ds with
  | [.tup xs] => some (.ref S.length, S ++ [.lst xs])
  | [.ref n] => match getL S n with
    | some xs => some (.ref S.length, S ++ [.lst xs])
    | none => match getD S n with
      | some kvs => some (.ref S.length, S ++ [.lst (kvs.map fun kv => dKey kv.1)])
      | none => none
  | _ => none
theorem keys_rep {μ : List Addr} {H : Hp} : ∀ {kvs : List (Key × D)} {ys : List (Key × V)}, kvs.map (·.1) = ys.map (·.1) → Reps c μ H (kvs.map fun kv => dKey kv.1) (ys.map fun kv => kV kv.1)
  | [], ys, h => by
    cases ys with
    | nil => exact rfl
    | cons _ _ => simp at h
  | p :: kvs, ys, h => by
    cases ys with
    | nil => simp at h
    | cons q ys =>
      rw [List.map_cons, List.map_cons] at h
      injection h with h1 h2
      exact ⟨_, _, rfl, by show Rep c μ H (dKey p.1) (kV q.1); rw [← h1]; exact dKey_rep _, keys_rep h2⟩
theorem cList (hK : c.K = X.K) (hc : X.calm = true) : CallR X (.type "list") (rA c fList) := by
  refine CallR.w (call_list_of.or (call_listD hc)) fun xs H Q h => ?_
  obtain ⟨μ, S, ds, d, S', hs, rs, hf, ha⟩ := h
  unfold fList at hf
  split at hf
  · cases hf
    obtain ⟨v, rfl, a, ys, rfl, q, rr⟩ := rs.one_inv
    refine .inl ⟨a, ys, rfl, .inr (by rw [← hK]; exact q), fun p hp => ?_⟩
    obtain ⟨x1, x2, x3⟩ := lst_new hs rr hp
    exact ha _ _ _ x1 x2 x3
  · obtain ⟨v, rfl, a, ha1, rfl⟩ := rs.one_inv
    split at hf
    · rename_i us e
      cases hf
      obtain ⟨a', ys, g1, q1, rr⟩ := getL_sq hs e
      rw [ha1] at g1
      cases g1
      refine .inl ⟨a, ys, rfl, .inl (by rw [← hK]; exact q1), fun p hp => ?_⟩
      obtain ⟨x1, x2, x3⟩ := lst_new hs rr hp
      exact ha _ _ _ x1 x2 x3
    · split at hf
      · rename_i kvs e
        cases hf
        obtain ⟨a', ys, g1, q1, rr⟩ := getD_rd hs e
        rw [ha1] at g1
        cases g1
        refine .inr ⟨a, ys, rfl, q1, fun p hp => ?_⟩
        obtain ⟨x1, x2, x3⟩ := lst_new hs (keys_rep rr.1) hp
        exact ha _ _ _ x1 x2 x3
      · cases hf
  · cases hf
def fTuple : FF := fun ds S => match ds with
  | [.tup xs] => some (.tup xs, S)
  | [.ref n] => (getL S n).map fun xs => (.tup xs, S)
  | _ => none
theorem cTuple (hK : c.K = X.K) : CallR X (.type "tuple") (rA c fTuple) := by
  refine CallR.w call_tuple_of fun xs H Q h => ?_
  obtain ⟨μ, S, ds, d, S', hs, rs, hf, ha⟩ := h
  unfold fTuple at hf
  split at hf
  · cases hf
    obtain ⟨v, rfl, a, ys, rfl, q, rr⟩ := rs.one_inv
    exact ⟨a, ys, rfl, .inr ⟨by rw [← hK]; exact q, ha.now hs ⟨a, ys, rfl, q, rr⟩⟩⟩
  · obtain ⟨v, rfl, a, ha1, rfl⟩ := rs.one_inv
    obtain ⟨us, e, e2⟩ := Option.map_eq_some_iff.mp hf
    cases e2
    obtain ⟨a', ys, g1, q1, rr⟩ := getL_sq hs e
    rw [ha1] at g1
    cases g1
    refine ⟨a, ys, rfl, .inl ⟨by rw [← hK]; exact q1, fun p hp => ?_⟩⟩
    obtain ⟨x1, x2, x3⟩ := tup_new hs rr hp
    exact ha _ _ _ x1 x2 x3
  · cases hf

/-! ### methods of lists -/
theorem lst_set {μ : List Addr} {S : Sto} {H : Hp} {n : Nat} {a : Addr} {us ds : List D} {xs ys : List V} (hs : StoOk c μ S H) (e : S[n]? = some (.lst us)) (ha : μ[n]? = some a) (q : H a = some (.lst xs)) (r : Reps c μ H ds ys) :
    Ext c μ H μ (upd H a (.lst ys)) ∧ StoOk c μ (S.set n (.lst ds)) (upd H a (.lst ys)) := by
  have x : Ext c μ H μ (upd H a (.lst ys)) := Ext.upd (.inr ⟨_, q, trivial⟩)
  exact ⟨x, hs.write e rfl ha x ⟨ys, upd_same, Reps.mono x _ _ r⟩⟩
def mAppend : D → FF := fun x ds S => match x, ds with
  | .ref n, [d] => match S[n]? with
    | some (.lst us) => if us.length < cap then some (.non, S.set n (.lst (us ++ [d]))) else none
    | _ => none
  | _, _ => none
theorem cap_lt {n : Nat} (h : n < cap) : n < sizeLine := by
  rw [sizeLine_eq]
  unfold cap at h
  omega
theorem mkAppend : MtR X "list.append" (rM c mAppend) := by
  refine MtR.w mt_append fun x xs H Q h => ?_
  obtain ⟨μ, S, dx, ds, d, S', hs, rx, rs, hf, ha⟩ := h
  unfold mAppend at hf
  split at hf
  · split at hf
    · rename_i n d' us e
      split at hf
      · rename_i hz
        cases hf
        obtain ⟨a, ha1, rfl⟩ := rx
        obtain ⟨v, rfl, rv⟩ := rs.one_inv
        obtain ⟨a', g1, ys, q1, rr⟩ := hs.stands _ _ e
        rw [ha1] at g1
        cases g1
        obtain ⟨x1, x2⟩ := lst_set hs e ha1 q1 (rr.app (Reps.one rv))
        exact ⟨a, ys, v, rfl, rfl, q1, by rw [rr.len]; exact cap_lt hz, ha _ _ _ x1 x2 rfl⟩
      · cases hf
    · cases hf
  · cases hf
def mExtend : D → FF := fun x ds S => match x, ds with
  | .ref n, [.ref m] => match S[n]?, S[m]? with
    | some (.lst us), some (.lst ws) => if us.length + ws.length ≤ cap then some (.non, S.set n (.lst (us ++ ws))) else none
    | _, _ => none
  | _, _ => none
theorem mkExtend : MtR X "list.extend" (rM c mExtend) := by
  refine MtR.w mt_extend fun x xs H Q h => ?_
  obtain ⟨μ, S, dx, ds, d, S', hs, rx, rs, hf, ha⟩ := h
  unfold mExtend at hf
  split at hf
  · split at hf
    · rename_i n m us ws e e'
      split at hf
      · rename_i hz
        cases hf
        obtain ⟨a, ha1, rfl⟩ := rx
        obtain ⟨v, rfl, b, hb1, rfl⟩ := rs.one_inv
        obtain ⟨a', g1, ys, q1, rr⟩ := hs.stands _ _ e
        rw [ha1] at g1
        cases g1
        obtain ⟨b', g2, zs, q2, rr2⟩ := hs.stands _ _ e'
        rw [hb1] at g2
        cases g2
        obtain ⟨x1, x2⟩ := lst_set hs e ha1 q1 (rr.app rr2)
        exact ⟨a, b, ys, zs, rfl, rfl, q1, q2, by rw [rr.len, rr2.len]; exact cap_le hz, ha _ _ _ x1 x2 rfl⟩
      · cases hf
    · cases hf
  · cases hf
def mPop : D → FF := fun x ds S => match x, ds with
  | .ref n, [] => match S[n]? with
    | some (.lst us) => (us[us.length - 1]?).map fun d => (d, S.set n (.lst us.dropLast))
    | _ => none
  | .ref n, [.int i] => match S[n]? with
    | some (.lst us) => if (decide (-1000000 ≤ i) && decide (i < 1000000)) = true then (seqIndex? i us.length).bind fun k => (us[k]?).map fun d => (d, S.set n (.lst (us.eraseIdx k))) else none
    | _ => none
  | _, _ => none
theorem mkPop : MtR X "list.pop" (rM c mPop) := by
  refine MtR.w (MtR.or mt_pop mt_popAt) fun x xs H Q h => ?_
  obtain ⟨μ, S, dx, ds, d, S', hs, rx, rs, hf, ha⟩ := h
  unfold mPop at hf
  split at hf
  · split at hf
    · rename_i n us e
      obtain ⟨d', e1, e2⟩ := Option.map_eq_some_iff.mp hf
      cases e2
      obtain ⟨a, ha1, rfl⟩ := rx
      obtain rfl : xs = [] := rs
      obtain ⟨a', g1, ys, q1, rr⟩ := hs.stands _ _ e
      rw [ha1] at g1
      cases g1
      obtain ⟨v, e3, rv⟩ := rr.get e1
      obtain ⟨x1, x2⟩ := lst_set hs e ha1 q1 rr.dropLast
      exact .inl ⟨a, ys, v, rfl, rfl, q1, by rw [rr.len]; exact e3, ha _ _ _ x1 x2 (Rep.mono x1 _ _ rv)⟩
    · cases hf
  · split at hf
    · rename_i us e
      split at hf
      · rename_i hz
        rw [Bool.and_eq_true] at hz
        have z1 := of_decide_eq_true hz.1
        have z2 := of_decide_eq_true hz.2
        obtain ⟨k, e1, e2⟩ := Option.bind_eq_some_iff.mp hf
        obtain ⟨d', e3, e4⟩ := Option.map_eq_some_iff.mp e2
        cases e4
        obtain ⟨a, ha1, rfl⟩ := rx
        obtain ⟨w, rfl, r1⟩ := rs.one_inv
        obtain rfl := (show w = .int _ from r1)
        obtain ⟨a', g1, ys, q1, rr⟩ := hs.stands _ _ e
        rw [ha1] at g1
        cases g1
        obtain ⟨v, e5, rv⟩ := rr.get e3
        obtain ⟨x1, x2⟩ := lst_set hs e ha1 q1 (rr.erase k)
        exact .inr ⟨a, ys, _, k, v, rfl, rfl, q1, by omega, by omega, by rw [rr.len]; exact e1, e5, ha _ _ _ x1 x2 (Rep.mono x1 _ _ rv)⟩
      · cases hf
    · cases hf
  · cases hf
def mInsert : D → FF := fun x ds S => match x, ds with
  | .ref n, [.int i, d] => match S[n]? with
    | some (.lst us) => if (decide (us.length < cap) && decide (0 ≤ i) && decide (i < 1000000)) = true then some (.non, S.set n (.lst (us.take i.toNat ++ [d] ++ us.drop i.toNat))) else none
    | _ => none
  | _, _ => none
theorem mkInsert : MtR X "list.insert" (rM c mInsert) := by
  refine MtR.w mt_insert fun x xs H Q h => ?_
  obtain ⟨μ, S, dx, ds, d, S', hs, rx, rs, hf, ha⟩ := h
  unfold mInsert at hf
  split at hf
  · split at hf
    · rename_i us e
      split at hf
      · rename_i hz
        rw [Bool.and_eq_true, Bool.and_eq_true] at hz
        obtain ⟨⟨z1, z2⟩, z3⟩ := hz
        have z1 := of_decide_eq_true z1
        have z2 := of_decide_eq_true z2
        have z3 := of_decide_eq_true z3
        cases hf
        obtain ⟨a, ha1, rfl⟩ := rx
        obtain ⟨w, v, rfl, r1, rv⟩ := rs.two_inv
        obtain rfl := (show w = .int _ from r1)
        obtain ⟨a', g1, ys, q1, rr⟩ := hs.stands _ _ e
        rw [ha1] at g1
        cases g1
        obtain ⟨x1, x2⟩ := lst_set hs e ha1 q1 (((rr.take _).app (Reps.one rv)).app (rr.drop _))
        exact ⟨a, ys, _, v, rfl, rfl, q1, by rw [rr.len]; exact cap_lt z1, z2, by omega, ha _ _ _ x1 x2 rfl⟩
      · cases hf
    · cases hf
  · cases hf
end
end FL
/-! FL6: dicts, fields, instances and their methods. -/
namespace FL
open PySem PySem.Spec PyProof.Rows L2
section
variable {c : FC} {X : Cx}
/-! ### dict displays -/
def aPairs : List (FE × FE) → FA
  | [] => aNil
  | (fk, fv) :: r => aCons fk (aCons fv (aPairs r))
def pairD : List D → Option (List (Key × D))
  | [] => some []
  | k :: v :: r => (keyD k).bind fun k' => (pairD r).map fun ps => (k', v) :: ps
  | _ => none
def mergeG (kvs more : List (Key × D)) : List (Key × D) := more.foldl (fun acc kv => putG acc kv.1 kv.2) kvs
theorem RepKV.merge {μ : List Addr} {H : Hp} : ∀ {more : List (Key × D)} {zs : List (Key × V)} {kvs : List (Key × D)} {ys : List (Key × V)}, RepKV c μ H more zs → RepKV c μ H kvs ys → RepKV c μ H (mergeG kvs more) (mergeK ys zs)
  | [], zs, _, _, h, k => by
    rw [h.inv0]
    exact k
  | (k', d) :: more, zs, _, _, h, k => by
    obtain ⟨v, zs', rfl, r, h2⟩ := h.inv
    show RepKV c μ H (mergeG (putG _ k' d) more) (mergeK (putK _ k' v) zs')
    exact RepKV.merge h2 (RepKV.put r k)
/-- {k: v, ..} with one pair or more -/
def eDic (fr : FA) : FE := fun env S => th (fr env (S ++ [.dic []])) fun ds S1 => match S1[S.length]?, pairD ds with
  | some (.dic []), some ps => if ps.length ≤ 15 then some (.ref S.length, S1.set S.length (.dic (mergeG [] ps))) else none
  | _, _ => none
def eDic0 : FE := fun _ S => some (.ref S.length, S ++ [.dic []])
def pairV : List V → Option (List (V × V))
  | [] => some []
  | k :: v :: r => (pairV r).map fun ps => (k, v) :: ps
  | _ => none
theorem pairs_red : ∀ (fs : List (FE × FE)) {σ : L2.St} {H : Hp} {Q : List V → Hp → Prop}, tA c (aPairs fs) σ H Q → tPairs (fs.map fun p => (tE c p.1, tE c p.2)) σ H fun ps H1 => ∃ vs, pairV vs = some ps ∧ Q vs H1
  | [], σ, H, Q, h => by
    obtain ⟨μ, env, S, ds, S', he, hs, hf, ha⟩ := h
    cases hf
    exact ⟨[], rfl, ha μ H [] Ext.refl hs rfl⟩
  | (fk, fv) :: r, σ, H, Q, h => by
    obtain ⟨μ, env, S, ds, S', he, hs, hf, ha⟩ := h
    obtain ⟨k, S1, h1, hf⟩ := th_inv hf
    obtain ⟨xs, S2, h2, hf⟩ := th_inv hf
    cases hf
    obtain ⟨v, S3, h3, h2⟩ := th_inv h2
    obtain ⟨ys, S4, h4, h2⟩ := th_inv h2
    cases h2
    refine ⟨μ, env, S, k, S1, he, hs, h1, fun μ1 H1 kv e1 k1 r1 => ?_⟩
    refine ⟨μ1, env, S1, v, S3, he.mono e1, k1, h3, fun μ2 H2 vv e2 k2 r2 => ?_⟩
    have ih := pairs_red r (σ := σ) (H := H2) (Q := fun vs H3 => Q (kv :: vv :: vs) H3) ⟨μ2, env, S3, ys, _, (he.mono e1).mono e2, k2, h4, fun μ3 H3 vs e3 k3 r3 => ha μ3 H3 _ ((e1.trans e2).trans e3) k3 ⟨kv, vv :: vs, rfl, Rep.mono e3 _ _ (Rep.mono e2 _ _ r1), vv, vs, rfl, Rep.mono e3 _ _ r2, r3⟩⟩
    have mono : ∀ (trs : List (TE × TE)) (H : Hp) (Q Q' : List (V × V) → Hp → Prop), True := fun _ _ _ _ => trivial
    exact pairs_w r ih fun ps H3 ⟨vs, e, q⟩ => ⟨kv :: vv :: vs, by show (pairV vs).map _ = _; rw [e]; rfl, q⟩
where
  pairs_w : ∀ (fs : List (FE × FE)) {σ : L2.St} {H : Hp} {Q Q' : List (V × V) → Hp → Prop}, tPairs (fs.map fun p => (tE c p.1, tE c p.2)) σ H Q → (∀ ps H', Q ps H' → Q' ps H') → tPairs (fs.map fun p => (tE c p.1, tE c p.2)) σ H Q'
  | [], _, _, _, _, h, w => w _ _ h
  | (fk, fv) :: r, σ, H, Q, Q', h, w => by
    obtain ⟨μ, env, S, k, S1, he, hs, hf, ha⟩ := h
    refine ⟨μ, env, S, k, S1, he, hs, hf, fun μ1 H1 kv e1 k1 r1 => ?_⟩
    obtain ⟨μ', env', S', k', S1', he', hs', hf', ha'⟩ := ha μ1 H1 kv e1 k1 r1
    refine ⟨μ', env', S', k', S1', he', hs', hf', fun μ2 H2 vv e2 k2 r2 => ?_⟩
    exact pairs_w r (ha' μ2 H2 vv e2 k2 r2) fun ps H' q => w _ _ q
theorem pair_rep {μ : List Addr} {H : Hp} : ∀ (ds : List D) {ps : List (Key × D)} {vs : List V} {qs : List (V × V)}, pairD ds = some ps → Reps c μ H ds vs → pairV vs = some qs → ∃ ys : List (Key × V), qs = ys.map (fun kv => (kV kv.1, kv.2)) ∧ RepKV c μ H ps ys
  | [], ps, vs, qs, h, r, k => by
    cases h
    obtain rfl : vs = [] := r
    cases k
    exact ⟨[], rfl, RepKV.nil⟩
  | [_], _, _, _, h, _, _ => by cases h
  | kd :: vd :: rest, ps, vs, qs, h, r, k => by
    obtain ⟨kv, w1, rfl, rk, vv, w2, rfl, rv, rr⟩ := r
    obtain ⟨k', e1, e2⟩ := Option.bind_eq_some_iff.mp h
    obtain ⟨ps', e3, e4⟩ := Option.map_eq_some_iff.mp e2
    subst e4
    obtain ⟨qs', e5, e6⟩ := Option.map_eq_some_iff.mp k
    subst e6
    obtain ⟨ys, e7, e8⟩ := pair_rep rest e3 rr e5
    subst e7
    exact ⟨(k', vv) :: ys, by rw [List.map_cons, keyD_rep rk e1], RepKV.cons rv e8⟩
theorem q_dic0 {pos : Pos} : PE X (.Dict [] [] pos) (tE c eDic0) := by
  refine PE.w pe_dnewK fun σ H Q h => ?_
  obtain ⟨μ, env, S, d, S', he, hs, hf, ha⟩ := h
  cases hf
  intro p hp
  have e : Ext c μ H (μ ++ [p]) (upd H p (.dK [])) := Ext.new hp
  refine ha _ _ _ e (hs.alloc hp ⟨[], upd_same, RepKV.nil⟩) ⟨p, ?_, rfl⟩
  rw [← hs.len, List.getElem?_append_right (Nat.le_refl _), Nat.sub_self]
  rfl
theorem q_dic {pos : Pos} {keys : List (Option Expr)} {values : List Expr} {fs : List (FE × FE)} (h : PPs X pos keys values (fs.map fun p => (tE c p.1, tE c p.2))) (hall : keys.all (·.isSome) = true := by rfl) (hl : keys.length = values.length := by rfl) (h0 : keys ≠ [] := by exact List.cons_ne_nil _ _) (h15 : keys.length ≤ 15 := by decide) :
    PE X (.Dict keys values pos) (tE c (eDic (aPairs fs))) := by
  refine PE.w (pe_disp h hall hl h0 h15) fun σ H Q h => ?_
  obtain ⟨μ, env, S, d, S', he, hs, hf, ha⟩ := h
  intro p hp
  obtain ⟨ds, S1, h1, hf⟩ := th_inv hf
  have e : Ext c μ H (μ ++ [p]) (upd H p (.dK [])) := Ext.new hp
  have k0 : StoOk c (μ ++ [p]) (S ++ [.dic []]) (upd H p (.dK [])) := hs.alloc hp ⟨[], upd_same, RepKV.nil⟩
  have hn : (μ ++ [p])[S.length]? = some p := by
    rw [← hs.len, List.getElem?_append_right (Nat.le_refl _), Nat.sub_self]
    rfl
  refine pairs_red.pairs_w fs (pairs_red fs (Q := fun vs H1 => ∃ μ1, Ext c (μ ++ [p]) (upd H p (.dK [])) μ1 H1 ∧ StoOk c μ1 S1 H1 ∧ Reps c μ1 H1 ds vs) ⟨μ ++ [p], env, _, ds, S1, he.mono e, k0, h1, fun μ1 H1 vs e1 k1 r1 => ⟨μ1, e1, k1, r1⟩⟩) fun ps H1 ⟨vs, ev, μ1, e1, k1, r1⟩ => ?_
  split at hf
  · rename_i qs g1 g2
    split at hf
    · rename_i hz
      cases hf
      have hn1 := e1.pre _ _ hn
      obtain ⟨a', g3, ys0, q0, r0⟩ := k1.stands _ _ g1
      rw [hn1] at g3
      cases g3
      rw [r0.inv0] at q0
      obtain ⟨ys, e5, e6⟩ := pair_rep ds g2 r1 ev
      have x : Ext c μ1 H1 μ1 (upd H1 p (.dK (mergeK [] ys))) := Ext.upd (.inr ⟨_, q0, trivial⟩)
      refine ⟨q0, ys, e5, by rw [e6.len]; exact hz, ?_⟩
      exact ha _ _ _ ((e.trans e1).trans x) (k1.write g1 rfl hn1 x ⟨_, upd_same, (e6.merge RepKV.nil).mono x⟩) ⟨p, hn1, rfl⟩
    · cases hf
  · cases hf
/-! ### dict.get, dict.pop -/
def eGet2 (fo fk fx : FE) : FE := fun env S => th (fo env S) fun o S1 => th (fk env S1) fun k S2 => th (fx env S2) fun z S3 => match o with
  | .ref n => match getD S1 n, getD S3 n, keyD k with
    | some _, some kvs, some k' => match valG kvs k' with
      | some d => some (d, S3)
      | none => some (z, S3)
    | _, _, _ => none
  | _ => none
def eGet1 (fo fk : FE) : FE := fun env S => th (fo env S) fun o S1 => th (fk env S1) fun k S2 => match o with
  | .ref n => match getD S1 n, getD S2 n, keyD k with
    | some _, some kvs, some k' => match valG kvs k' with
      | some d => some (d, S2)
      | none => some (.non, S2)
    | _, _, _ => none
  | _ => none
def eDPop1 (fo fk : FE) : FE := fun env S => th (fo env S) fun o S1 => th (fk env S1) fun k S2 => match o with
  | .ref n => match getD S1 n, S2[n]?, keyD k with
    | some _, some (.dic kvs), some k' => match valG kvs k' with
      | some d => some (d, S2.set n (.dic (dropG kvs k')))
      | none => none
    | _, _, _ => none
  | _ => none
def eDPop2 (fo fk fx : FE) : FE := fun env S => th (fo env S) fun o S1 => th (fk env S1) fun k S2 => th (fx env S2) fun z S3 => match o with
  | .ref n => match getD S1 n, S3[n]?, keyD k with
    | some _, some (.dic kvs), some k' => match valG kvs k' with
      | some d => some (d, S3.set n (.dic (dropG kvs k')))
      | none => some (z, S3)
    | _, _, _ => none
  | _ => none
theorem isD_of {μ : List Addr} {S : Sto} {H : Hp} {n : Nat} {a : Addr} {kvs : List (Key × D)} (hs : StoOk c μ S H) (e : getD S n = some kvs) (ha : μ[n]? = some a) : IsD H a := by
  obtain ⟨a', ys, g1, q, _⟩ := getD_rd hs e
  rw [ha] at g1
  cases g1
  exact .inl ⟨ys, q⟩
variable {o e f : Expr} {apos cpos pos : Pos} {fo fk fx : FE}
theorem q_get2 (h : PE X (.Call (.Attribute o "get" apos) [e, f] [] cpos) (tDGet2 (tE c fo) (tE c fk) (tE c fx))) : PE X (.Call (.Attribute o "get" apos) [e, f] [] cpos) (tE c (eGet2 fo fk fx)) := by
  refine PE.w h fun σ H Q h => ?_
  obtain ⟨μ, env, S, d, S', he, hs, hf, ha⟩ := h
  obtain ⟨ov, S1, h1, hf⟩ := th_inv hf
  obtain ⟨kd, S2, h2, hf⟩ := th_inv hf
  obtain ⟨z, S3, h3, hf⟩ := th_inv hf
  refine ⟨μ, env, S, ov, S1, he, hs, h1, fun μ1 H1 v e1 k1 r1 => ?_⟩
  cases ov with
  | ref n =>
    obtain ⟨a, ha1, rfl⟩ := r1
    simp only at hf
    split at hf
    · rename_i kvs0 kvs k' g0 g1 g2
      refine ⟨a, rfl, isD_of k1 g0 ha1, μ1, env, S1, kd, S2, he.mono e1, k1, h2, fun μ2 H2 w e2 k2 r2 => ?_⟩
      refine ⟨μ2, env, S2, z, S3, (he.mono e1).mono e2, k2, h3, fun μ3 H3 y e3 k3 r3 => ?_⟩
      obtain ⟨a', ys, g3, q, rr⟩ := getD_rd k3 g1
      rw [e3.pre _ _ (e2.pre _ _ ha1)] at g3
      cases g3
      refine ⟨valV ys k', .inl ⟨ys, k', q, keyD_rep r2 g2, rfl⟩, ?_⟩
      obtain ⟨i1, i2⟩ := rr.val k'
      have ha3 := ((ha.ext e1).ext e2).ext e3
      split at hf
      · rename_i d' g4
        cases hf
        obtain ⟨vv, e5, e6⟩ := i1 _ g4
        rw [e5]
        exact ha3.now k3 e6
      · rename_i g4
        cases hf
        rw [i2 g4]
        exact ha3.now k3 r3
    · cases hf
  | _ => cases hf
theorem q_get1 (h : PE X (.Call (.Attribute o "get" apos) [e] [] cpos) (tDGet1 (tE c fo) (tE c fk))) : PE X (.Call (.Attribute o "get" apos) [e] [] cpos) (tE c (eGet1 fo fk)) := by
  refine PE.w h fun σ H Q h => ?_
  obtain ⟨μ, env, S, d, S', he, hs, hf, ha⟩ := h
  obtain ⟨ov, S1, h1, hf⟩ := th_inv hf
  obtain ⟨kd, S2, h2, hf⟩ := th_inv hf
  refine ⟨μ, env, S, ov, S1, he, hs, h1, fun μ1 H1 v e1 k1 r1 => ?_⟩
  cases ov with
  | ref n =>
    obtain ⟨a, ha1, rfl⟩ := r1
    simp only at hf
    split at hf
    · rename_i kvs0 kvs k' g0 g1 g2
      refine ⟨a, rfl, isD_of k1 g0 ha1, μ1, env, S1, kd, S2, he.mono e1, k1, h2, fun μ2 H2 w e2 k2 r2 => ?_⟩
      obtain ⟨a', ys, g3, q, rr⟩ := getD_rd k2 g1
      rw [e2.pre _ _ ha1] at g3
      cases g3
      refine ⟨valV ys k', .inl ⟨ys, k', q, keyD_rep r2 g2, rfl⟩, ?_⟩
      obtain ⟨i1, i2⟩ := rr.val k'
      have ha3 := (ha.ext e1).ext e2
      split at hf
      · rename_i d' g4
        cases hf
        obtain ⟨vv, e5, e6⟩ := i1 _ g4
        rw [e5]
        exact ha3.now k2 e6
      · rename_i g4
        cases hf
        rw [i2 g4]
        exact ha3.now k2 rfl
    · cases hf
  | _ => cases hf
theorem dic_set {μ : List Addr} {S : Sto} {H : Hp} {n : Nat} {a : Addr} {us ds : List (Key × D)} {xs ys : List (Key × V)} (hs : StoOk c μ S H) (e : S[n]? = some (.dic us)) (ha : μ[n]? = some a) (q : H a = some (.dK xs)) (r : RepKV c μ H ds ys) :
    Ext c μ H μ (upd H a (.dK ys)) ∧ StoOk c μ (S.set n (.dic ds)) (upd H a (.dK ys)) := by
  have x : Ext c μ H μ (upd H a (.dK ys)) := Ext.upd (.inr ⟨_, q, trivial⟩)
  exact ⟨x, hs.write e rfl ha x ⟨ys, upd_same, r.mono x⟩⟩
theorem q_dpop1 (h : PE X (.Call (.Attribute o "pop" apos) [e] [] cpos) (tDPop1 (tE c fo) (tE c fk))) : PE X (.Call (.Attribute o "pop" apos) [e] [] cpos) (tE c (eDPop1 fo fk)) := by
  refine PE.w h fun σ H Q h => ?_
  obtain ⟨μ, env, S, d, S', he, hs, hf, ha⟩ := h
  obtain ⟨ov, S1, h1, hf⟩ := th_inv hf
  obtain ⟨kd, S2, h2, hf⟩ := th_inv hf
  refine ⟨μ, env, S, ov, S1, he, hs, h1, fun μ1 H1 v e1 k1 r1 => ?_⟩
  cases ov with
  | ref n =>
    obtain ⟨a, ha1, rfl⟩ := r1
    simp only at hf
    split at hf
    · rename_i kvs0 kvs k' g0 g1 g2
      refine ⟨a, rfl, isD_of k1 g0 ha1, μ1, env, S1, kd, S2, he.mono e1, k1, h2, fun μ2 H2 w e2 k2 r2 => ?_⟩
      obtain ⟨a', g3, ys, q, rr⟩ := k2.stands _ _ g1
      rw [e2.pre _ _ ha1] at g3
      cases g3
      obtain ⟨i1, i2⟩ := rr.val k'
      split at hf
      · rename_i d' g4
        cases hf
        obtain ⟨vv, e5, e6⟩ := i1 _ g4
        obtain ⟨x1, x2⟩ := dic_set k2 g1 (e2.pre _ _ ha1) q (RepKV.drop (k := k') rr)
        exact ⟨ys, k', vv, q, keyD_rep r2 g2, e5, ha _ _ _ ((e1.trans e2).trans x1) x2 (Rep.mono x1 _ _ e6)⟩
      · cases hf
    · cases hf
  | _ => cases hf
theorem q_dpop2 (h : PE X (.Call (.Attribute o "pop" apos) [e, f] [] cpos) (tDPop2 (tE c fo) (tE c fk) (tE c fx))) : PE X (.Call (.Attribute o "pop" apos) [e, f] [] cpos) (tE c (eDPop2 fo fk fx)) := by
  refine PE.w h fun σ H Q h => ?_
  obtain ⟨μ, env, S, d, S', he, hs, hf, ha⟩ := h
  obtain ⟨ov, S1, h1, hf⟩ := th_inv hf
  obtain ⟨kd, S2, h2, hf⟩ := th_inv hf
  obtain ⟨z, S3, h3, hf⟩ := th_inv hf
  refine ⟨μ, env, S, ov, S1, he, hs, h1, fun μ1 H1 v e1 k1 r1 => ?_⟩
  cases ov with
  | ref n =>
    obtain ⟨a, ha1, rfl⟩ := r1
    simp only at hf
    split at hf
    · rename_i kvs0 kvs k' g0 g1 g2
      refine ⟨a, rfl, isD_of k1 g0 ha1, μ1, env, S1, kd, S2, he.mono e1, k1, h2, fun μ2 H2 w e2 k2 r2 => ?_⟩
      refine ⟨μ2, env, S2, z, S3, (he.mono e1).mono e2, k2, h3, fun μ3 H3 y e3 k3 r3 => ?_⟩
      obtain ⟨a', g3, ys, q, rr⟩ := k3.stands _ _ g1
      have ha4 := e3.pre _ _ (e2.pre _ _ ha1)
      rw [ha4] at g3
      cases g3
      obtain ⟨i1, i2⟩ := rr.val k'
      have r2' := Rep.mono e3 _ _ r2
      refine ⟨ys, k', q, keyD_rep r2 g2, fun v' ev => ?_, fun ev => ?_⟩
      · split at hf
        · rename_i d' g4
          cases hf
          obtain ⟨vv, e5, e6⟩ := i1 _ g4
          rw [ev] at e5
          cases e5
          obtain ⟨x1, x2⟩ := dic_set k3 g1 ha4 q (RepKV.drop (k := k') rr)
          exact ha _ _ _ (((e1.trans e2).trans e3).trans x1) x2 (Rep.mono x1 _ _ e6)
        · rename_i g4
          rw [i2 g4] at ev
          cases ev
      · split at hf
        · rename_i d' g4
          obtain ⟨vv, e5, e6⟩ := i1 _ g4
          rw [ev] at e5
          cases e5
        · rename_i g4
          cases hf
          exact ha _ _ _ ((e1.trans e2).trans e3) k3 r3
    · cases hf
  | _ => cases hf

/-! ### fields -/
def putF (f : Str) (v : D) : List (Str × D) → List (Str × D)
  | [] => [(f, v)]
  | (g, w) :: r => if g = f then (g, v) :: r else (g, w) :: putF f v r
def eFld (ks : List Str) (fa : FE) (f : Str) : FE := fun env S => th (fa env S) fun x S1 => match x with
  | .ref n => match S1[n]? with
    | some (.ins k fs) => if k ∈ ks then (fs.lookup f).map fun d => (d, S1) else none
    | _ => none
  | _ => none
theorem fs_lookup {μ : List Addr} {H : Hp} {f : Str} {d : D} : ∀ {fs : List (Str × D)} {ys : List (Str × V)}, RepKV c μ H fs ys → fs.lookup f = some d → ∃ v, ys.lookup f = some v ∧ Rep c μ H d v
  | [], _, _, h => by cases h
  | (g, w) :: r, ys, h, k => by
    obtain ⟨v, ys', rfl, rv, h2⟩ := h.inv
    rw [List.lookup_cons] at k ⊢
    cases e : f == g with
    | true =>
      rw [e] at k
      cases k
      exact ⟨v, rfl, rv⟩
    | false =>
      rw [e] at k
      exact fs_lookup h2 k
theorem fs_none {μ : List Addr} {H : Hp} {f : Str} : ∀ {fs : List (Str × D)} {ys : List (Str × V)}, RepKV c μ H fs ys → fs.lookup f = none → ys.lookup f = none
  | [], ys, h, _ => by rw [h.inv0]; rfl
  | (g, w) :: r, ys, h, k => by
    obtain ⟨v, ys', rfl, rv, h2⟩ := h.inv
    rw [List.lookup_cons] at k ⊢
    cases e : f == g with
    | true =>
      rw [e] at k
      cases k
    | false =>
      rw [e] at k
      exact fs_none h2 k
/-- what the text must have of the classes ks, of a field f of theirs, of a method m of theirs -/
def ClsK (c : FC) (ks : List Str) : Prop := ∀ k ∈ ks, Cls c.K (c.ct k)
def FldK (c : FC) (ks : List Str) (f : Str) : Prop := ∀ k ∈ ks, NoAttr c.K (c.ct k) f
theorem q_fld (hK : c.K = X.K) {f : Str} {ks : List Str} {fa : FE} (h1 : ClsK c ks) (h2 : FldK c ks f) (he : PE X e (tE c fa)) (hb : attributeBase e f X.env (eval e X.env) = eval e X.env := by rfl) : PE X (.Attribute e f pos) (tE c (eFld ks fa f)) := by
  refine PE.w (pe_fld he hb) fun σ H Q h => ?_
  obtain ⟨μ, env, S, d, S', he, hs, hf, ha⟩ := h
  obtain ⟨x, S1, h1', hf⟩ := th_inv hf
  refine ⟨μ, env, S, x, S1, he, hs, h1', fun μ1 H1 v e1 k1 r1 => ?_⟩
  cases x with
  | ref n =>
    obtain ⟨a, ha1, rfl⟩ := r1
    simp only at hf
    split at hf
    · rename_i k fs g1
      split at hf
      · rename_i hk
        obtain ⟨d', g2, g3⟩ := Option.map_eq_some_iff.mp hf
        cases g3
        obtain ⟨a', g4, dx, ys, q, rr⟩ := k1.stands _ _ g1
        rw [ha1] at g4
        cases g4
        obtain ⟨v, e5, e6⟩ := fs_lookup rr g2
        exact ⟨a, c.ct k, dx, ys, v, rfl, q, by rw [← hK]; exact h1 k hk, by rw [← hK]; exact h2 k hk, e5, (ha.ext e1).now k1 e6⟩
      · cases hf
    · cases hf
  | _ => cases hf
theorem putF_rep {μ : List Addr} {H : Hp} {f : Str} {d : D} {v : V} (r : Rep c μ H d v) : ∀ {fs : List (Str × D)} {ys : List (Str × V)}, RepKV c μ H fs ys → RepKV c μ H (putF f d fs) (L2.putF f v ys)
  | [], ys, h => by
    rw [h.inv0]
    exact RepKV.cons r RepKV.nil
  | (g, w) :: rest, ys, h => by
    obtain ⟨v', ys', rfl, rv, h2⟩ := h.inv
    unfold putF L2.putF
    by_cases e : g = f
    · rw [if_pos e, if_pos e]
      exact RepKV.cons r h2
    · rw [if_neg e, if_neg e]
      exact RepKV.cons rv (putF_rep r h2)
theorem ins_set {μ : List Addr} {S : Sto} {H : Hp} {n : Nat} {a dx : Addr} {k : Str} {us ds : List (Str × D)} {xs ys : List (Str × V)} (hs : StoOk c μ S H) (e : S[n]? = some (.ins k us)) (ha : μ[n]? = some a) (q : H a = some (.ins (c.ct k) dx xs)) (r : RepKV c μ H ds ys) :
    Ext c μ H μ (upd H a (.ins (c.ct k) dx ys)) ∧ StoOk c μ (S.set n (.ins k ds)) (upd H a (.ins (c.ct k) dx ys)) := by
  have x : Ext c μ H μ (upd H a (.ins (c.ct k) dx ys)) := Ext.upd (.inr ⟨_, q, trivial⟩)
  exact ⟨x, hs.write e rfl ha x ⟨dx, ys, upd_same, r.mono x⟩⟩

/-! ### instances: a new one, its methods -/
/-- C(..): place n is new; then __init__ -/
def eMake (k : Str) (F : FF) (fr : FA) : FE := fun env S => th (fr env S) fun ds S1 => th (F (.ref S1.length :: ds) (S1 ++ [.ins k []])) fun v S2 => match v with
  | .non => some (.ref S1.length, S2)
  | _ => none
theorem q_make {n : Nat} {k : Str} {F : FF} {fr : FA} {E : XK} (h : PE X e (tMake (c.ct k) (spF c n F) [] E (tA c fr))) (hl : ∀ (env : Env) (S : Sto) (ds : List D) (S' : Sto), fr env S = some (ds, S') → ds.length + 1 = n) : PE X e (tE c (eMake k F fr)) := by
  refine PE.w h fun σ H Q h => ?_
  obtain ⟨μ, env, S, d, S', he, hs, hf, ha⟩ := h
  obtain ⟨ds, S1, h1, hf⟩ := th_inv hf
  obtain ⟨v, S2, h2, hf⟩ := th_inv hf
  refine ⟨μ, env, S, ds, S1, he, hs, h1, fun μ1 H1 vs e1 k1 q1 => ?_⟩
  intro x dx nx ndx nex
  show spF c n F (.ref x :: (vs ++ [])) _ _ E
  rw [List.append_nil]
  refine ⟨by rw [List.length_cons, q1.len]; exact hl _ _ _ _ h1, ?_⟩
  have kd : StoOk c μ1 S1 (upd H1 dx (.own x)) := k1.same ndx
  have ed : Ext c μ1 H1 μ1 (upd H1 dx (.own x)) := Ext.upd (.inl ndx)
  have nx' : (upd H1 dx (.own x)) x = none := by rw [upd_ne nex.symm]; exact nx
  have ex : Ext c μ1 (upd H1 dx (.own x)) (μ1 ++ [x]) (upd (upd H1 dx (.own x)) x (.ins (c.ct k) dx [])) := Ext.new nx'
  have kx : StoOk c (μ1 ++ [x]) (S1 ++ [.ins k []]) (upd (upd H1 dx (.own x)) x (.ins (c.ct k) dx [])) := kd.alloc nx' ⟨dx, [], upd_same, RepKV.nil⟩
  have hn : (μ1 ++ [x])[S1.length]? = some x := by
    rw [← k1.len, List.getElem?_append_right (Nat.le_refl _), Nat.sub_self]
    rfl
  refine ⟨μ1 ++ [x], _, .ref S1.length :: ds, v, S2, kx, ⟨.ref x, vs, rfl, ⟨x, hn, rfl⟩, Reps.mono (ed.trans ex) _ _ q1⟩, h2, fun μ2 H2 w e2 k2 r2 => ?_⟩
  cases v with
  | non =>
    cases hf
    exact ⟨r2, ha _ _ _ (((e1.trans ed).trans ex).trans e2) k2 ⟨x, e2.pre _ _ hn, rfl⟩⟩
  | _ => cases hf
/-- o.m(..), o an instance of the class k -/
def eMeth (k : Str) (m : Str) (F : FF) (fo : FE) (fr : FA) : FE := fun env S => th (fo env S) fun x S1 => match x with
  | .ref n => match S1[n]? with
    | some (.ins k' fs) => if k' = k ∧ fs.lookup m = none then th (fr env S1) fun ds S2 => F (x :: ds) S2 else none
    | _ => none
  | _ => none
theorem q_meth {n : Nat} {k m : Str} {F : FF} {fr : FA} {E : XK} (h : PE X e (tMeth (c.ct k) m (spF c n F) [] E (tE c fo) (tA c fr))) (hl : ∀ (env : Env) (S : Sto) (ds : List D) (S' : Sto), fr env S = some (ds, S') → ds.length + 1 = n) : PE X e (tE c (eMeth k m F fo fr)) := by
  refine PE.w h fun σ H Q h => ?_
  obtain ⟨μ, env, S, d, S', he, hs, hf0, ha⟩ := h
  obtain ⟨x, S1, h1, hf⟩ := th_inv hf0
  clear hf0
  refine ⟨μ, env, S, x, S1, he, hs, h1, fun μ1 H1 v e1 k1 r1 => ?_⟩
  cases x with
  | ref i =>
    obtain ⟨a, ha1, rfl⟩ := r1
    simp only at hf
    split at hf
    · rename_i k' fs g1
      split at hf
      · rename_i hk
        obtain ⟨hk1, hk2⟩ := hk
        subst hk1
        obtain ⟨ds, S2, h2, hf⟩ := th_inv hf
        obtain ⟨a', g4, dx, ys, q, rr⟩ := k1.stands _ _ g1
        rw [ha1] at g4
        cases g4
        refine ⟨a, dx, ys, rfl, q, fs_none rr hk2, μ1, env, S1, ds, S2, he.mono e1, k1, h2, fun μ2 H2 vs e2 k2 r2 => ?_⟩
        show spF c n F (.ref a :: (vs ++ [])) H2 Q E
        rw [List.append_nil]
        exact ⟨by rw [List.length_cons, r2.len]; exact hl _ _ _ _ h2, μ2, S2, .ref i :: ds, d, S', k2, ⟨.ref a, vs, rfl, ⟨a, e2.pre _ _ ha1, rfl⟩, r2⟩, hf, (ha.ext e1).ext e2⟩
      · cases hf
    · cases hf
  | _ => cases hf
end
/-- calls of a built-in type's methods: the receiver's type is seen -/
def tyD (T : String) (x : D) (S : Sto) : Bool := match x with
  | .str _ => T == "str"
  | .ref n => match S[n]? with
    | some (.lst _) => T == "list"
    | some (.ro _) => T == "list"
    | some (.dic _) => T == "dict"
    | _ => false
  | _ => false
def eBm (T : String) (F : D → FF) (fo : FE) (fr : FA) : FE := fun env S => th (fo env S) fun x S1 => if tyD T x S1 = true then th (fr env S1) fun ds S2 => F x ds S2 else none
section
variable {c : FC} {X : Cx} {e : Expr} {fo : FE} {fr : FA} {T : String} {F : D → FF}
theorem tyD_rep (hK : c.K = X.K) {μ : List Addr} {S : Sto} {H : Hp} {d : D} {v : V} (hs : StoOk c μ S H) (r : Rep c μ H d v) (h : tyD T d S = true) : tyV X.K T v H := by
  unfold tyD at h
  split at h
  · obtain rfl := (show v = .str _ from r)
    exact beq_iff_eq.mp h
  · obtain ⟨a, ha, rfl⟩ := r
    split at h
    · rename_i e
      obtain ⟨a', g1, ys, q, rr⟩ := hs.stands _ _ e
      rw [ha] at g1
      cases g1
      exact .inl ⟨beq_iff_eq.mp h, ys, SqL.of q⟩
    · rename_i e
      obtain ⟨a', g1, rr⟩ := hs.stands _ _ e
      rw [ha] at g1
      cases g1
      obtain ⟨ys, q, _⟩ := ro_sq rr
      exact .inl ⟨beq_iff_eq.mp h, ys, by rw [← hK]; exact q⟩
    · rename_i e
      obtain ⟨a', g1, ys, q, rr⟩ := hs.stands _ _ e
      rw [ha] at g1
      cases g1
      exact .inr (.inr (.inl ⟨beq_iff_eq.mp h, .inl ⟨ys, q⟩⟩))
    · cases h
  · cases h
theorem q_bm (hK : c.K = X.K) (h : PE X e (tBM X.K T (rM c F) (tE c fo) (tA c fr))) : PE X e (tE c (eBm T F fo fr)) := by
  refine PE.w h fun σ H Q h => ?_
  obtain ⟨μ, env, S, d, S', he, hs, hf, ha⟩ := h
  obtain ⟨x, S1, h1, hf⟩ := th_inv hf
  refine ⟨μ, env, S, x, S1, he, hs, h1, fun μ1 H1 v e1 k1 r1 => ?_⟩
  split at hf
  · rename_i ht
    obtain ⟨ds, S2, h2, hf⟩ := th_inv hf
    refine ⟨tyD_rep hK k1 r1 ht, μ1, env, S1, ds, S2, he.mono e1, k1, h2, fun μ2 H2 vs e2 k2 r2 => ?_⟩
    exact ⟨μ2, S2, x, ds, d, S', k2, Rep.mono e2 _ _ r1, r2, hf, (ha.ext e1).ext e2⟩
  · cases hf
theorem q_bm0 (hK : c.K = X.K) (h : PE X e (tBM0 X.K T (rM c F) (tE c fo))) : PE X e (tE c (eBm T F fo aNil)) := by
  refine PE.w h fun σ H Q h => ?_
  obtain ⟨μ, env, S, d, S', he, hs, hf, ha⟩ := h
  obtain ⟨x, S1, h1, hf⟩ := th_inv hf
  refine ⟨μ, env, S, x, S1, he, hs, h1, fun μ1 H1 v e1 k1 r1 => ?_⟩
  split at hf
  · rename_i ht
    obtain ⟨ds, S2, h2, hf⟩ := th_inv hf
    cases h2
    exact ⟨tyD_rep hK k1 r1 ht, μ1, _, x, [], d, S', k1, r1, rfl, hf, ha.ext e1⟩
  · cases hf
end
end FL
/-! FL7: statements, targets, loops, comprehensions, defs. -/
namespace FL
open PySem PySem.Spec PyProof.Rows L2

/-! ### statements -/
def OutAt (c : FC) (μ' : List Addr) (H' : Hp) (S' : Sto) (Dn : Ends) : Out → Prop
  | .nx e => ∀ σ', EnvOk c μ' H' e σ' → Dn.nx σ' H'
  | .bk e => ∀ σ', EnvOk c μ' H' e σ' → Dn.bk σ' H'
  | .ct e => ∀ σ', EnvOk c μ' H' e σ' → Dn.ct σ' H'
  | .rt d => ∀ v, Rep c μ' H' d v → Dn.rt v H'
def OutOk (c : FC) (μ : List Addr) (H : Hp) (o : Out) (S' : Sto) (Dn : Ends) : Prop := ∀ μ' H', Ext c μ H μ' H' → StoOk c μ' S' H' → OutAt c μ' H' S' Dn o
def tS (c : FC) (f : FS) : TS := fun Dn σ H => ∃ μ env S o S', EnvOk c μ H env σ ∧ StoOk c μ S H ∧ f env S = some (o, S') ∧ OutOk c μ H o S' Dn
theorem OutOk.ext {c : FC} {μ μ1 : List Addr} {H H1 : Hp} {S' : Sto} {o : Out} {Dn : Ends} (h : OutOk c μ H o S' Dn) (e : Ext c μ H μ1 H1) : OutOk c μ1 H1 o S' Dn := fun μ' H' e' k => h μ' H' (e.trans e') k
theorem OutOk.nx {c : FC} {μ : List Addr} {H : Hp} {S' : Sto} {e : Env} {Dn : Ends} {σ : L2.St} (h : OutOk c μ H (.nx e) S' Dn) (k : StoOk c μ S' H) (r : EnvOk c μ H e σ) : Dn.nx σ H := h μ H Ext.refl k σ r

def sNil : FS := fun env S => some (.nx env, S)
def sSeq (f g : FS) : FS := fun env S => th (f env S) fun o S1 => match o with
  | .nx e => g e S1
  | o => some (o, S1)
def sDrop (fe : FE) : FS := fun env S => th (fe env S) fun _ S1 => some (.nx env, S1)
def sRet (fe : FE) : FS := fun env S => th (fe env S) fun d S1 => some (.rt d, S1)
def sRetN : FS := fun _ S => some (.rt .non, S)
def sBrk : FS := fun env S => some (.bk env, S)
def sCnt : FS := fun env S => some (.ct env, S)
def sIf (t : FT) (f g : FS) : FS := fun env S => th (t env S) fun b S1 => if b = true then f env S1 else g env S1
def sNever : FS := fun _ _ => none

section
variable {c : FC} {X : Cx} {st : Stmt} {rest : List Stmt} {f g : FS} {e : Expr} {fe : FE} {ft : FT} {pos : Pos}
theorem PS.w {t t' : TS} (h : PS X st t) (w : ∀ Dn σ H, t' Dn σ H → t Dn σ H) : PS X st t' := ⟨fun pins s σ H D I q => h.run pins s σ H D I (w D σ H q)⟩
theorem PSs.w {sts : List Stmt} {t t' : TS} (h : PSs X sts t) (w : ∀ Dn σ H, t' Dn σ H → t Dn σ H) : PSs X sts t' := ⟨fun pins s σ H D I q => h.run pins s σ H D I (w D σ H q)⟩
theorem q_snil : PSs X [] (tS c sNil) := by
  refine PSs.w pss_nil fun Dn σ H h => ?_
  obtain ⟨μ, env, S, o, S', he, hs, hf, ha⟩ := h
  cases hf
  exact ha.nx hs he
theorem q_scons (h1 : PS X st (tS c f)) (h2 : PSs X rest (tS c g)) : PSs X (st :: rest) (tS c (sSeq f g)) := by
  refine PSs.w (pss_cons h1 h2) fun Dn σ H h => ?_
  obtain ⟨μ, env, S, o, S', he, hs, hf, ha⟩ := h
  obtain ⟨o1, S1, h1, hf⟩ := th_inv hf
  refine ⟨μ, env, S, o1, S1, he, hs, h1, fun μ1 H1 e1 k1 => ?_⟩
  cases o1 with
  | nx env1 => exact fun σ1 r1 => ⟨μ1, env1, S1, o, S', r1, k1, hf, ha.ext e1⟩
  | rt d =>
    cases hf
    exact fun v r => ha μ1 H1 e1 k1 v r
  | bk e =>
    cases hf
    exact fun σ1 r => ha μ1 H1 e1 k1 σ1 r
  | ct e =>
    cases hf
    exact fun σ1 r => ha μ1 H1 e1 k1 σ1 r
theorem q_sone (h1 : PS X st (tS c f)) : PSs X [st] (tS c f) := pss_one h1
theorem q_drop (h : PE X e (tE c fe)) (hs : swapsWith e none pos.line X.env = pure false := by rfl) : PS X (.Expr e pos) (tS c (sDrop fe)) := by
  refine PS.w (ps_expr h hs) fun Dn σ H h => ?_
  obtain ⟨μ, env, S, o, S', he, hs, hf, ha⟩ := h
  obtain ⟨d, S1, h1, hf⟩ := th_inv hf
  cases hf
  exact ⟨μ, env, S, d, _, he, hs, h1, fun μ1 H1 v e1 k1 r1 => ha μ1 H1 e1 k1 σ (he.mono e1)⟩
theorem q_ret (h : PE X e (tE c fe)) : PS X (.Return (some e) pos) (tS c (sRet fe)) := by
  refine PS.w (ps_ret h) fun Dn σ H h => ?_
  obtain ⟨μ, env, S, o, S', he, hs, hf, ha⟩ := h
  obtain ⟨d, S1, h1, hf⟩ := th_inv hf
  cases hf
  exact ⟨μ, env, S, d, _, he, hs, h1, fun μ1 H1 v e1 k1 r1 => ha μ1 H1 e1 k1 v r1⟩
theorem q_retN : PS X (.Return none pos) (tS c sRetN) := by
  refine PS.w ps_retN fun Dn σ H h => ?_
  obtain ⟨μ, env, S, o, S', he, hs, hf, ha⟩ := h
  cases hf
  exact ha μ H Ext.refl hs .non rfl
theorem q_brk : PS X (.Break pos) (tS c sBrk) := by
  refine PS.w ps_break fun Dn σ H h => ?_
  obtain ⟨μ, env, S, o, S', he, hs, hf, ha⟩ := h
  cases hf
  exact ha μ H Ext.refl hs σ he
theorem q_cnt : PS X (.Continue pos) (tS c sCnt) := by
  refine PS.w ps_continue fun Dn σ H h => ?_
  obtain ⟨μ, env, S, o, S', he, hs, hf, ha⟩ := h
  cases hf
  exact ha μ H Ext.refl hs σ he
theorem q_pass : PS X (.Pass pos) (tS c sNil) := by
  refine PS.w ps_pass fun Dn σ H h => ?_
  obtain ⟨μ, env, S, o, S', he, hs, hf, ha⟩ := h
  cases hf
  exact ha.nx hs he
theorem q_sif {cd : Expr} {a b : List Stmt} (hc : PT X cd (tT c ft)) (ha : PSs X a (tS c f)) (hb : PSs X b (tS c g)) : PS X (.If cd a b pos) (tS c (sIf ft f g)) := by
  refine PS.w (ps_if hc ha hb) fun Dn σ H h => ?_
  obtain ⟨μ, env, S, o, S', he, hs, hf, ha⟩ := h
  obtain ⟨k, S1, h1, hf⟩ := th_inv hf
  refine ⟨μ, env, S, k, S1, he, hs, h1, fun μ1 H1 e1 k1 => ?_⟩
  cases k with
  | true => exact ⟨μ1, env, S1, o, S', he.mono e1, k1, hf, ha.ext e1⟩
  | false => exact ⟨μ1, env, S1, o, S', he.mono e1, k1, hf, ha.ext e1⟩
theorem q_snever : PS X st (tS c sNever) := by
  refine PS.w ps_never fun Dn σ H h => ?_
  obtain ⟨μ, env, S, o, S', he, hs, hf, ha⟩ := h
  cases hf
end

/-! ### targets -/
abbrev FG := D → Env → Sto → Option (Env × Sto)
abbrev FGs := List D → Env → Sto → Option (Env × Sto)
/-- vs: slots outside of which nothing is stored (a comprehension's own), if that is asked -/
def tG (c : FC) (vs : Option (List Nat)) (g : FG) : TG := fun v σ H Q => ∃ μ env S d env' S', EnvOk c μ H env σ ∧ StoOk c μ S H ∧ Rep c μ H d v ∧ g d env S = some (env', S') ∧
  ∀ μ' H' σ', Ext c μ H μ' H' → StoOk c μ' S' H' → EnvOk c μ' H' env' σ' → (∀ ws, vs = some ws → wipe σ' ws = wipe σ ws) → Q σ' H'
def tGs (c : FC) (vs : Option (List Nat)) (g : FGs) : TGs := fun xs σ H Q => ∃ μ env S ds env' S', EnvOk c μ H env σ ∧ StoOk c μ S H ∧ Reps c μ H ds xs ∧ g ds env S = some (env', S') ∧
  ∀ μ' H' σ', Ext c μ H μ' H' → StoOk c μ' S' H' → EnvOk c μ' H' env' σ' → (∀ ws, vs = some ws → wipe σ' ws = wipe σ ws) → Q σ' H'
def gNm (i : Nat) : FG := fun d env S => some (env.set i (some d), S)
def gNils : FGs := fun ds env S => match ds with
  | [] => some (env, S)
  | _ => none
def gCns (g : FG) (gs : FGs) : FGs := fun ds env S => match ds with
  | d :: r => th (g d env S) fun env1 S1 => gs r env1 S1
  | [] => none
def gTp (n : Nat) (gs : FGs) : FG := fun d env S => match d with
  | .tup ds => if ds.length = n then gs ds env S else none
  | _ => none
def gIx (fo fi : FE) : FG := fun d env S => th (fo env S) fun o S1 => th (fi env S1) fun i S2 => match o with
  | .ref n => match S2[n]? with
    | some (.lst us) => match i with
      | .int k => match ixN us.length k with
        | some j => some (env, S2.set n (.lst (us.set j d)))
        | none => none
      | _ => none
    | some (.dic kvs) => match keyD i with
      | some k => if kvs.length < cap then some (env, S2.set n (.dic (putG kvs k d))) else none
      | none => none
    | _ => none
  | _ => none
def gFd (ks : List Str) (fo : FE) (f : Str) : FG := fun d env S => th (fo env S) fun o S1 => match o with
  | .ref n => match S1[n]? with
    | some (.ins k fs) => if k ∈ ks ∧ fs.length < 900 then some (env, S1.set n (.ins k (putF f d fs))) else none
    | _ => none
  | _ => none
theorem wipe_set {σ : L2.St} {i : Nat} {x : Option V} : ∀ {vs : List Nat}, i ∈ vs → wipe (σ.set i x) vs = wipe σ vs
  | [], h => nomatch h
  | v :: vs, h => by
    unfold wipe
    by_cases e : i ∈ vs
    · rw [wipe_set e]
    · have ev : i = v := by
        rcases List.mem_cons.mp h with e' | e'
        · exact e'
        · exact absurd e' e
      subst ev
      have : ∀ ws : List Nat, i ∉ ws → wipe (σ.set i x) ws = (wipe σ ws).set i x := by
        intro ws
        induction ws with
        | nil => intro _; rfl
        | cons w ws ih =>
          intro hw
          unfold wipe
          rw [ih (fun z => hw (List.mem_cons_of_mem _ z)), List.set_comm]
          intro z
          exact hw (by rw [z]; exact List.mem_cons_self)
      rw [this vs e, List.set_set]
section
variable {c : FC} {X : Cx} {vs : Option (List Nat)} {pos : Pos}
theorem PG.w {tg : Expr} {t t' : TG} (h : PG X tg t) (w : ∀ v σ H Q, t' v σ H Q → t v σ H Q) : PG X tg t' := ⟨fun pins s σ H v u Q I r q => h.run pins s σ H v u Q I r (w v σ H Q q)⟩
theorem PGs.w {tg : List Expr} {t t' : TGs} (h : PGs X tg t) (w : ∀ v σ H Q, t' v σ H Q → t v σ H Q) : PGs X tg t' := ⟨fun pins s σ H v u Q I r q => h.run pins s σ H v u Q I r (w v σ H Q q)⟩
theorem q_gnm {i : Nat} {x : Str} (hN : X.N.Nodup) (hi : X.N[i]? = some x := by rfl) (hv : ∀ ws, vs = some ws → i ∈ ws := by first | (intro _ h; cases h; decide) | (intro _ h; cases h)) (hx : Loc X.env.scope x := by first | exact Or.inl rfl | exact Or.inr rfl) (hf : X.fn x = true ∨ X.env.scope.names.lookup x = some .local := by first | exact .inl rfl | exact .inr rfl) :
    PG X (.Name x pos) (tG c vs (gNm i)) := by
  refine PG.w (pg_name hN hi hx hf) fun v σ H Q h => ?_
  obtain ⟨μ, env, S, d, env', S', he, hs, r, hg, ha⟩ := h
  cases hg
  exact ha μ H _ Ext.refl hs (he.set i r) fun ws e => wipe_set (hv ws e)
theorem q_gnil : PGs X [] (tGs c vs gNils) := by
  refine PGs.w pgs_nil fun v σ H Q h => ?_
  obtain ⟨μ, env, S, ds, env', S', he, hs, r, hg, ha⟩ := h
  unfold gNils at hg
  split at hg
  · cases hg
    obtain rfl : v = [] := r
    exact ⟨rfl, ha μ H _ Ext.refl hs he fun _ _ => rfl⟩
  · cases hg
theorem q_gcns {e : Expr} {es : List Expr} {g : FG} {gs : FGs} (h1 : PG X e (tG c vs g)) (h2 : PGs X es (tGs c vs gs)) (hs : (assignEach (e :: es) X.env).map (·.2) = assign e X.env :: (assignEach es X.env).map (·.2) := by rfl) : PGs X (e :: es) (tGs c vs (gCns g gs)) := by
  refine PGs.w (pgs_cons h1 h2 hs) fun v σ H Q h => ?_
  obtain ⟨μ, env, S, ds, env', S', he, hs, r, hg, ha⟩ := h
  unfold gCns at hg
  split at hg
  · rename_i d rest
    obtain ⟨env1, S1, g1, hg⟩ := th_inv hg
    obtain ⟨x, xs, rfl, r1, r2⟩ := r
    refine ⟨x, xs, rfl, μ, env, S, d, env1, S1, he, hs, r1, g1, fun μ1 H1 σ1 e1 k1 q1 w1 => ?_⟩
    exact ⟨μ1, env1, S1, rest, env', S', q1, k1, Reps.mono e1 _ _ r2, hg, fun μ2 H2 σ2 e2 k2 q2 w2 => ha μ2 H2 σ2 (e1.trans e2) k2 q2 fun ws e => (w2 ws e).trans (w1 ws e)⟩
  · cases hg
theorem q_gtp (hK : c.K = X.K) (hc : X.calm = true) {es : List Expr} {k n : Nat} {gs : FGs} (h : PGs X es (tGs c vs gs)) (hn : (assignEach es X.env).length = n := by rfl) (hst : (assignEach es X.env).findIdx? (·.1) = none := by rfl) : PG X (.Tuple es k pos) (tG c vs (gTp n gs)) := by
  refine PG.w (pg_tup hc h hn hst) fun v σ H Q h => ?_
  obtain ⟨μ, env, S, d, env', S', he, hs, r, hg, ha⟩ := h
  unfold gTp at hg
  split at hg
  · rename_i ds
    split at hg
    · rename_i hl
      obtain ⟨a, xs, rfl, q, rr⟩ := r
      exact ⟨a, xs, rfl, by rw [← hK]; exact q, by rw [rr.len]; exact hl, μ, env, S, ds, env', S', he, hs, rr, hg, ha⟩
    · cases hg
  · cases hg
def PSet.or {t t' : TSet} (h : PSet X t) (h' : PSet X t') : PSet X (fun o i v H Q => t o i v H Q ∨ t' o i v H Q) := fun pins s σ H o i v ov iv u Q I r1 r2 r3 q =>
  q.elim (h pins s σ H o i v ov iv u Q I r1 r2 r3) (h' pins s σ H o i v ov iv u Q I r1 r2 r3)
theorem q_gix (hu : X.A.units + 64 < cLine) {o i : Expr} {fo fi : FE} (ho : PE X o (tE c fo)) (hi : PE X i (tE c fi))
    (ha : ∀ v, assign (.Subscript o i pos) X.env v = (do
      let ov ← holding [v] (eval o X.env)
      let iv ← holding [v, ov] (eval i X.env)
      standAt pos
      holding [v, ov, iv] (setItem ov iv v)
      release [v, ov, iv] []) := by intro _; rfl) : PG X (.Subscript o i pos) (tG c none (gIx fo fi)) := by
  refine PG.w (pg_sub ho hi (PSet.or set_list (set_dict (by omega))) ha) fun v σ H Q h => ?_
  obtain ⟨μ, env, S, d, env', S', he, hs, r, hg, ha⟩ := h
  obtain ⟨ov, S1, h1, hg⟩ := th_inv hg
  obtain ⟨iv, S2, h2, hg⟩ := th_inv hg
  refine ⟨μ, env, S, ov, S1, he, hs, h1, fun μ1 H1 w e1 k1 r1 => ?_⟩
  refine ⟨μ1, env, S1, iv, S2, he.mono e1, k1, h2, fun μ2 H2 y e2 k2 r2 => ?_⟩
  cases ov with
  | ref n =>
    obtain ⟨a, ha1, rfl⟩ := r1
    simp only at hg
    split at hg
    · rename_i us g1
      split at hg
      · rename_i k
        split at hg
        · rename_i j g2
          cases hg
          obtain ⟨a', g4, ys, q, rr⟩ := k2.stands _ _ g1
          rw [e2.pre _ _ ha1] at g4
          cases g4
          obtain rfl := (show y = .int _ from r2)
          obtain ⟨x1, x2⟩ := lst_set k2 g1 (e2.pre _ _ ha1) q (rr.set (Rep.mono e2 _ _ (Rep.mono e1 _ _ r)) j)
          exact .inl ⟨a, ys, k, j, rfl, rfl, q, by rw [rr.len]; exact g2, ha _ _ _ ((e1.trans e2).trans x1) x2 (((he.mono e1).mono e2).mono x1) fun _ _ => rfl⟩
        · cases hg
      · cases hg
    · rename_i kvs g1
      split at hg
      · rename_i k g2
        split at hg
        · rename_i hz
          cases hg
          obtain ⟨a', g4, ys, q, rr⟩ := k2.stands _ _ g1
          rw [e2.pre _ _ ha1] at g4
          cases g4
          obtain ⟨x1, x2⟩ := dic_set k2 g1 (e2.pre _ _ ha1) q (rr.put (k := k) (Rep.mono e2 _ _ (Rep.mono e1 _ _ r)))
          exact .inr ⟨a, _, rfl, .inl ⟨ys, k, q, keyD_rep r2 g2, by rw [rr.len]; exact cap_lt hz, rfl⟩, ha _ _ _ ((e1.trans e2).trans x1) x2 (((he.mono e1).mono e2).mono x1) fun _ _ => rfl⟩
        · cases hg
      · cases hg
    · cases hg
  | _ => cases hg
/-- o.f = .. as a target -/
def gAt (K : PySem.W.Frag) (to : TE) (f : Str) : TG := fun y σ H Q => to σ H fun x H2 => ∃ a C dx fs, x = .ref a ∧ H2 a = some (.ins C dx fs) ∧ Cls K C ∧ NoAttr K C f ∧ fs.length < 1000 ∧ Q σ (upd H2 a (.ins C dx (L2.putF f y fs)))
theorem pg_at {o : Expr} {to : TE} {f : Str} (ho : PE X o to) : PG X (.Attribute o f pos) (gAt X.K to f) := by
  refine ⟨fun pins s σ H y u Q I ry h => ?_⟩
  show wpAny _ _ (do
    let ov ← holding [u] (eval o X.env)
    standAt pos.atName
    holding [u, ov] (setAttr ov f u)
    release [u, ov] []) _ _ s
  refine wpAny_bind (wpAny_holding (thn (ho.run pins s σ H _ I h) fun ov s1 ⟨x, H1, I1, r1, a, C, dx, fs, ex, ea, c1, n1, l, q1⟩ => ?_))
  subst ex
  obtain rfl : ov = Value.ref a := r1
  refine wpAny_bind (wpAny_standAt (wpAny_bind (wpAny_holding (setattr_ok I1 ea c1 n1 l ry fun s3 I3 => ?_))))
  exact wpAny_release ⟨σ, _, I3, q1⟩
theorem q_gfd (hK : c.K = X.K) {ks : List Str} {o : Expr} {f : Str} {fo : FE} (h1 : ClsK c ks) (h2 : FldK c ks f) (ho : PE X o (tE c fo)) : PG X (.Attribute o f pos) (tG c none (gFd ks fo f)) := by
  refine PG.w (pg_at ho) fun v σ H Q h => ?_
  obtain ⟨μ, env, S, d, env', S', he, hs, r, hg, ha⟩ := h
  obtain ⟨ov, S1, g0, hg⟩ := th_inv hg
  refine ⟨μ, env, S, ov, S1, he, hs, g0, fun μ1 H1 w e1 k1 r1 => ?_⟩
  cases ov with
  | ref n =>
    obtain ⟨a, ha1, rfl⟩ := r1
    simp only at hg
    split at hg
    · rename_i k fs g1
      split at hg
      · rename_i hk
        cases hg
        obtain ⟨a', g4, dx, ys, q, rr⟩ := k1.stands _ _ g1
        rw [ha1] at g4
        cases g4
        obtain ⟨x1, x2⟩ := ins_set k1 g1 ha1 q (putF_rep (f := f) (Rep.mono e1 _ _ r) rr)
        exact ⟨a, c.ct k, dx, ys, rfl, q, by rw [← hK]; exact h1 k hk.1, by rw [← hK]; exact h2 k hk.1, by rw [rr.len]; omega, ha _ _ _ (e1.trans x1) x2 ((he.mono e1).mono x1) fun _ _ => rfl⟩
      · cases hg
    · cases hg
  | _ => cases hg

/-! ### assignments -/
def sAsg (fe : FE) (g : FG) : FS := fun env S => th (fe env S) fun d S1 => th (g d env S1) fun env1 S2 => some (.nx env1, S2)
theorem q_asg {tg e : Expr} {fe : FE} {g : FG} (he : PE X e (tE c fe)) (hg : PG X tg (tG c none g)) (hs : swapsWithSole [tg] e pos.line X.env = pure false := by rfl) (hw : swappedStores [tg] e X.env = pure none := by rfl)
    (h1 : (assignEach [tg] X.env).map (·.2) = [assign tg X.env] := by rfl) : PS X (.Assign [tg] e pos) (tS c (sAsg fe g)) := by
  refine PS.w (ps_asg he hg hs hw h1) fun Dn σ H h => ?_
  obtain ⟨μ, env, S, o, S', he, hs, hf, ha⟩ := h
  obtain ⟨d, S1, h1, hf⟩ := th_inv hf
  obtain ⟨env1, S2, h2, hf⟩ := th_inv hf
  cases hf
  refine ⟨μ, env, S, d, S1, he, hs, h1, fun μ1 H1 v e1 k1 r1 => ?_⟩
  exact ⟨μ1, env, S1, d, env1, _, he.mono e1, k1, r1, h2, fun μ2 H2 σ2 e2 k2 q2 _ => ha μ2 H2 (e1.trans e2) k2 σ2 q2⟩
/-- a, b = x, y of plain local names -/
def sPar (is : List Nat) (fr : FA) : FS := fun env S => th (fr env S) fun ds S1 => if ds.length = is.length then some (.nx ((is.zip ds).foldl (fun e p => e.set p.1 (some p.2)) env), S1) else none
theorem q_par2 {i j : Nat} {x y : Str} {a b : Expr} {fr : FA} {px py pt : Pos} {kt k2 pt2} (hc : X.calm = true) (hN : X.N.Nodup) (ha : PA X [a, b] (tA c fr)) (hi : X.N[i]? = some x := by rfl) (hj : X.N[j]? = some y := by rfl) (hij : i ≠ j := by decide)
    (hx : X.env.scope.names.lookup x = some .local := by rfl) (hy : X.env.scope.names.lookup y = some .local := by rfl)
    (hw : swappedStores [.Tuple [.Name x px, .Name y py] kt pt] (.Tuple [a, b] k2 pt2) X.env = pure (some [x, y]) := by rfl)
    (hs : swapsWithSole [.Tuple [.Name x px, .Name y py] kt pt] (.Tuple [a, b] k2 pt2) pos.line X.env = pure false := by rfl) :
    PS X (.Assign [.Tuple [.Name x px, .Name y py] kt pt] (.Tuple [a, b] k2 pt2) pos) (tS c (sPar [i, j] fr)) := by
  refine PS.w (ps_par hc hN hi hj hij hx hy ha hw hs) fun Dn σ H h => ?_
  obtain ⟨μ, env, S, o, S', he, hs, hf, ha⟩ := h
  obtain ⟨ds, S1, h1, hf⟩ := th_inv hf
  split at hf
  · rename_i hl
    cases hf
    refine ⟨μ, env, S, ds, _, he, hs, h1, fun μ1 H1 vs e1 k1 r1 => ?_⟩
    match ds, hl, r1, ha with
    | [d1, d2], _, r1, ha =>
      obtain ⟨v, w, rfl, ra, rb⟩ := r1.two_inv
      exact ⟨v, w, rfl, ha μ1 H1 e1 k1 _ (((he.mono e1).set i ra).set j rb)⟩
  · cases hf
theorem q_par3 {i j l : Nat} {x y z : Str} {a b d : Expr} {fr : FA} {px py pz pt : Pos} {kt k2 pt2}
    (h : PS X (.Assign [.Tuple [.Name x px, .Name y py, .Name z pz] kt pt] (.Tuple [a, b, d] k2 pt2) pos) (tPar3 i j l (tA c fr))) :
    PS X (.Assign [.Tuple [.Name x px, .Name y py, .Name z pz] kt pt] (.Tuple [a, b, d] k2 pt2) pos) (tS c (sPar [i, j, l] fr)) := by
  refine PS.w h fun Dn σ H h => ?_
  obtain ⟨μ, env, S, o, S', he, hs, hf, ha⟩ := h
  obtain ⟨ds, S1, h1, hf⟩ := th_inv hf
  split at hf
  · rename_i hl
    cases hf
    refine ⟨μ, env, S, ds, _, he, hs, h1, fun μ1 H1 vs e1 k1 r1 => ?_⟩
    match ds, hl, r1, ha with
    | [d1, d2, d3], _, r1, ha =>
      obtain ⟨v, vs', rfl, ra, rb⟩ := r1
      obtain ⟨w, u, rfl, rb, rc⟩ := rb.two_inv
      exact ⟨v, w, u, rfl, ha μ1 H1 e1 k1 _ ((((he.mono e1).set i ra).set j rb).set l rc)⟩
  · cases hf
/-- name op= e -/
def sAug (i : Nat) (r : F2) (fe : FE) : FS := fun env S => match env[i]? with
  | some (some x) => th (fe env S) fun y S1 => th (r x y S1) fun z S2 => some (.nx (env.set i (some z)), S2)
  | _ => none
def PIp.w {op : Operator} {t t' : TIp} (h : PIp X op t) (w : ∀ x y H Q, t' x y H Q → t x y H Q) : PIp X op t' := fun pins s σ H x y v u Q I r1 r2 q => h pins s σ H x y v u Q I r1 r2 (w x y H Q q)
theorem q_aug {i : Nat} {x : Str} {e : Expr} {fe : FE} {r : F2} {op : Operator} {pos' : Pos} (hN : X.N.Nodup) (he : PE X e (tE c fe)) (ho : PIp X op (r2 c r)) (hi : X.N[i]? = some x := by rfl) (hx : Loc X.env.scope x := by first | exact Or.inl rfl | exact Or.inr rfl) (hf : X.fn x = true ∨ X.env.scope.names.lookup x = some .local := by first | exact .inl rfl | exact .inr rfl) :
    PS X (.AugAssign (.Name x pos') op e pos) (tS c (sAug i r fe)) := by
  refine PS.w (ps_aug hN hi hx he ho hf) fun Dn σ H h => ?_
  obtain ⟨μ, env, S, o, S', he, hs, hf, ha⟩ := h
  unfold sAug at hf
  split at hf
  · rename_i d g1
    obtain ⟨y, S1, h1, hf⟩ := th_inv hf
    obtain ⟨z, S2, h2, hf⟩ := th_inv hf
    cases hf
    obtain ⟨v, e1, r1⟩ := he.2 i d g1
    refine ⟨v, e1, μ, env, S, y, S1, he, hs, h1, fun μ1 H1 w x1 k1 q1 => ?_⟩
    exact ⟨μ1, S1, d, y, z, _, k1, Rep.mono x1 _ _ r1, q1, h2, fun μ2 H2 u x2 k2 q2 => ha μ2 H2 (x1.trans x2) k2 _ ((((he.mono x1).mono x2)).set i q2)⟩
  · cases hf
/-- o.f op= e -/
def sAugF (ks : List Str) (fo : FE) (f : Str) (r : F2) (fe : FE) : FS := fun env S => th (fo env S) fun o S1 => match o with
  | .ref n => match S1[n]? with
    | some (.ins k fs) => if k ∈ ks then match fs.lookup f with
      | some x => th (fe env S1) fun y S2 => th (r x y S2) fun z S3 => match S3[n]? with
        | some (.ins k' fs') => if k' = k ∧ fs'.length < 900 then some (.nx env, S3.set n (.ins k (putF f z fs'))) else none
        | _ => none
      | none => none
      else none
    | _ => none
  | _ => none
theorem q_augf (hK : c.K = X.K) {ks : List Str} {o e : Expr} {f : Str} {fo fe : FE} {r : F2} {op : Operator} {tpos : Pos} (h1 : ClsK c ks) (h2 : FldK c ks f) (ho : PE X o (tE c fo)) (he : PE X e (tE c fe)) (hop : InOp X op (r2 c r)) : PS X (.AugAssign (.Attribute o f tpos) op e pos) (tS c (sAugF ks fo f r fe)) := by
  refine PS.w (ps_fldaug ho he hop) fun Dn σ H h => ?_
  obtain ⟨μ, env, S, ou, S', he, hs, hf0, ha⟩ := h
  obtain ⟨ov, S1, g0, hf⟩ := th_inv hf0
  clear hf0
  refine ⟨μ, env, S, ov, S1, he, hs, g0, fun μ1 H1 w e1 k1 r1 => ?_⟩
  cases ov with
  | ref n =>
    obtain ⟨a, ha1, rfl⟩ := r1
    simp only at hf
    split at hf
    · rename_i k fs g1
      split at hf
      · rename_i hk
        split at hf
        · rename_i xd g2
          obtain ⟨y, S2, g3, hf⟩ := th_inv hf
          obtain ⟨z, S3, g4, hf⟩ := th_inv hf
          obtain ⟨a', g5, dx, ys, q, rr⟩ := k1.stands _ _ g1
          rw [ha1] at g5
          cases g5
          obtain ⟨v, e5, e6⟩ := fs_lookup rr g2
          refine ⟨a, c.ct k, dx, ys, v, rfl, q, by rw [← hK]; exact h1 k hk, by rw [← hK]; exact h2 k hk, e5, μ1, env, S1, y, S2, he.mono e1, k1, g3, fun μ2 H2 w e2 k2 r2 => ?_⟩
          refine ⟨μ2, S2, xd, y, z, S3, k2, Rep.mono e2 _ _ e6, r2, g4, fun μ3 H3 u e3 k3 r3 => ?_⟩
          split at hf
          · rename_i k' fs' g6
            split at hf
            · rename_i hk'
              obtain ⟨hk1, hk2⟩ := hk'
              subst hk1
              cases hf
              obtain ⟨a', g7, dx', ys', q', rr'⟩ := k3.stands _ _ g6
              have ha3 := e3.pre _ _ (e2.pre _ _ ha1)
              rw [ha3] at g7
              cases g7
              obtain ⟨x1, x2⟩ := ins_set k3 g6 ha3 q' (putF_rep (f := f) r3 rr')
              exact ⟨dx', ys', q', by rw [rr'.len]; omega, ha _ _ (((e1.trans e2).trans e3).trans x1) x2 _ ((((he.mono e1).mono e2).mono e3).mono x1)⟩
            · cases hf
          · cases hf
        · cases hf
      · cases hf
    · cases hf
  | _ => cases hf
/-- d[k] op= e, xs[i] op= e -/
def sAugS (fo fi : FE) (r : F2) (fe : FE) : FS := fun env S => th (fo env S) fun o S1 => th (fi env S1) fun i S2 => th (oIx o i S2) fun x S3 => th (fe env S3) fun y S4 => th (r x y S4) fun z S5 => th (gIx (eC o) (eC i) z env S5) fun env1 S6 => some (.nx env1, S6)
end
end FL
/-! FL8: loops, what they walk, comprehensions, defs. -/
namespace FL
open PySem PySem.Spec PyProof.Rows L2

/-! ### while -/
def whileN (t : FT) (b : FS) : Nat → FS
  | 0 => fun _ _ => none
  | n + 1 => fun env S => th (t env S) fun k S1 => if k = true then th (b env S1) fun o S2 => match o with
    | .nx e => whileN t b n e S2
    | .ct e => whileN t b n e S2
    | .bk e => some (.nx e, S2)
    | .rt d => some (.rt d, S2)
    else some (.nx env, S1)
/-- the most turns of a while -/
def fuel : Nat := 1000000
def sWhile (t : FT) (b : FS) : FS := whileN t b fuel
section
variable {c : FC} {X : Cx}
theorem q_while {cd : Expr} {body : List Stmt} {ft : FT} {fb : FS} {pos : Pos} (hp : PassesOwn (model X.prog X.w) X.A X.env X.xe) (hc : PT X cd (tT c ft)) (hb : PSs X body (tS c fb)) : PS X (.While cd body [] pos) (tS c (sWhile ft fb)) := by
  refine PS.w (ps_while hp hc hb) fun Dn σ H h => ?_
  obtain ⟨μ, env, S, o, S', he, hs, hf, ha⟩ := h
  refine ⟨fun m σ1 H1 => ∃ μ1 env1 S1, Ext c μ H μ1 H1 ∧ EnvOk c μ1 H1 env1 σ1 ∧ StoOk c μ1 S1 H1 ∧ whileN ft fb m env1 S1 = some (o, S'), ⟨fuel, μ, env, S, Ext.refl, he, hs, hf⟩, ?_⟩
  rintro m σ1 H1 ⟨μ1, env1, S1, e1, r1, k1, hw⟩
  cases m with
  | zero => cases hw
  | succ m =>
    obtain ⟨k, S2, h2, hw⟩ := th_inv hw
    refine ⟨μ1, env1, S1, k, S2, r1, k1, h2, fun μ2 H2 e2 k2 => ?_⟩
    have ha2 := (ha.ext e1).ext e2
    cases k with
    | true =>
      rw [if_pos rfl] at hw
      refine iteT ?_
      obtain ⟨o3, S3, h3, hw⟩ := th_inv hw
      refine ⟨fun σ' H' => ∃ μ1 env1 S1, Ext c μ H μ1 H' ∧ EnvOk c μ1 H' env1 σ' ∧ StoOk c μ1 S1 H' ∧ whileN ft fb m env1 S1 = some (o, S'), fun σ' H' q => ⟨m, Nat.lt_succ_self m, q⟩, ?_⟩
      refine ⟨μ2, env1, S2, o3, S3, r1.mono e2, k2, h3, fun μ3 H3 e3 k3 => ?_⟩
      cases o3 with
      | nx e => exact fun σ3 r3 => ⟨μ3, e, S3, (e1.trans e2).trans e3, r3, k3, hw⟩
      | ct e => exact fun σ3 r3 => ⟨μ3, e, S3, (e1.trans e2).trans e3, r3, k3, hw⟩
      | bk e =>
        cases hw
        exact fun σ3 r3 => ha2 μ3 H3 e3 k3 σ3 r3
      | rt d =>
        cases hw
        exact fun v r3 => ha2 μ3 H3 e3 k3 v r3
    | false =>
      rw [if_neg Bool.false_ne_true] at hw
      refine iteF ?_
      cases hw
      exact ha2.nx k2 (r1.mono e2)
end

/-! ### what is walked -/
structure ItD where
  it : Sto → Nat → Option (Option D)
  len : Nat
def ItD.fix (ds : List D) : ItD := ⟨fun _ i => some (ds[i]?), ds.length⟩
def ItD.lst (n k : Nat) : ItD := ⟨fun S i => (getL S n).map fun ds => ds[i]?, k⟩
/-- the keys of a dict that is locked -/
def ItD.keys (n k : Nat) : ItD := ⟨fun S i => match S[n]? with
  | some (.lck kvs) => some ((kvs[i]?).map fun kv => dKey kv.1)
  | _ => none, k⟩
def ItD.items (n k : Nat) : ItD := ⟨fun S i => match S[n]? with
  | some (.lck kvs) => some ((kvs[i]?).map fun kv => .tup [dKey kv.1, kv.2])
  | _ => none, k⟩
def ItD.vals (n k : Nat) : ItD := ⟨fun S i => match S[n]? with
  | some (.lck kvs) => some ((kvs[i]?).map fun kv => kv.2)
  | _ => none, k⟩
def ItD.enum (n k : Nat) : ItD := ⟨fun S i => (getL S n).map fun ds => (ds[i]?).map fun d => .tup [.int i, d], k⟩
def ItD.zip (n m k : Nat) : ItD := ⟨fun S i => match getL S n, getL S m with
  | some ds, some es => match ds[i]?, es[i]? with
    | some d, some e => some (some (.tup [d, e]))
    | _, _ => some none
  | _, _ => none, k⟩
abbrev FI := Env → Sto → Option (ItD × Sto)
def ItOk (c : FC) (μ0 : List Addr) (H0 : Hp) (it : ItD) (J : It) : Prop := ∀ μ H S, Ext c μ0 H0 μ H → StoOk c μ S H → ∀ i, (it.it S i = some none → J.stop i H) ∧
  ∀ d, it.it S i = some (some d) → J.go i H ∧ ∀ x H', J.yld i H x H' → ∃ μ', Ext c μ H μ' H' ∧ StoOk c μ' S H' ∧ Rep c μ' H' d x
def tI (c : FC) (fi : FI) : TI := fun σ H R => ∃ μ env S it S', EnvOk c μ H env σ ∧ StoOk c μ S H ∧ fi env S = some (it, S') ∧ ∀ μ' H' J, Ext c μ H μ' H' → StoOk c μ' S' H' → ItOk c μ' H' it J → R J H'
def iSeq (fe : FE) : FI := fun env S => th (fe env S) fun d S1 => match d with
  | .tup ds => some (.fix ds, S1)
  | .str z => some (.fix (z.cps.toList.map fun k => .str ⟨#[k]⟩), S1)
  | .ref n => match S1[n]? with
    | some (.lst ds) => some (.lst n ds.length, S1)
    | some (.ro ds) => some (.lst n ds.length, S1)
    | some (.lck kvs) => some (.keys n kvs.length, S1)
    | _ => none
  | _ => none
def rngD (lo : Int) (n : Nat) : List D := (List.range n).map fun (k : Nat) => D.int (lo + k)
def iRng1 (fr : FA) : FI := fun env S => th (fr env S) fun ds S1 => match ds with
  | [.int j] => if (decide (-4611686018427387904 ≤ j) && decide (j < 4611686018427387904)) = true then some (.fix (rngD 0 j.toNat), S1) else none
  | _ => none
def iRng2 (fr : FA) : FI := fun env S => th (fr env S) fun ds S1 => match ds with
  | [.int i, .int j] => if (decide (-4611686018427387904 ≤ i) && decide (i < 4611686018427387904) && decide (-4611686018427387904 ≤ j) && decide (j < 4611686018427387904)) = true then some (.fix (rngD i (j - i).toNat), S1) else none
  | _ => none
def iItems (fe : FE) : FI := fun env S => th (fe env S) fun d S1 => match d with
  | .ref n => match S1[n]? with
    | some (.lck kvs) => some (.items n kvs.length, S1)
    | _ => none
  | _ => none
def iVals (fe : FE) : FI := fun env S => th (fe env S) fun d S1 => match d with
  | .ref n => match S1[n]? with
    | some (.lck kvs) => some (.vals n kvs.length, S1)
    | _ => none
  | _ => none
def iEnum (fr : FA) : FI := fun env S => th (fr env S) fun ds S1 => match ds with
  | [.ref n] => (getL S1 n).map fun us => (.enum n us.length, S1)
  | _ => none
def iZip (fr : FA) : FI := fun env S => th (fr env S) fun ds S1 => match ds with
  | [.ref n, .ref m] => match getL S1 n, getL S1 m with
    | some us, some ws => some (.zip n m (min us.length ws.length), S1)
    | _, _ => none
  | [.tup us, .tup ws] => some (.fix ((us.zip ws).map fun p => .tup [p.1, p.2]), S1)
  | _ => none
section
variable {c : FC} {X : Cx} {tg e : Expr} {fe : FE} {fr : FA}
theorem PI.w {iter : Expr} {t t' : TI} (h : PI X tg iter t) (w : ∀ σ H R, t' σ H R → t σ H R) : PI X tg iter t' := ⟨fun pins s σ H R I q => h.run pins s σ H R I (w σ H R q)⟩
theorem PI.or {iter : Expr} {t t' : TI} (h : PI X tg iter t) (h' : PI X tg iter t') : PI X tg iter (fun σ H R => t σ H R ∨ t' σ H R) := ⟨fun pins s σ H R I q => q.elim (h.run pins s σ H R I) (h'.run pins s σ H R I)⟩
theorem itok_list (hK : c.K = X.K) {μ : List Addr} {H : Hp} {n k : Nat} {a : Addr} (ha : μ[n]? = some a) : ItOk c μ H (.lst n k) (Itl X.K a) := by
  intro μ1 H1 S1 e1 k1 i
  have ha1 := e1.pre _ _ ha
  refine ⟨fun h => ?_, fun d h => ?_⟩
  · obtain ⟨ds, g1, g2⟩ := Option.map_eq_some_iff.mp h
    obtain ⟨a', xs, g3, q, r⟩ := getL_sq k1 g1
    rw [ha1] at g3
    cases g3
    exact ⟨xs, by rw [← hK]; exact q, by rw [r.len]; exact List.getElem?_eq_none_iff.mp g2⟩
  · obtain ⟨ds, g1, g2⟩ := Option.map_eq_some_iff.mp h
    obtain ⟨a', xs, g3, q, r⟩ := getL_sq k1 g1
    rw [ha1] at g3
    cases g3
    obtain ⟨v, e4, rv⟩ := r.get g2
    refine ⟨⟨xs, v, by rw [← hK]; exact q, e4⟩, fun x H' y => ?_⟩
    obtain ⟨rfl, fv⟩ := y
    have ex : x = v := by
      have := (fv xs (by rw [← hK]; exact q)).symm.trans e4
      exact Option.some.inj this
    subst ex
    exact ⟨μ1, Ext.refl, k1, rv⟩
theorem itok_tup (hK : c.K = X.K) {μ : List Addr} {H : Hp} {ds : List D} {a : Addr} {xs : List V} (q : SqT c.K H a xs) (r : Reps c μ H ds xs) : ItOk c μ H (.fix ds) (Itt X.K a) := by
  intro μ1 H1 S1 e1 k1 i
  have q1 := e1.tup _ _ q
  have r1 := Reps.mono e1 _ _ r
  refine ⟨fun h => ?_, fun d h => ?_⟩
  · exact ⟨xs, by rw [← hK]; exact q1, by rw [r1.len]; exact List.getElem?_eq_none_iff.mp (Option.some.inj h)⟩
  · obtain ⟨v, e4, rv⟩ := r1.get (Option.some.inj h)
    refine ⟨⟨xs, v, by rw [← hK]; exact q1, e4⟩, fun x H' y => ?_⟩
    obtain ⟨rfl, fv⟩ := y
    have ex : x = v := Option.some.inj ((fv xs (by rw [← hK]; exact q1)).symm.trans e4)
    subst ex
    exact ⟨μ1, Ext.refl, k1, rv⟩
theorem lck_at {μ : List Addr} {S : Sto} {H : Hp} {n : Nat} {kvs : List (Key × D)} {a : Addr} {o : Obj} {ys : List (Key × V)} (k : StoOk c μ S H) (g : S[n]? = some (.lck kvs)) (ha : μ[n]? = some a) (hf : H a = some (.frz o (.dK ys))) : RepKV c μ H kvs ys := by
  obtain ⟨a', e1, o', ys', q, r⟩ := k.stands _ _ g
  rw [ha] at e1
  cases e1
  rw [hf] at q
  cases q
  exact r
theorem kv_get {κ : Type} [DecidableEq κ] {μ : List Addr} {H : Hp} : ∀ {kvs : List (κ × D)} {ys : List (κ × V)} {i : Nat}, RepKV c μ H kvs ys → (kvs[i]? = none → ys.length ≤ i) ∧ ∀ k d, kvs[i]? = some (k, d) → ∃ v, ys[i]? = some (k, v) ∧ Rep c μ H d v
  | [], ys, i, h => by
    rw [h.inv0]
    exact ⟨fun _ => Nat.zero_le _, fun k d e => by simp at e⟩
  | (k', d') :: kvs, ys, 0, h => by
    obtain ⟨v, ys', rfl, r, h2⟩ := h.inv
    refine ⟨fun e => by simp at e, fun k d e => ?_⟩
    have e' : (k', d') = (k, d) := by simpa using e
    cases e'
    exact ⟨v, rfl, r⟩
  | (k', d') :: kvs, ys, i + 1, h => by
    obtain ⟨v, ys', rfl, r, h2⟩ := h.inv
    obtain ⟨i1, i2⟩ := kv_get (i := i) h2
    refine ⟨fun e => ?_, fun k d e => ?_⟩
    · rw [List.length_cons]
      have := i1 (by simpa using e)
      omega
    · obtain ⟨w, e1, e2⟩ := i2 k d (by simpa using e)
      exact ⟨w, by simpa using e1, e2⟩
theorem q_iseq (hK : c.K = X.K) (h : PE X e (tE c fe)) : PI X tg e (tI c (iSeq fe)) := by
  refine PI.w (PI.or (PI.or (pi_list h) (pi_tup h)) (PI.or (pi_str h) (pi_keys h))) fun σ H R h => ?_
  obtain ⟨μ, env, S, it, S', he, hs, hf, ha⟩ := h
  obtain ⟨d, S1, h1, hf⟩ := th_inv hf
  cases d with
  | tup ds =>
    cases hf
    refine .inl (.inr ⟨μ, env, S, _, _, he, hs, h1, fun μ1 H1 v e1 k1 r1 => ?_⟩)
    obtain ⟨a, xs, rfl, q, r⟩ := r1
    exact ⟨a, rfl, ⟨xs, by rw [← hK]; exact q⟩, ha _ _ _ e1 k1 (itok_tup hK q r)⟩
  | str z =>
    cases hf
    refine .inr (.inl ⟨μ, env, S, _, _, he, hs, h1, fun μ1 H1 v e1 k1 r1 => ?_⟩)
    obtain rfl := (show v = .str z from r1)
    refine ⟨z, rfl, ha _ _ _ e1 k1 ?_⟩
    intro μ2 H2 S2 e2 k2 i
    refine ⟨fun g => ?_, fun d g => ?_⟩
    · have := List.getElem?_eq_none_iff.mp (Option.some.inj g)
      rw [List.length_map, Array.length_toList] at this
      exact this
    · have g' := Option.some.inj g
      rw [List.getElem?_map] at g'
      obtain ⟨k, g1, g2⟩ := Option.map_eq_some_iff.mp g'
      rw [Array.getElem?_toList] at g1
      refine ⟨(Array.getElem?_eq_some_iff.mp g1).1, fun x H' y => ?_⟩
      obtain ⟨rfl, k', g3, rfl⟩ := y
      rw [g1] at g3
      cases g3
      subst g2
      exact ⟨μ2, Ext.refl, k2, rfl⟩
  | ref n =>
    simp only at hf
    split at hf
    · rename_i ds g1
      cases hf
      refine .inl (.inl ⟨μ, env, S, _, _, he, hs, h1, fun μ1 H1 v e1 k1 r1 => ?_⟩)
      obtain ⟨a, ha1, rfl⟩ := r1
      obtain ⟨a', xs, g3, q, r⟩ := getL_sq k1 (show getL S' n = some ds by unfold getL; rw [g1])
      rw [ha1] at g3
      cases g3
      exact ⟨a, rfl, ⟨xs, by rw [← hK]; exact q⟩, ha _ _ _ e1 k1 (itok_list hK ha1)⟩
    · rename_i ds g1
      cases hf
      refine .inl (.inl ⟨μ, env, S, _, _, he, hs, h1, fun μ1 H1 v e1 k1 r1 => ?_⟩)
      obtain ⟨a, ha1, rfl⟩ := r1
      obtain ⟨a', xs, g3, q, r⟩ := getL_sq k1 (show getL S' n = some ds by unfold getL; rw [g1])
      rw [ha1] at g3
      cases g3
      exact ⟨a, rfl, ⟨xs, by rw [← hK]; exact q⟩, ha _ _ _ e1 k1 (itok_list hK ha1)⟩
    · rename_i kvs g1
      cases hf
      refine .inr (.inr ⟨μ, env, S, _, _, he, hs, h1, fun μ1 H1 v e1 k1 r1 => ?_⟩)
      obtain ⟨a, ha1, rfl⟩ := r1
      obtain ⟨a', g3, o, ys, q, r⟩ := k1.stands _ _ g1
      rw [ha1] at g3
      cases g3
      refine ⟨a, o, rfl, .inl ⟨ys, q, ha _ _ _ e1 k1 ?_⟩⟩
      intro μ2 H2 S2 e2 k2 i
      have q2 := e2.frz _ _ _ q
      have ha2 := e2.pre _ _ ha1
      refine ⟨fun g => ?_, fun d g => ?_⟩
      · unfold ItD.keys at g
        simp only at g
        split at g
        · rename_i kvs2 g4
          have r2 := lck_at k2 g4 ha2 q2
          refine ⟨q2, (kv_get (i := i) r2).1 ?_⟩
          have g' := Option.some.inj g
          cases hx : kvs2[i]? with
          | none => rfl
          | some p => rw [hx] at g'; cases g'
        · cases g
      · unfold ItD.keys at g
        simp only at g
        split at g
        · rename_i kvs2 g4
          have r2 := lck_at k2 g4 ha2 q2
          obtain ⟨p, g5, g6⟩ := Option.map_eq_some_iff.mp (Option.some.inj g)
          obtain ⟨v, g7, rv⟩ := (kv_get (i := i) r2).2 p.1 p.2 g5
          refine ⟨⟨q2, (List.getElem?_eq_some_iff.mp g7).1⟩, fun x H' y => ?_⟩
          obtain ⟨rfl, k', v', g8, rfl⟩ := y
          rw [g7] at g8
          cases g8
          subst g6
          exact ⟨μ2, Ext.refl, k2, dKey_rep _⟩
        · cases g
    · cases hf
  | _ => cases hf
theorem rng_ok {μ : List Addr} {H : Hp} (lo : Int) (n : Nat) : ItOk c μ H (.fix (rngD lo n)) (Itr lo n) := by
  intro μ2 H2 S2 e2 k2 i
  refine ⟨fun g => ?_, fun d g => ?_⟩
  · have := List.getElem?_eq_none_iff.mp (Option.some.inj g)
    unfold rngD at this
    rw [List.length_map, List.length_range] at this
    exact this
  · have g' := Option.some.inj g
    unfold rngD at g'
    rw [List.getElem?_map] at g'
    obtain ⟨k, g1, g2⟩ := Option.map_eq_some_iff.mp g'
    have hk := List.getElem?_eq_some_iff.mp g1
    obtain ⟨hk1, hk2⟩ := hk
    rw [List.length_range] at hk1
    rw [List.getElem_range] at hk2
    subst hk2
    refine ⟨hk1, fun x H' y => ?_⟩
    obtain ⟨rfl, rfl⟩ := y
    subst g2
    exact ⟨μ2, Ext.refl, k2, rfl⟩
theorem q_irng1 {a : Expr} {p pos : Pos} (hg : Gl X "range") (hm : X.mg "range" = none) (h : PA X [a] (tA c fr)) (hs : starEach [a] X.env = [(false, eval a X.env)] := by rfl) : PI X tg (.Call (.Name "range" p) [a] [] pos) (tI c (iRng1 fr)) := by
  refine PI.w ((pi_range1 hg hm h hs)) fun σ H R h => ?_
  obtain ⟨μ, env, S, it, S', he, hs, hf, ha⟩ := h
  obtain ⟨ds, S1, h1, hf⟩ := th_inv hf
  refine ⟨μ, env, S, ds, S1, he, hs, h1, fun μ1 H1 vs e1 k1 r1 => ?_⟩
  split at hf
  · rename_i j
    split at hf
    · rename_i hz
      cases hf
      rw [Bool.and_eq_true] at hz
      obtain ⟨z1, z2⟩ := hz
      have z1 := of_decide_eq_true z1
      have z2 := of_decide_eq_true z2
      obtain ⟨v, rfl, rv⟩ := r1.one_inv
      obtain rfl := (show v = .int j from rv)
      exact ⟨j, rfl, by omega, by omega, ha _ _ _ e1 k1 (rng_ok 0 _)⟩
    · cases hf
  · cases hf
theorem q_irng2 {a b : Expr} {p pos : Pos} (hg : Gl X "range") (hm : X.mg "range" = none) (h : PA X [a, b] (tA c fr)) (hs : starEach [a, b] X.env = [(false, eval a X.env), (false, eval b X.env)] := by rfl) (hs2 : starEach [b] X.env = [(false, eval b X.env)] := by rfl) : PI X tg (.Call (.Name "range" p) [a, b] [] pos) (tI c (iRng2 fr)) := by
  refine PI.w ((pi_range2 hg hm h hs hs2)) fun σ H R h => ?_
  obtain ⟨μ, env, S, it, S', he, hs, hf, ha⟩ := h
  obtain ⟨ds, S1, h1, hf⟩ := th_inv hf
  refine ⟨μ, env, S, ds, S1, he, hs, h1, fun μ1 H1 vs e1 k1 r1 => ?_⟩
  split at hf
  · rename_i i j
    split at hf
    · rename_i hz
      cases hf
      rw [Bool.and_eq_true, Bool.and_eq_true, Bool.and_eq_true] at hz
      obtain ⟨⟨⟨z1, z2⟩, z3⟩, z4⟩ := hz
      have z1 := of_decide_eq_true z1
      have z2 := of_decide_eq_true z2
      have z3 := of_decide_eq_true z3
      have z4 := of_decide_eq_true z4
      obtain ⟨v, w, rfl, rv, rw1⟩ := r1.two_inv
      obtain rfl := (show v = .int i from rv)
      obtain rfl := (show w = .int j from rw1)
      exact ⟨i, j, rfl, ⟨by omega, by omega, by omega, by omega⟩, ha _ _ _ e1 k1 (rng_ok i _)⟩
    · cases hf
  · cases hf
theorem itok_items {μ : List Addr} {S : Sto} {H : Hp} {n k : Nat} {a : Addr} {o : Obj} {ys : List (Key × V)} (ha1 : μ[n]? = some a) (q : H a = some (.frz o (.dK ys))) : ItOk c μ H (.items n k) (Iti a o ys) := by
  intro μ2 H2 S2 e2 k2 i
  have q2 := e2.frz _ _ _ q
  have ha2 := e2.pre _ _ ha1
  refine ⟨fun g => ?_, fun d g => ?_⟩
  · unfold ItD.items at g
    simp only at g
    split at g
    · rename_i kvs2 g4
      have r2 := lck_at k2 g4 ha2 q2
      refine ⟨q2, (kv_get (i := i) r2).1 ?_⟩
      have g' := Option.some.inj g
      cases hx : kvs2[i]? with
      | none => rfl
      | some p => rw [hx] at g'; cases g'
    · cases g
  · unfold ItD.items at g
    simp only at g
    split at g
    · rename_i kvs2 g4
      have r2 := lck_at k2 g4 ha2 q2
      obtain ⟨p, g5, g6⟩ := Option.map_eq_some_iff.mp (Option.some.inj g)
      obtain ⟨v, g7, rv⟩ := (kv_get (i := i) r2).2 p.1 p.2 g5
      refine ⟨⟨q2, (List.getElem?_eq_some_iff.mp g7).1⟩, fun x H' y => ?_⟩
      obtain ⟨T, k', v', g8, rfl, hT, rfl⟩ := y
      rw [g7] at g8
      cases g8
      subst g6
      obtain ⟨x1, x2, x3⟩ := tup_new (ds := [dKey p.1, p.2]) (vs := [kV p.1, v]) k2 ⟨_, _, rfl, dKey_rep _, _, _, rfl, rv, rfl⟩ hT
      exact ⟨μ2, x1, x2, x3⟩
    · cases g
theorem itok_vals {μ : List Addr} {S : Sto} {H : Hp} {n k : Nat} {a : Addr} {o : Obj} {ys : List (Key × V)} (ha1 : μ[n]? = some a) (q : H a = some (.frz o (.dK ys))) : ItOk c μ H (.vals n k) (Itd a o ys) := by
  intro μ2 H2 S2 e2 k2 i
  have q2 := e2.frz _ _ _ q
  have ha2 := e2.pre _ _ ha1
  refine ⟨fun g => ?_, fun d g => ?_⟩
  · unfold ItD.vals at g
    simp only at g
    split at g
    · rename_i kvs2 g4
      have r2 := lck_at k2 g4 ha2 q2
      refine ⟨q2, (kv_get (i := i) r2).1 ?_⟩
      have g' := Option.some.inj g
      cases hx : kvs2[i]? with
      | none => rfl
      | some p => rw [hx] at g'; cases g'
    · cases g
  · unfold ItD.vals at g
    simp only at g
    split at g
    · rename_i kvs2 g4
      have r2 := lck_at k2 g4 ha2 q2
      obtain ⟨p, g5, g6⟩ := Option.map_eq_some_iff.mp (Option.some.inj g)
      obtain ⟨v, g7, rv⟩ := (kv_get (i := i) r2).2 p.1 p.2 g5
      refine ⟨⟨q2, (List.getElem?_eq_some_iff.mp g7).1⟩, fun x H' y => ?_⟩
      obtain ⟨rfl, k', g8⟩ := y
      rw [g7] at g8
      cases g8
      subst g6
      exact ⟨μ2, Ext.refl, k2, rv⟩
    · cases g
theorem q_iitems {elts : List Expr} {kk : Nat} {tpos apos cpos : Pos} (h : PI X (.Tuple elts kk tpos) (.Call (.Attribute e "items" apos) [] [] cpos) (L2.iItems (tE c fe))) : PI X (.Tuple elts kk tpos) (.Call (.Attribute e "items" apos) [] [] cpos) (tI c (iItems fe)) := by
  refine PI.w h fun σ H R h => ?_
  obtain ⟨μ, env, S, it, S', he, hs, hf, ha⟩ := h
  obtain ⟨d, S1, h1, hf⟩ := th_inv hf
  refine ⟨μ, env, S, d, S1, he, hs, h1, fun μ1 H1 v e1 k1 r1 => ?_⟩
  cases d with
  | ref n =>
    simp only at hf
    split at hf
    · rename_i kvs g1
      cases hf
      obtain ⟨a, ha1, rfl⟩ := r1
      obtain ⟨a', g3, o, ys, q, r⟩ := k1.stands _ _ g1
      rw [ha1] at g3
      cases g3
      exact ⟨a, o, ys, rfl, q, ha _ _ _ e1 k1 (itok_items (S := S') ha1 q)⟩
    · cases hf
  | _ => cases hf
theorem q_ivals {apos cpos : Pos} (h : PI X tg (.Call (.Attribute e "values" apos) [] [] cpos) (L2.iVals (tE c fe))) : PI X tg (.Call (.Attribute e "values" apos) [] [] cpos) (tI c (iVals fe)) := by
  refine PI.w h fun σ H R h => ?_
  obtain ⟨μ, env, S, it, S', he, hs, hf, ha⟩ := h
  obtain ⟨d, S1, h1, hf⟩ := th_inv hf
  refine ⟨μ, env, S, d, S1, he, hs, h1, fun μ1 H1 v e1 k1 r1 => ?_⟩
  cases d with
  | ref n =>
    simp only at hf
    split at hf
    · rename_i kvs g1
      cases hf
      obtain ⟨a, ha1, rfl⟩ := r1
      obtain ⟨a', g3, o, ys, q, r⟩ := k1.stands _ _ g1
      rw [ha1] at g3
      cases g3
      exact ⟨a, o, ys, rfl, q, ha _ _ _ e1 k1 (itok_vals (S := S') ha1 q)⟩
    · cases hf
  | _ => cases hf
theorem q_ienum (hK : c.K = X.K) {elts : List Expr} {kk : Nat} {tpos p pos : Pos} (h : PI X (.Tuple elts kk tpos) (.Call (.Name "enumerate" p) [e] [] pos) (L2.iEnum X.K (tA c fr))) : PI X (.Tuple elts kk tpos) (.Call (.Name "enumerate" p) [e] [] pos) (tI c (iEnum fr)) := by
  refine PI.w h fun σ H R h => ?_
  obtain ⟨μ, env, S, it, S', he, hs, hf, ha⟩ := h
  obtain ⟨ds, S1, h1, hf⟩ := th_inv hf
  refine ⟨μ, env, S, ds, S1, he, hs, h1, fun μ1 H1 vs e1 k1 r1 => ?_⟩
  split at hf
  · rename_i n
    obtain ⟨us, g1, g2⟩ := Option.map_eq_some_iff.mp hf
    cases g2
    obtain ⟨v, rfl, a, ha1, rfl⟩ := r1.one_inv
    obtain ⟨a', xs, g3, q, r⟩ := getL_sq k1 g1
    rw [ha1] at g3
    cases g3
    refine ⟨a, xs, rfl, by rw [← hK]; exact q, ha _ _ _ e1 k1 ?_⟩
    intro μ2 H2 S2 e2 k2 i
    have ha2 := e2.pre _ _ ha1
    refine ⟨fun g => ?_, fun d g => ?_⟩
    · obtain ⟨ds, g4, g5⟩ := Option.map_eq_some_iff.mp g
      obtain ⟨a', ys, g6, q2, r2⟩ := getL_sq k2 g4
      rw [ha2] at g6
      cases g6
      refine ⟨ys, by rw [← hK]; exact q2, ?_⟩
      rw [r2.len]
      cases hx : ds[i]? with
      | none => exact List.getElem?_eq_none_iff.mp hx
      | some p => rw [hx] at g5; cases g5
    · obtain ⟨ds, g4, g5⟩ := Option.map_eq_some_iff.mp g
      obtain ⟨a', ys, g6, q2, r2⟩ := getL_sq k2 g4
      rw [ha2] at g6
      cases g6
      obtain ⟨d', g7, g8⟩ := Option.map_eq_some_iff.mp g5
      obtain ⟨v, g9, rv⟩ := r2.get g7
      refine ⟨⟨ys, v, by rw [← hK]; exact q2, g9⟩, fun x H' y => ?_⟩
      obtain ⟨T, x', rfl, hT, rfl, fv⟩ := y
      have ex : x' = v := Option.some.inj ((fv ys (by rw [← hK]; exact q2)).symm.trans g9)
      subst ex
      subst g8
      obtain ⟨x1, x2, x3⟩ := tup_new (ds := [.int i, d']) (vs := [.int i, x']) k2 ⟨_, _, rfl, rfl, _, _, rfl, rv, rfl⟩ hT
      exact ⟨μ2, x1, x2, x3⟩
  · cases hf
theorem q_izip (hK : c.K = X.K) {e2 : Expr} {elts : List Expr} {kk : Nat} {tpos p pos : Pos} (h : PI X (.Tuple elts kk tpos) (.Call (.Name "zip" p) [e, e2] [] pos) (RZ.iZipA X.K (tA c fr))) : PI X (.Tuple elts kk tpos) (.Call (.Name "zip" p) [e, e2] [] pos) (tI c (iZip fr)) := by
  refine PI.w h fun σ H R h => ?_
  obtain ⟨μ, env, S, it, S', he, hs, hf, ha⟩ := h
  obtain ⟨ds, S1, h1, hf⟩ := th_inv hf
  refine ⟨μ, env, S, ds, S1, he, hs, h1, fun μ1 H1 vs e1 k1 r1 => ?_⟩
  split at hf
  · rename_i n m
    split at hf
    · rename_i us ws g1 g2
      cases hf
      obtain ⟨v, w, rfl, ⟨a, ha1, rfl⟩, b, hb1, rfl⟩ := r1.two_inv
      obtain ⟨a', xs, g3, q, r⟩ := getL_sq k1 g1
      rw [ha1] at g3
      cases g3
      obtain ⟨b', ys, g4, q', r'⟩ := getL_sq k1 g2
      rw [hb1] at g4
      cases g4
      refine ⟨a, b, xs, ys, rfl, .inl ⟨by rw [← hK]; exact q, by rw [← hK]; exact q', ha _ _ _ e1 k1 ?_⟩⟩
      intro μ2 H2 S2 e2 k2 i
      have ha2 := e2.pre _ _ ha1
      have hb2 := e2.pre _ _ hb1
      refine ⟨fun g => ?_, fun d g => ?_⟩
      · unfold ItD.zip at g
        simp only at g
        split at g
        · rename_i ds es g5 g6
          obtain ⟨a', xs2, g7, q2, r2⟩ := getL_sq k2 g5
          rw [ha2] at g7
          cases g7
          obtain ⟨b', ys2, g8, q3, r3⟩ := getL_sq k2 g6
          rw [hb2] at g8
          cases g8
          refine ⟨xs2, ys2, by rw [← hK]; exact q2, by rw [← hK]; exact q3, ?_⟩
          rw [r2.len, r3.len]
          split at g
          · cases g
          · rename_i nn
            by_cases hx : i < ds.length
            · by_cases hy : i < es.length
              · exact absurd (List.getElem?_eq_getElem hy) (nn _ _ (List.getElem?_eq_getElem hx))
              · exact .inr (by omega)
            · exact .inl (by omega)
        · cases g
      · unfold ItD.zip at g
        simp only at g
        split at g
        · rename_i ds es g5 g6
          obtain ⟨a', xs2, g7, q2, r2⟩ := getL_sq k2 g5
          rw [ha2] at g7
          cases g7
          obtain ⟨b', ys2, g8, q3, r3⟩ := getL_sq k2 g6
          rw [hb2] at g8
          cases g8
          split at g
          · rename_i d1 d2 g9 g10
            cases g
            obtain ⟨v1, g11, rv1⟩ := r2.get g9
            obtain ⟨v2, g12, rv2⟩ := r3.get g10
            refine ⟨⟨xs2, ys2, v1, v2, by rw [← hK]; exact q2, by rw [← hK]; exact q3, g11, g12⟩, fun x H' y => ?_⟩
            obtain ⟨T, x', y', rfl, hT, rfl, fv, fw⟩ := y
            have ex : x' = v1 := Option.some.inj ((fv xs2 (by rw [← hK]; exact q2)).symm.trans g11)
            have ey : y' = v2 := Option.some.inj ((fw ys2 (by rw [← hK]; exact q3)).symm.trans g12)
            subst ex
            subst ey
            obtain ⟨x1, x2, x3⟩ := tup_new (ds := [d1, d2]) (vs := [x', y']) k2 ⟨_, _, rfl, rv1, _, _, rfl, rv2, rfl⟩ hT
            exact ⟨μ2, x1, x2, x3⟩
          · cases g
        · cases g
    · cases hf
  · rename_i us ws
    cases hf
    obtain ⟨v, w, rfl, ⟨a, xs, rfl, q, r⟩, b, ys, rfl, q', r'⟩ := r1.two_inv
    refine ⟨a, b, xs, ys, rfl, .inr ⟨by rw [← hK]; exact q, by rw [← hK]; exact q', ha _ _ _ e1 k1 ?_⟩⟩
    intro μ2 H2 S2 e2 k2 i
    have q2 := e2.tup _ _ q
    have q3 := e2.tup _ _ q'
    have r2 := Reps.mono e2 _ _ r
    have r3 := Reps.mono e2 _ _ r'
    refine ⟨fun g => ?_, fun d g => ?_⟩
    · refine ⟨xs, ys, by rw [← hK]; exact q2, by rw [← hK]; exact q3, ?_⟩
      have := List.getElem?_eq_none_iff.mp (Option.some.inj g)
      rw [List.length_map, List.length_zip] at this
      rw [r2.len, r3.len]
      omega
    · have g' := Option.some.inj g
      rw [List.getElem?_map] at g'
      obtain ⟨pr, g4, g5⟩ := Option.map_eq_some_iff.mp g'
      obtain ⟨g6, g7⟩ := List.getElem?_zip_eq_some.mp g4
      obtain ⟨v1, g11, rv1⟩ := r2.get g6
      obtain ⟨v2, g12, rv2⟩ := r3.get g7
      refine ⟨⟨xs, ys, v1, v2, by rw [← hK]; exact q2, by rw [← hK]; exact q3, g11, g12⟩, fun x H' y => ?_⟩
      obtain ⟨T, x', y', rfl, hT, rfl, fv, fw⟩ := y
      have ex : x' = v1 := Option.some.inj ((fv xs (by rw [← hK]; exact q2)).symm.trans g11)
      have ey : y' = v2 := Option.some.inj ((fw ys (by rw [← hK]; exact q3)).symm.trans g12)
      subst ex
      subst ey
      subst g5
      obtain ⟨x1, x2, x3⟩ := tup_new (ds := [pr.1, pr.2]) (vs := [x', y']) k2 ⟨_, _, rfl, rv1, _, _, rfl, rv2, rfl⟩ hT
      exact ⟨μ2, x1, x2, x3⟩
  · cases hf
end
end FL
/-! FL9: for loops, locks, comprehensions, defs. -/
namespace FL
open PySem PySem.Spec PyProof.Rows L2

/-! ### for -/
def forI (it : ItD) (g : FG) (b : FS) : Nat → Nat → FS
  | 0, _ => fun _ _ => none
  | m + 1, i => fun env S => match it.it S i with
    | some (some d) => th (g d env S) fun env1 S1 => th (b env1 S1) fun o S2 => match o with
      | .nx e => forI it g b m (i + 1) e S2
      | .ct e => forI it g b m (i + 1) e S2
      | .bk e => some (.nx e, S2)
      | .rt d => some (.rt d, S2)
    | some none => some (.nx env, S)
    | none => none
def sFor (fi : FI) (g : FG) (b : FS) : FS := fun env S => th (fi env S) fun it S1 => forI it g b (it.len + 1) 0 env S1
section
variable {c : FC} {X : Cx}
theorem q_for {tg iter : Expr} {body : List Stmt} {fi : FI} {g : FG} {fb : FS} {pos : Pos} (hp : PassesOwn (model X.prog X.w) X.A X.env X.xe) (hc : X.calm = true) (hi : PI X tg iter (tI c fi)) (hg : PG X tg (tG c none g)) (hb : PSs X body (tS c fb))
    (hs : ∀ x, foldedSetIterable iter X.env x = pure x := by intro _; rfl) : PS X (.For tg iter body [] pos) (tS c (sFor fi g fb)) := by
  refine PS.w (ps_for hp hc hi hg hb hs) fun Dn σ H h => ?_
  obtain ⟨μ, env, S, o, S', he, hs, hf0, ha⟩ := h
  obtain ⟨it, S1, h1, hf⟩ := th_inv hf0
  clear hf0
  refine ⟨μ, env, S, it, S1, he, hs, h1, fun μ1 H1 J e1 k1 ok => ?_⟩
  refine ⟨fun i m σ2 H2 => ∃ μ2 env2 S2, Ext c μ1 H1 μ2 H2 ∧ EnvOk c μ2 H2 env2 σ2 ∧ StoOk c μ2 S2 H2 ∧ forI it g fb m i env2 S2 = some (o, S'), ⟨it.len + 1, μ1, env, S1, Ext.refl, he.mono e1, k1, hf⟩, ?_⟩
  rintro i m σ2 H2 ⟨μ2, env2, S2, e2, r2, k2, hw⟩
  have ha2 := (ha.ext e1).ext e2
  cases m with
  | zero => cases hw
  | succ m =>
    unfold forI at hw
    split at hw
    · rename_i d g1
      obtain ⟨go, yl⟩ := (ok μ2 H2 S2 e2 k2 i).2 d g1
      obtain ⟨env3, S3, h3, hw⟩ := th_inv hw
      obtain ⟨o4, S4, h4, hw⟩ := th_inv hw
      refine .inr ⟨go, fun σ' H' => ∃ μ2 env2 S2, Ext c μ1 H1 μ2 H' ∧ EnvOk c μ2 H' env2 σ' ∧ StoOk c μ2 S2 H' ∧ forI it g fb m (i + 1) env2 S2 = some (o, S'), fun σ' H' q => ⟨m, Nat.lt_succ_self m, q⟩, fun x H' y => ?_⟩
      obtain ⟨μ', x1, x2, x3⟩ := yl x H' y
      refine ⟨μ', env2, S2, d, env3, S3, r2.mono x1, x2, x3, h3, fun μ3 H3 σ3 e3 k3 r3 _ => ?_⟩
      refine ⟨μ3, env3, S3, o4, S4, r3, k3, h4, fun μ4 H4 e4 k4 => ?_⟩
      have e24 := (x1.trans e3).trans e4
      cases o4 with
      | nx e => exact fun σ4 r4 => ⟨μ4, e, S4, e2.trans e24, r4, k4, hw⟩
      | ct e => exact fun σ4 r4 => ⟨μ4, e, S4, e2.trans e24, r4, k4, hw⟩
      | bk e =>
        cases hw
        exact fun σ4 r4 => ha2 μ4 H4 e24 k4 σ4 r4
      | rt d =>
        cases hw
        exact fun v r4 => ha2 μ4 H4 e24 k4 v r4
    · rename_i g1
      cases hw
      exact .inl ⟨(ok μ2 H2 _ e2 k2 i).1 g1, ha2.nx k2 r2⟩
    · cases hw

/-! ### a dict is locked while it is walked -/
def lkS (fd : FE) (s : FS) : FS := fun env S => match fd env S with
  | some (.ref n, _) => match S[n]? with
    | some (.dic kvs) => th (s env (S.set n (.lck kvs))) fun o S2 => match S2[n]? with
      | some (.lck kvs') => some (o, S2.set n (.dic kvs'))
      | _ => none
    | _ => none
  | _ => none
def lkE (fd : FE) (e : FE) : FE := fun env S => match fd env S with
  | some (.ref n, _) => match S[n]? with
    | some (.dic kvs) => th (e env (S.set n (.lck kvs))) fun d S2 => match S2[n]? with
      | some (.lck kvs') => some (d, S2.set n (.dic kvs'))
      | _ => none
    | _ => none
  | _ => none
theorem lock_on {μ : List Addr} {S : Sto} {H : Hp} {n : Nat} {a : Addr} {kvs : List (Key × D)} {ys : List (Key × V)} {od : Obj} (hs : StoOk c μ S H) (e : S[n]? = some (.dic kvs)) (ha : μ[n]? = some a) (q : H a = some (.dK ys)) (r : RepKV c μ H kvs ys) :
    Ext c μ H μ (upd H a (.frz od (.dK ys))) ∧ StoOk c μ (S.set n (.lck kvs)) (upd H a (.frz od (.dK ys))) := by
  have x : Ext c μ H μ (upd H a (.frz od (.dK ys))) := Ext.upd (.inr ⟨_, q, trivial⟩)
  exact ⟨x, hs.write e rfl ha x ⟨od, ys, upd_same, r.mono x⟩⟩
theorem lock_off {μ : List Addr} {S : Sto} {H0 H : Hp} {n : Nat} {a : Addr} {kvs : List (Key × D)} {ys : List (Key × V)} {od : Obj} {μ0 : List Addr} (q0 : H0 a = some (.dK ys)) (e0 : Ext c μ0 (upd H0 a (.frz od (.dK ys))) μ H) (hs : StoOk c μ S H) (e : S[n]? = some (.lck kvs)) (ha : μ[n]? = some a) (q : H a = some (.frz od (.dK ys))) :
    Ext c μ0 H0 μ (upd H a (.dK ys)) ∧ StoOk c μ (S.set n (.dic kvs)) (upd H a (.dK ys)) ∧ (∀ d v, Rep c μ H d v → Rep c μ (upd H a (.dK ys)) d v) := by
  have xt : ∀ (b : Addr) (xs : List V), SqT c.K H b xs → SqT c.K (upd H a (.dK ys)) b xs := fun b xs h => by
    rcases h with h | h
    · have ne : ∀ w, H b = some w → w ≠ .frz od (.dK ys) → b ≠ a := fun w e nw z => by
        rw [z, q] at e
        cases e
        exact nw rfl
      rcases h with h | ⟨o, h⟩
      · exact .inl (.inl (by rw [upd_ne (ne _ h (fun z => nomatch z))]; exact h))
      · exact .inl (.inr ⟨o, by rw [upd_ne (ne _ h (fun z => by cases z))]; exact h⟩)
    · exact .inr h
  have rp : ∀ (d : D) (v : V), Rep c μ H d v → Rep c μ (upd H a (.dK ys)) d v := by
    intro d v h
    exact (lock_rep xt d v h)
  refine ⟨⟨e0.pre, fun b xs h => xt b xs (e0.tup b xs (sqT_upd (.inr ⟨_, q0, trivial⟩) h)), fun b o u h => ?_⟩, ?_, rp⟩
  · have nb : b ≠ a := fun z => by
      rw [z, q0] at h
      cases h
    rw [upd_ne nb]
    exact e0.frz b o u (by rw [upd_ne nb]; exact h)
  · refine ⟨by rw [List.length_set]; exact hs.len, fun m o' g => ?_, fun m k b o1 o2 g1 g2 w1 w2 a1 a2 => ?_⟩
    · by_cases hk : n = m
      · subst hk
        rw [List.getElem?_set_self (List.getElem?_eq_some_iff.mp e).1] at g
        cases g
        obtain ⟨a', g1, o, ys', q', r⟩ := hs.stands _ _ e
        rw [ha] at g1
        cases g1
        rw [q] at q'
        cases q'
        exact ⟨a, ha, ys, upd_same, r.1, lock_reps xt _ _ r.2⟩
      · rw [List.getElem?_set_ne hk] at g
        obtain ⟨b, g1, r⟩ := hs.stands m o' g
        refine ⟨b, g1, ?_⟩
        cases hw : own o' with
        | true =>
          have nb : b ≠ a := fun z => by
            subst z
            exact hk (hs.inj n m b _ o' e g rfl hw ha g1)
          cases o' with
          | lst ds =>
            obtain ⟨xs, h, r⟩ := r
            exact ⟨xs, by rw [upd_ne nb]; exact h, lock_reps xt _ _ r⟩
          | dic ds =>
            obtain ⟨xs, h, r⟩ := r
            exact ⟨xs, by rw [upd_ne nb]; exact h, r.1, lock_reps xt _ _ r.2⟩
          | lck ds =>
            obtain ⟨o, xs, h, r⟩ := r
            exact ⟨o, xs, by rw [upd_ne nb]; exact h, r.1, lock_reps xt _ _ r.2⟩
          | ins k fs =>
            obtain ⟨dx, xs, h, r⟩ := r
            exact ⟨dx, xs, by rw [upd_ne nb]; exact h, r.1, lock_reps xt _ _ r.2⟩
          | ro _ => cases hw
          | gone => cases hw
        | false =>
          cases o' with
          | ro ds =>
            obtain ⟨xs, h, r⟩ := r
            refine ⟨xs, h.imp (fun ⟨o, h⟩ => ⟨o, ?_⟩) id, lock_reps xt _ _ r⟩
            rw [upd_ne (fun z => by rw [z, q] at h; cases h)]
            exact h
          | gone => trivial
          | lst _ => cases hw
          | dic _ => cases hw
          | lck _ => cases hw
          | ins _ _ => cases hw
    · have back : ∀ (m : Nat) (o' : O), (S.set n (.dic kvs))[m]? = some o' → own o' = true → ∃ o'', S[m]? = some o'' ∧ own o'' = true := fun m o' g w => by
        by_cases hk : n = m
        · subst hk
          exact ⟨_, e, rfl⟩
        · rw [List.getElem?_set_ne hk] at g
          exact ⟨o', g, w⟩
      obtain ⟨p1, q1, v1⟩ := back m o1 g1 w1
      obtain ⟨p2, q2, v2⟩ := back k o2 g2 w2
      exact hs.inj m k b p1 p2 q1 q2 v1 v2 a1 a2
where
  lock_rep {μ : List Addr} {H H' : Hp} (xt : ∀ (b : Addr) (xs : List V), SqT c.K H b xs → SqT c.K H' b xs) (d : D) (v : V) (h : Rep c μ H d v) : Rep c μ H' d v := by
    have key : ∀ n : Nat, (∀ (d : D) (v : V), sizeOf d < n → Rep c μ H d v → Rep c μ H' d v) ∧ ∀ (ds : List D) (xs : List V), sizeOf ds < n → Reps c μ H ds xs → Reps c μ H' ds xs := by
      intro n
      induction n with
      | zero => exact ⟨fun _ _ z => absurd z (Nat.not_lt_zero _), fun _ _ z => absurd z (Nat.not_lt_zero _)⟩
      | succ n ih =>
        refine ⟨fun d v z h => ?_, fun ds xs z h => ?_⟩
        · cases d with
          | tup ds =>
            obtain ⟨a, xs, rfl, q, r⟩ := h
            exact ⟨a, xs, rfl, xt _ _ q, ih.2 ds xs (by simp at z; omega) r⟩
          | non => exact h
          | bl _ => exact h
          | int _ => exact h
          | str _ => exact h
          | ref _ => exact h
        · cases ds with
          | nil => exact h
          | cons d ds =>
            obtain ⟨v, vs, rfl, r1, r2⟩ := h
            exact ⟨v, vs, rfl, ih.1 d v (by simp at z; omega) r1, ih.2 ds vs (by simp at z; omega) r2⟩
    exact (key (sizeOf d + 1)).1 d v (Nat.lt_succ_self _) h
  lock_reps {μ : List Addr} {H H' : Hp} (xt : ∀ (b : Addr) (xs : List V), SqT c.K H b xs → SqT c.K H' b xs) (ds : List D) (xs : List V) (h : Reps c μ H ds xs) : Reps c μ H' ds xs := by
    induction ds generalizing xs with
    | nil => exact h
    | cons d ds ih =>
      obtain ⟨v, vs, rfl, r1, r2⟩ := h
      exact ⟨v, vs, rfl, lock_rep xt d v r1, ih vs r2⟩
theorem env_off {μ : List Addr} {H H' : Hp} {env : Env} {σ : L2.St} (rp : ∀ d v, Rep c μ H d v → Rep c μ H' d v) (h : EnvOk c μ H env σ) : EnvOk c μ H' env σ := ⟨h.1, fun i d q => let ⟨v, h1, h2⟩ := h.2 i d q; ⟨v, h1, rp d v h2⟩⟩
theorem q_lkS {st : Stmt} {i : Nat} {f : FS} (h : PS X st (tS c f)) : PS X st (tS c (lkS (eVar i) f)) := by
  refine PS.w (ps_lock h) fun Dn σ H h => ?_
  obtain ⟨μ, env, S, o, S', he, hs, hf, ha⟩ := h
  unfold lkS at hf
  split at hf
  · rename_i n S0 g0
    split at hf
    · rename_i kvs g1
      obtain ⟨o2, S2, h2, hf⟩ := th_inv hf
      obtain ⟨a, ha1, ys, q, r⟩ := hs.stands _ _ g1
      refine ⟨a, .dK ys, q, trivial, fun od => ?_⟩
      obtain ⟨x1, x2⟩ := lock_on (od := od) hs g1 ha1 q r
      refine ⟨μ, env, _, o2, S2, he.mono x1, x2, h2, fun μ2 H2 e2 k2 => ?_⟩
      have q2 := e2.frz _ _ _ (show (upd H a (.frz od (.dK ys))) a = some (.frz od (.dK ys)) from upd_same)
      split at hf
      · rename_i kvs' g2
        cases hf
        have ha2 := e2.pre _ _ ha1
        obtain ⟨y1, y2, y3⟩ := lock_off q e2 k2 g2 ha2 q2
        cases o with
        | nx e => exact fun σ2 r2 => ⟨q2, ha μ2 _ y1 y2 σ2 (env_off y3 r2)⟩
        | bk e => exact fun σ2 r2 => ⟨q2, ha μ2 _ y1 y2 σ2 (env_off y3 r2)⟩
        | ct e => exact fun σ2 r2 => ⟨q2, ha μ2 _ y1 y2 σ2 (env_off y3 r2)⟩
        | rt d => exact fun v r2 => ⟨q2, ha μ2 _ y1 y2 v (y3 d v r2)⟩
      · cases hf
    · cases hf
  · cases hf
theorem q_lkE {e : Expr} {fd f : FE} (h : PE X e (tE c f)) : PE X e (tE c (lkE fd f)) := by
  refine PE.w (pe_lock h) fun σ H Q h => ?_
  obtain ⟨μ, env, S, d, S', he, hs, hf, ha⟩ := h
  unfold lkE at hf
  split at hf
  · rename_i n S0 g0
    split at hf
    · rename_i kvs g1
      obtain ⟨o2, S2, h2, hf⟩ := th_inv hf
      obtain ⟨a, ha1, ys, q, r⟩ := hs.stands _ _ g1
      refine ⟨a, .dK ys, q, trivial, fun od => ?_⟩
      obtain ⟨x1, x2⟩ := lock_on (od := od) hs g1 ha1 q r
      refine ⟨μ, env, _, o2, S2, he.mono x1, x2, h2, fun μ2 H2 v e2 k2 r2 => ?_⟩
      have q2 := e2.frz _ _ _ (show (upd H a (.frz od (.dK ys))) a = some (.frz od (.dK ys)) from upd_same)
      split at hf
      · rename_i kvs' g2
        cases hf
        have ha2 := e2.pre _ _ ha1
        obtain ⟨y1, y2, y3⟩ := lock_off q e2 k2 g2 ha2 q2
        exact ⟨q2, ha μ2 _ _ y1 y2 (y3 d v r2)⟩
      · cases hf
    · cases hf
  · cases hf
end

/-! ### comprehensions -/
def wipeE (env : Env) : List Nat → Env
  | [] => env
  | v :: vs => (wipeE env vs).set v none
theorem EnvOk.none {c : FC} {μ : List Addr} {H : Hp} {env : Env} {σ : L2.St} (i : Nat) (h : EnvOk c μ H env σ) : EnvOk c μ H (env.set i Option.none) (σ.set i Option.none) := by
  refine ⟨by rw [List.length_set, List.length_set, h.1], fun j e q => ?_⟩
  by_cases hj : i = j
  · subst hj
    by_cases hl : i < env.length
    · rw [List.getElem?_set_self hl] at q
      cases q
    · rw [List.getElem?_eq_none (by rw [List.length_set]; omega)] at q
      cases q
  · rw [List.getElem?_set_ne hj] at q ⊢
    exact h.2 j e q
theorem EnvOk.wipe {c : FC} {μ : List Addr} {H : Hp} {env : Env} {σ : L2.St} (h : EnvOk c μ H env σ) : ∀ vs : List Nat, EnvOk c μ H (wipeE env vs) (L2.wipe σ vs)
  | [] => h
  | v :: vs => (EnvOk.wipe h vs).none v
/-- one clause; n: the place of the new list -/
def lcI (it : ItD) (g : FG) (tt : FT) (te : FE) (n : Nat) (env : Env) : Nat → Nat → Sto → Option Sto
  | 0, _ => fun _ => none
  | m + 1, i => fun S => match it.it S i with
    | some (some d) => th (g d env S) fun env1 S1 => th (tt env1 S1) fun k S2 => if k = true then th (te env1 S2) fun y S3 => match S3[n]? with
        | some (.lst acc) => if acc.length < cap then lcI it g tt te n env m (i + 1) (S3.set n (.lst (acc ++ [y]))) else none
        | _ => none
      else lcI it g tt te n env m (i + 1) S2
    | some none => some S
    | none => none
def eLc (fi : FI) (g : FG) (tt : FT) (te : FE) (vs : List Nat) : FE := fun env S => th (fi env S) fun it S1 => (lcI it g tt te S1.length (wipeE env vs) (it.len + 1) 0 (S1 ++ [.lst []])).map fun S2 => (.ref S1.length, S2)
def tYs : FT := fun _ S => some (true, S)
def tTs (c : FC) (ft : FT) : TT := tT c ft
section
variable {c : FC} {X : Cx}
theorem PTs.w {ifs : List Expr} {t t' : TT} (h : PTs X ifs t) (w : ∀ σ H Q, t' σ H Q → t σ H Q) : PTs X ifs t' := ⟨fun pins s σ H Q I q => h.run pins s σ H Q I (w σ H Q q)⟩
theorem q_tsn : PTs X [] (tT c tYs) := by
  refine PTs.w pts_nil fun σ H Q h => ?_
  obtain ⟨μ, env, S, b, S', he, hs, hf, ha⟩ := h
  cases hf
  exact ha μ H Ext.refl hs
theorem q_ts1 {e : Expr} {ft : FT} (h : PT X e (tT c ft)) : PTs X [e] (tT c ft) := pts_one h
theorem q_lc {elt tg iter : Expr} {ifs : List Expr} {scope : Scope} (own : List (Str × Nat)) {pos : Pos} {fi : FI} {g : FG} {tt : FT} {te : FE} (hc : X.calm = true) (hN : X.N.Nodup) (hi : PI X tg iter (tI c fi)) (ok : BlkOk X.N X.env.scope scope own)
    (hg : ∀ (s : Shared) (H : Hp) (C : Addr) (cl : List (Str × Addr)) (fp : List Addr), PG (X.blk s H scope (compEnvC scope cl C X.env) fp) tg (tG c (some (own.map (·.2))) g)) (ht : ∀ (s : Shared) (H : Hp) (C : Addr) (cl : List (Str × Addr)) (fp : List Addr), PTs (X.blk s H scope (compEnvC scope cl C X.env) fp) ifs (tT c tt))
    (he : ∀ (s : Shared) (H : Hp) (C : Addr) (cl : List (Str × Addr)) (fp : List Addr), PE (X.blk s H scope (compEnvC scope cl C X.env) fp) elt (tE c te)) (hs : ∀ x, foldedSetIterable iter X.env x = pure x := by intro _; rfl) :
    PE X (.ListComp elt [⟨tg, iter, ifs, 0⟩] scope pos) (tE c (eLc fi g tt te (own.map (·.2)))) := by
  refine PE.w (pe_lc hc hN hi ok hg ht he hs) fun σ H Q h => lc_red (own.map (·.2)) h
where
  lc_red {fi : FI} {g : FG} {tt : FT} {te : FE} (vs : List Nat) {σ : L2.St} {H : Hp} {Q : VK} (h : tE c (eLc fi g tt te vs) σ H Q) : tLc (tI c fi) (tG c (some vs) g) (tT c tt) (tE c te) vs σ H Q := by
    obtain ⟨μ, env, S, d, S', he, hs, hf0, ha⟩ := h
    obtain ⟨it, S1, h1, hf⟩ := th_inv hf0
    clear hf0
    obtain ⟨Sf, hf, ef⟩ := Option.map_eq_some_iff.mp hf
    cases ef
    refine ⟨μ, env, S, it, S1, he, hs, h1, fun μ1 H1 J e1 k1 ok => ?_⟩
    intro p hp
    obtain ⟨y1, y2, y3⟩ := lst_new (ds := []) (vs := []) k1 rfl hp
    have hn : (μ1 ++ [p])[S1.length]? = some p := by
      rw [← k1.len, List.getElem?_append_right (Nat.le_refl _), Nat.sub_self]
      rfl
    refine ⟨fun i m H2 => ∃ μ2 S2, Ext c (μ1 ++ [p]) (upd H1 p (.lst [])) μ2 H2 ∧ StoOk c μ2 S2 H2 ∧ lcI it g tt te S1.length (wipeE env vs) m i S2 = some S', ⟨it.len + 1, μ1 ++ [p], _, Ext.refl, y2, hf⟩, ?_⟩
    rintro i m H2 ⟨μ2, S2, e2, k2, hw⟩
    have en : EnvOk c μ2 H2 (wipeE env vs) (wipe σ vs) := (((he.mono e1).mono y1).mono e2).wipe vs
    have hn2 := e2.pre _ _ hn
    cases m with
    | zero => cases hw
    | succ m =>
      unfold lcI at hw
      split at hw
      · rename_i d g1
        obtain ⟨go, yl⟩ := (ok μ2 H2 S2 (y1.trans e2) k2 i).2 d g1
        obtain ⟨env3, S3, h3, hw⟩ := th_inv hw
        obtain ⟨k, S4, h4, hw⟩ := th_inv hw
        refine .inr ⟨go, fun H' => ∃ μ2 S2, Ext c (μ1 ++ [p]) (upd H1 p (.lst [])) μ2 H' ∧ StoOk c μ2 S2 H' ∧ lcI it g tt te S1.length (wipeE env vs) m (i + 1) S2 = some S', fun H' q => ⟨m, Nat.lt_succ_self m, q⟩, fun x H' y => ?_⟩
        obtain ⟨μ', x1, x2, x3⟩ := yl x H' y
        refine ⟨μ', _, S2, d, env3, S3, en.mono x1, x2, x3, h3, fun μ3 H3 σ3 e3 k3 r3 w3 => ⟨(w3 vs rfl).trans (wipe_wipe σ vs), ?_⟩⟩
        refine ⟨μ3, env3, S3, k, S4, r3, k3, h4, fun μ4 H4 e4 k4 => ?_⟩
        have e24 := e2.trans ((x1.trans e3).trans e4)
        cases k with
        | false =>
          rw [if_neg Bool.false_ne_true] at hw
          refine iteF ?_
          exact ⟨μ4, S4, e24, k4, hw⟩
        | true =>
          rw [if_pos rfl] at hw
          refine iteT ?_
          obtain ⟨y, S5, h5, hw⟩ := th_inv hw
          refine ⟨μ4, env3, S4, y, S5, r3.mono e4, k4, h5, fun μ5 H5 v e5 k5 r5 => ?_⟩
          split at hw
          · rename_i acc g6
            split at hw
            · rename_i hz
              have hn5 := (e24.trans e5).pre _ _ hn
              obtain ⟨a', g7, ys, q7, r7⟩ := k5.stands _ _ g6
              rw [hn5] at g7
              cases g7
              obtain ⟨z1, z2⟩ := lst_set k5 g6 hn5 q7 (r7.app (Reps.one r5))
              exact ⟨ys, q7, by rw [r7.len]; exact cap_lt hz, μ5, _, (e24.trans e5).trans z1, z2, hw⟩
            · cases hw
          · cases hw
      · rename_i g1
        cases hw
        exact .inl ⟨(ok μ2 H2 S' (y1.trans e2) k2 i).1 g1, ha μ2 H2 _ ((e1.trans y1).trans e2) k2 ⟨p, hn2, rfl⟩⟩
      · cases hw
  wipe_wipe (σ : L2.St) (vs : List Nat) : wipe (wipe σ vs) vs = wipe σ vs := by
    refine List.ext_getElem? fun j => ?_
    have key : ∀ (ws : List Nat) (τ : L2.St), (wipe τ ws)[j]? = if j ∈ ws then (τ[j]?).map (fun _ => Option.none) else τ[j]? := by
      intro ws
      induction ws with
      | nil => intro τ; simp [wipe]
      | cons w ws ih =>
        intro τ
        unfold wipe
        by_cases e : w = j
        · subst e
          rw [if_pos List.mem_cons_self]
          by_cases hl : w < (wipe τ ws).length
          · rw [List.getElem?_set_self hl]
            rw [wipe_length] at hl
            rw [List.getElem?_eq_getElem hl]
            rfl
          · rw [List.getElem?_eq_none (by rw [List.length_set]; omega)]
            rw [wipe_length] at hl
            rw [List.getElem?_eq_none (by omega)]
            rfl
        · rw [List.getElem?_set_ne e, ih]
          by_cases hm : j ∈ ws
          · rw [if_pos hm, if_pos (List.mem_cons_of_mem _ hm)]
          · rw [if_neg hm, if_neg (fun z => (List.mem_cons.mp z).elim (fun q => e q.symm) hm)]
    rw [key vs (wipe σ vs), key vs σ]
    by_cases hm : j ∈ vs
    · rw [if_pos hm, if_pos hm, Option.map_map]
      rfl
    · rw [if_neg hm, if_neg hm]
end
end FL
/-! FL10: comprehensions of two clauses, of dicts; x = [..]; defs. -/
namespace FL
open PySem PySem.Spec PyProof.Rows L2

/-! ### two clauses -/
/-- the inner loop -/
def lcJ (it : ItD) (g : FG) (tt : FT) (te : FE) (n : Nat) (env : Env) : Nat → Nat → Sto → Option Sto := lcI it g tt te n env
def lc2I (it : ItD) (g : FG) (tt : FT) (fi1 : FI) (g1 : FG) (tt1 : FT) (te : FE) (vs1 : List Nat) (n : Nat) (env : Env) : Nat → Nat → Sto → Option Sto
  | 0, _ => fun _ => none
  | m + 1, i => fun S => match it.it S i with
    | some (some d) => th (g d env S) fun env1 S1 => th (tt env1 S1) fun k S2 => if k = true then th (fi1 env1 S2) fun it1 S3 => match lcI it1 g1 tt1 te n (wipeE env1 vs1) (it1.len + 1) 0 S3 with
        | some S4 => lc2I it g tt fi1 g1 tt1 te vs1 n env m (i + 1) S4
        | none => none
      else lc2I it g tt fi1 g1 tt1 te vs1 n env m (i + 1) S2
    | some none => some S
    | none => none
def eLc2 (fi : FI) (g : FG) (tt : FT) (fi1 : FI) (g1 : FG) (tt1 : FT) (te : FE) (vs vs1 : List Nat) : FE := fun env S => th (fi env S) fun it S1 => (lc2I it g tt fi1 g1 tt1 te vs1 S1.length (wipeE env vs) (it.len + 1) 0 (S1 ++ [.lst []])).map fun S2 => (.ref S1.length, S2)
section
variable {c : FC} {X : Cx}
theorem lc2_red {fi : FI} {g : FG} {tt : FT} {fi1 : FI} {g1 : FG} {tt1 : FT} {te : FE} (vs vs1 : List Nat) {σ : L2.St} {H : Hp} {Q : VK} (h : tE c (eLc2 fi g tt fi1 g1 tt1 te vs vs1) σ H Q) :
    tLc2 (tI c fi) (tG c (some vs) g) (tT c tt) (tI c fi1) (tG c (some vs1) g1) (tT c tt1) (tE c te) vs vs1 σ H Q := by
  obtain ⟨μ, env, S, d, S', he, hs, hf0, ha⟩ := h
  obtain ⟨it, S1, h1, hf⟩ := th_inv hf0
  clear hf0
  obtain ⟨Sf, hf, ef⟩ := Option.map_eq_some_iff.mp hf
  cases ef
  refine ⟨μ, env, S, it, S1, he, hs, h1, fun μ1 H1 J e1 k1 ok => ?_⟩
  intro p hp
  obtain ⟨y1, y2, y3⟩ := lst_new (ds := []) (vs := []) k1 rfl hp
  have hn : (μ1 ++ [p])[S1.length]? = some p := by
    rw [← k1.len, List.getElem?_append_right (Nat.le_refl _), Nat.sub_self]
    rfl
  refine ⟨fun i m H2 => ∃ μ2 S2, Ext c (μ1 ++ [p]) (upd H1 p (.lst [])) μ2 H2 ∧ StoOk c μ2 S2 H2 ∧ lc2I it g tt fi1 g1 tt1 te vs1 S1.length (wipeE env vs) m i S2 = some S', ⟨it.len + 1, μ1 ++ [p], _, Ext.refl, y2, hf⟩, ?_⟩
  rintro i m H2 ⟨μ2, S2, e2, k2, hw⟩
  have en : EnvOk c μ2 H2 (wipeE env vs) (wipe σ vs) := (((he.mono e1).mono y1).mono e2).wipe vs
  have hn2 := e2.pre _ _ hn
  cases m with
  | zero => cases hw
  | succ m =>
    unfold lc2I at hw
    split at hw
    · rename_i d g0
      obtain ⟨go, yl⟩ := (ok μ2 H2 S2 (y1.trans e2) k2 i).2 d g0
      obtain ⟨env3, S3, h3, hw⟩ := th_inv hw
      obtain ⟨k, S4, h4, hw⟩ := th_inv hw
      refine .inr ⟨go, fun H' => ∃ μ2 S2, Ext c (μ1 ++ [p]) (upd H1 p (.lst [])) μ2 H' ∧ StoOk c μ2 S2 H' ∧ lc2I it g tt fi1 g1 tt1 te vs1 S1.length (wipeE env vs) m (i + 1) S2 = some S', fun H' q => ⟨m, Nat.lt_succ_self m, q⟩, fun x H' y => ?_⟩
      obtain ⟨μ', x1, x2, x3⟩ := yl x H' y
      refine ⟨μ', _, S2, d, env3, S3, en.mono x1, x2, x3, h3, fun μ3 H3 σ3 e3 k3 r3 w3 => ⟨(w3 vs rfl).trans (q_lc.wipe_wipe σ vs), ?_⟩⟩
      refine ⟨μ3, env3, S3, k, S4, r3, k3, h4, fun μ4 H4 e4 k4 => ?_⟩
      have e24 := e2.trans ((x1.trans e3).trans e4)
      cases k with
      | false =>
        rw [if_neg Bool.false_ne_true] at hw
        refine iteF ?_
        exact ⟨μ4, S4, e24, k4, hw⟩
      | true =>
        rw [if_pos rfl] at hw
        refine iteT ?_
        obtain ⟨it1, S5, h5, hw⟩ := th_inv hw
        refine ⟨μ4, env3, S4, it1, S5, r3.mono e4, k4, h5, fun μ5 H5 J1 e5 k5 ok1 => ?_⟩
        split at hw
        · rename_i S6 g6
          refine ⟨fun j m1 H7 => ∃ μ7 S7, Ext c μ5 H5 μ7 H7 ∧ StoOk c μ7 S7 H7 ∧ lcI it1 g1 tt1 te S1.length (wipeE env3 vs1) m1 j S7 = some S6, ⟨it1.len + 1, μ5, S5, Ext.refl, k5, g6⟩, ?_⟩
          rintro j m1 H7 ⟨μ7, S7, e7, k7, hw7⟩
          have en7 : EnvOk c μ7 H7 (wipeE env3 vs1) (wipe σ3 vs1) := (((r3.mono e4).mono e5).mono e7).wipe vs1
          have e27 := (e24.trans e5).trans e7
          cases m1 with
          | zero => cases hw7
          | succ m1 =>
            unfold lcI at hw7
            split at hw7
            · rename_i d8 g8
              obtain ⟨go8, yl8⟩ := (ok1 μ7 H7 S7 e7 k7 j).2 d8 g8
              obtain ⟨env9, S9, h9, hw7⟩ := th_inv hw7
              obtain ⟨kk, S10, h10, hw7⟩ := th_inv hw7
              refine .inr ⟨go8, fun H' => ∃ μ7 S7, Ext c μ5 H5 μ7 H' ∧ StoOk c μ7 S7 H' ∧ lcI it1 g1 tt1 te S1.length (wipeE env3 vs1) m1 (j + 1) S7 = some S6, fun H' q => ⟨m1, Nat.lt_succ_self m1, q⟩, fun x8 H8 y8 => ?_⟩
              obtain ⟨μ8, z1, z2, z3⟩ := yl8 x8 H8 y8
              refine ⟨μ8, _, S7, d8, env9, S9, en7.mono z1, z2, z3, h9, fun μ9 H9 σ9 e9 k9 r9 w9 => ⟨(w9 vs1 rfl).trans (q_lc.wipe_wipe σ3 vs1), ?_⟩⟩
              refine ⟨μ9, env9, S9, kk, S10, r9, k9, h10, fun μ10 H10 e10 k10 => ?_⟩
              have e710 := (z1.trans e9).trans e10
              cases kk with
              | false =>
                rw [if_neg Bool.false_ne_true] at hw7
                refine iteF ?_
                exact ⟨μ10, S10, e7.trans e710, k10, hw7⟩
              | true =>
                rw [if_pos rfl] at hw7
                refine iteT ?_
                obtain ⟨y, S11, h11, hw7⟩ := th_inv hw7
                refine ⟨μ10, env9, S10, y, S11, r9.mono e10, k10, h11, fun μ11 H11 v e11 k11 r11 => ?_⟩
                split at hw7
                · rename_i acc g12
                  split at hw7
                  · rename_i hz
                    have hn11 := ((e27.trans e710).trans e11).pre _ _ hn
                    obtain ⟨a', g13, ys, q13, r13⟩ := k11.stands _ _ g12
                    rw [hn11] at g13
                    cases g13
                    obtain ⟨t1, t2⟩ := lst_set k11 g12 hn11 q13 (r13.app (Reps.one r11))
                    exact ⟨ys, q13, by rw [r13.len]; exact cap_lt hz, μ11, _, ((e7.trans e710).trans e11).trans t1, t2, hw7⟩
                  · cases hw7
                · cases hw7
            · rename_i g8
              cases hw7
              exact .inl ⟨(ok1 μ7 H7 _ e7 k7 j).1 g8, μ7, _, e27, k7, hw⟩
            · cases hw7
        · cases hw
    · rename_i g0
      cases hw
      exact .inl ⟨(ok μ2 H2 S' (y1.trans e2) k2 i).1 g0, ha μ2 H2 _ ((e1.trans y1).trans e2) k2 ⟨p, hn2, rfl⟩⟩
    · cases hw
theorem q_lc2 {e : Expr} {fi : FI} {g : FG} {tt : FT} {fi1 : FI} {g1 : FG} {tt1 : FT} {te : FE} {vs vs1 : List Nat} (h : PE X e (tLc2 (tI c fi) (tG c (some vs) g) (tT c tt) (tI c fi1) (tG c (some vs1) g1) (tT c tt1) (tE c te) vs vs1)) : PE X e (tE c (eLc2 fi g tt fi1 g1 tt1 te vs vs1)) := PE.w h fun _ _ _ => lc2_red vs vs1
/-- x = [..] on one line -/
theorem q_setLc {st : Stmt} {i : Nat} {fi : FI} {g : FG} {tt : FT} {te : FE} {vs : List Nat} (h : PS X st (tAsg (tLc (tI c fi) (tG c (some vs) g) (tT c tt) (tE c te) vs) (gName i))) : PS X st (tS c (sAsg (eLc fi g tt te vs) (gNm i))) := by
  refine PS.w h fun Dn σ H h => ?_
  refine q_lc.lc_red vs (Q := fun x H1 => gName i x σ H1 Dn.nx) ?_
  obtain ⟨μ, env, S, o, S', he, hs, hf, ha⟩ := h
  obtain ⟨d, S1, h1, hf⟩ := th_inv hf
  obtain ⟨env1, S2, h2, hf⟩ := th_inv hf
  cases h2
  cases hf
  exact ⟨μ, env, S, d, _, he, hs, h1, fun μ1 H1 v e1 k1 r1 => ha μ1 H1 e1 k1 _ ((he.mono e1).set i r1)⟩
theorem q_setLc2 {st : Stmt} {i : Nat} {fi : FI} {g : FG} {tt : FT} {fi1 : FI} {g1 : FG} {tt1 : FT} {te : FE} {vs vs1 : List Nat} (h : PS X st (tAsg (tLc2 (tI c fi) (tG c (some vs) g) (tT c tt) (tI c fi1) (tG c (some vs1) g1) (tT c tt1) (tE c te) vs vs1) (gName i))) : PS X st (tS c (sAsg (eLc2 fi g tt fi1 g1 tt1 te vs vs1) (gNm i))) := by
  refine PS.w h fun Dn σ H h => ?_
  refine lc2_red vs vs1 (Q := fun x H1 => gName i x σ H1 Dn.nx) ?_
  obtain ⟨μ, env, S, o, S', he, hs, hf, ha⟩ := h
  obtain ⟨d, S1, h1, hf⟩ := th_inv hf
  obtain ⟨env1, S2, h2, hf⟩ := th_inv hf
  cases h2
  cases hf
  exact ⟨μ, env, S, d, _, he, hs, h1, fun μ1 H1 v e1 k1 r1 => ha μ1 H1 e1 k1 _ ((he.mono e1).set i r1)⟩
end

/-! ### dict comprehensions -/
def dcI (it : ItD) (g : FG) (tt : FT) (tk tv : FE) (n : Nat) (env : Env) : Nat → Nat → Sto → Option Sto
  | 0, _ => fun _ => none
  | m + 1, i => fun S => match it.it S i with
    | some (some d) => th (g d env S) fun env1 S1 => th (tt env1 S1) fun k S2 => if k = true then th (tk env1 S2) fun y S3 => th (tv env1 S3) fun z S4 => match S4[n]?, keyD y with
        | some (.dic kvs), some k' => if kvs.length < cap then dcI it g tt tk tv n env m (i + 1) (S4.set n (.dic (putG kvs k' z))) else none
        | _, _ => none
      else dcI it g tt tk tv n env m (i + 1) S2
    | some none => some S
    | none => none
def eDc (fi : FI) (g : FG) (tt : FT) (tk tv : FE) (vs : List Nat) : FE := fun env S => th (fi env S) fun it S1 => (dcI it g tt tk tv S1.length (wipeE env vs) (it.len + 1) 0 (S1 ++ [.dic []])).map fun S2 => (.ref S1.length, S2)
section
variable {c : FC} {X : Cx}
theorem dic_new {μ : List Addr} {S : Sto} {H : Hp} {p : Addr} (hs : StoOk c μ S H) (hp : H p = none) : Ext c μ H (μ ++ [p]) (upd H p (.dK [])) ∧ StoOk c (μ ++ [p]) (S ++ [.dic []]) (upd H p (.dK [])) :=
  ⟨Ext.new hp, hs.alloc hp ⟨[], upd_same, RepKV.nil⟩⟩
theorem q_dc {e : Expr} {fi : FI} {g : FG} {tt : FT} {tk tv : FE} {vs : List Nat} (h : PE X e (tDc (tI c fi) (tG c (some vs) g) (tT c tt) (tE c tk) (tE c tv) vs)) : PE X e (tE c (eDc fi g tt tk tv vs)) := by
  refine PE.w h fun σ H Q h => ?_
  obtain ⟨μ, env, S, d, S', he, hs, hf0, ha⟩ := h
  obtain ⟨it, S1, h1, hf⟩ := th_inv hf0
  clear hf0
  obtain ⟨Sf, hf, ef⟩ := Option.map_eq_some_iff.mp hf
  cases ef
  refine ⟨μ, env, S, it, S1, he, hs, h1, fun μ1 H1 J e1 k1 ok => ?_⟩
  intro p hp
  obtain ⟨y1, y2⟩ := dic_new k1 hp
  have hn : (μ1 ++ [p])[S1.length]? = some p := by
    rw [← k1.len, List.getElem?_append_right (Nat.le_refl _), Nat.sub_self]
    rfl
  refine ⟨fun i m H2 => ∃ μ2 S2, Ext c (μ1 ++ [p]) (upd H1 p (.dK [])) μ2 H2 ∧ StoOk c μ2 S2 H2 ∧ dcI it g tt tk tv S1.length (wipeE env vs) m i S2 = some S', ⟨it.len + 1, μ1 ++ [p], _, Ext.refl, y2, hf⟩, ?_⟩
  rintro i m H2 ⟨μ2, S2, e2, k2, hw⟩
  have en : EnvOk c μ2 H2 (wipeE env vs) (wipe σ vs) := (((he.mono e1).mono y1).mono e2).wipe vs
  have hn2 := e2.pre _ _ hn
  cases m with
  | zero => cases hw
  | succ m =>
    unfold dcI at hw
    split at hw
    · rename_i d g1
      obtain ⟨go, yl⟩ := (ok μ2 H2 S2 (y1.trans e2) k2 i).2 d g1
      obtain ⟨env3, S3, h3, hw⟩ := th_inv hw
      obtain ⟨k, S4, h4, hw⟩ := th_inv hw
      refine .inr ⟨go, fun H' => ∃ μ2 S2, Ext c (μ1 ++ [p]) (upd H1 p (.dK [])) μ2 H' ∧ StoOk c μ2 S2 H' ∧ dcI it g tt tk tv S1.length (wipeE env vs) m (i + 1) S2 = some S', fun H' q => ⟨m, Nat.lt_succ_self m, q⟩, fun x H' y => ?_⟩
      obtain ⟨μ', x1, x2, x3⟩ := yl x H' y
      refine ⟨μ', _, S2, d, env3, S3, en.mono x1, x2, x3, h3, fun μ3 H3 σ3 e3 k3 r3 w3 => ⟨(w3 vs rfl).trans (q_lc.wipe_wipe σ vs), ?_⟩⟩
      refine ⟨μ3, env3, S3, k, S4, r3, k3, h4, fun μ4 H4 e4 k4 => ?_⟩
      have e24 := e2.trans ((x1.trans e3).trans e4)
      cases k with
      | false =>
        rw [if_neg Bool.false_ne_true] at hw
        refine iteF ?_
        exact ⟨μ4, S4, e24, k4, hw⟩
      | true =>
        rw [if_pos rfl] at hw
        refine iteT ?_
        obtain ⟨y, S5, h5, hw⟩ := th_inv hw
        obtain ⟨z, S6, h6, hw⟩ := th_inv hw
        refine ⟨μ4, env3, S4, y, S5, r3.mono e4, k4, h5, fun μ5 H5 v e5 k5 r5 => ?_⟩
        refine ⟨μ5, env3, S5, z, S6, (r3.mono e4).mono e5, k5, h6, fun μ6 H6 w e6 k6 r6 => ?_⟩
        split at hw
        · rename_i kvs k' g6 g7
          split at hw
          · rename_i hz
            have e26 := (e24.trans e5).trans e6
            have hn5 := e26.pre _ _ hn
            obtain ⟨a', g8, ys, q7, r7⟩ := k6.stands _ _ g6
            rw [hn5] at g8
            cases g8
            obtain ⟨z1, z2⟩ := dic_set k6 g6 hn5 q7 (r7.put (k := k') r6)
            exact ⟨ys, k', keyD_rep r5 g7, q7, by rw [r7.len]; exact cap_lt hz, μ6, _, e26.trans z1, z2, hw⟩
          · cases hw
        · cases hw
    · rename_i g1
      cases hw
      exact .inl ⟨(ok μ2 H2 S' (y1.trans e2) k2 i).1 g1, ha μ2 H2 _ ((e1.trans y1).trans e2) k2 ⟨p, hn2, rfl⟩⟩
    · cases hw
end

/-! ### defs -/
/-- the slots at the entry: the arguments, then nothing -/
def env0 (n : Nat) (ds : List D) : Env := ds.map some ++ List.replicate (n - ds.length) none
def fnF (n np : Nat) (b : FS) : FF := fun ds S => if ds.length = np then th (b (env0 n ds) S) fun o S1 => match o with
  | .nx _ => some (.non, S1)
  | .rt d => some (d, S1)
  | _ => none
  else none
theorem env0_ok {c : FC} {μ : List Addr} {H : Hp} {ds : List D} {vs : List V} (N : List Str) (r : Reps c μ H ds vs) : EnvOk c μ H (env0 N.length ds) (L2.start N vs) := by
  refine ⟨by unfold env0 L2.start; simp [r.len], fun i d h => ?_⟩
  unfold env0 at h
  by_cases hi : i < ds.length
  · rw [List.getElem?_append_left (by simpa using hi), List.getElem?_map] at h
    obtain ⟨d', e1, e2⟩ := Option.map_eq_some_iff.mp h
    cases e2
    obtain ⟨v, e3, rv⟩ := r.get e1
    refine ⟨v, ?_, rv⟩
    unfold L2.start
    rw [List.getElem?_append_left (by simpa [r.len] using hi), List.getElem?_map, e3]
    rfl
  · rw [List.getElem?_append_right (by simpa using Nat.le_of_not_lt hi)] at h
    have := List.mem_of_getElem? h
    rw [List.mem_replicate] at this
    cases this.2
theorem len_spF {c : FC} {n : Nat} {F : FF} : ∀ vs H Q E, spF c n F vs H Q E → vs.length = n := fun _ _ _ _ h => h.1
theorem start_red {c : FC} {N : List Str} {np : Nat} {b : FS} {vs : List V} {H : Hp} {Q : VK} {E : XK} (h : spF c np (fnF N.length np b) vs H Q E) : tS c b { nx := fun _ H' => Q .non H', rt := Q } (L2.start N vs) H := by
  obtain ⟨hl, μ, S, ds, d, S', hs, r, hf, ha⟩ := h
  unfold fnF at hf
  split at hf
  · obtain ⟨o, S1, h1, hf⟩ := th_inv hf
    refine ⟨μ, env0 N.length ds, S, o, S1, env0_ok N r, hs, h1, fun μ1 H1 e1 k1 => ?_⟩
    cases o with
    | nx e =>
      cases hf
      exact fun σ' _ => ha _ _ _ e1 k1 rfl
    | rt d' =>
      cases hf
      exact fun v rv => ha _ _ _ e1 k1 rv
    | bk e => cases hf
    | ct e => cases hf
  · cases hf
end FL
/-! FL11: packs for defs, constants, classes; the law's end. -/
namespace FL
open PySem PySem.Spec PyProof.Rows L2

/-- the def x of the module as the function F of its parameters ps -/
structure Fp (c : FC) (P : Program) (w : World) (mg : Str → Option Value) (base : Heap) (k : Nat) (x : Str) (ps : List Str) (F : FF) : Prop where
  ex : ∃ f fd, FnOk P w c.K mg base CX0 k f fd ps (spF c ps.length F) ∧ mg x = some (.ref f) ∧ PySem.W.keepIn c.K (.ref f) = true ∧ Binds c.K fd ps []
/-- the method m of the class k -/
structure Mp (c : FC) (P : Program) (w : World) (mg : Str → Option Value) (base : Heap) (k : Nat) (C m : Str) (ps : List Str) (F : FF) : Prop where
  ex : ∃ f fd, FnOk P w c.K mg base CX0 k f fd ps (spF c ps.length F) ∧ Meth c.K (c.ct C) m f ∧ Binds c.K fd ps [] ∧ Cls c.K (c.ct C)
/-- the class C, x its name, by its __init__ -/
structure Ip (c : FC) (P : Program) (w : World) (mg : Str → Option Value) (base : Heap) (k : Nat) (C : Str) (ps : List Str) (F : FF) : Prop where
  ex : ∃ f fd, FnOk P w c.K mg base CX0 k f fd ps (spF c ps.length F) ∧ mg C = some (.ref (c.ct C)) ∧ Mk c.K (c.ct C) f ∧ Binds c.K fd ps []
/-- the constant x of the module -/
structure Kp (c : FC) (mg : Str → Option Value) (x : Str) (d : D) : Prop where
  ex : ∃ u, mg x = some u ∧ Cst c u d
def absD : Value → Option D
  | .none => some .non
  | .bool b => some (.bl b)
  | .int i _ => some (.int i)
  | .str x _ => some (.str x)
  | _ => none
def absDs : List Value → Option (List D)
  | [] => some []
  | u :: us => match absD u, absDs us with
    | some d, some ds => some (d :: ds)
    | _, _ => none
section
variable {c : FC} {X : Cx} {P : Program} {w : World} {mg : Str → Option Value} {base : Heap}
theorem absD_ok : ∀ {u : Value} {d : D}, absD u = some d → Cst c u d
  | .none, _, h => by
    cases h
    exact ⟨.non, rfl, fun _ _ => rfl⟩
  | .bool b, _, h => by
    cases h
    exact ⟨.bl b, rfl, fun _ _ => rfl⟩
  | .int i t, _, h => by
    cases h
    exact ⟨.int i, ⟨t, rfl⟩, fun _ _ => rfl⟩
  | .str x t, _, h => by
    cases h
    exact ⟨.str x, ⟨t, rfl⟩, fun _ _ => rfl⟩
  | .ref _, _, h => by cases h
  | .type _, _, h => by cases h
  | .builtin _, _, h => by cases h
  | .bytes _ _, _, h => by cases h
  | .float _ _, _, h => by cases h
theorem absDs_ok : ∀ {us : List Value} {ds : List D}, absDs us = some ds → ∃ xs, Vals xs us ∧ ∀ μ H, Reps c μ H ds xs
  | [], _, h => by
    cases h
    exact ⟨[], .nil, fun _ _ => rfl⟩
  | u :: us, ds, h => by
    unfold absDs at h
    split at h
    · rename_i d ds' e1 e2
      cases h
      obtain ⟨v, r, q⟩ := absD_ok (c := c) e1
      obtain ⟨xs, r', q'⟩ := absDs_ok e2
      exact ⟨v :: xs, .cons r r', fun μ H => ⟨v, xs, rfl, q μ H, q' μ H⟩⟩
    · cases h
theorem cst_tup {p : Addr} {od : Option Addr} {its : Array Value} {n : Nat} {sl : Array (Option Value)} {ds : List D} (l : c.K.lookup p = some ⟨.type "tuple", od, .seq its n, sl⟩) (e : absDs its.toList = some ds) (hs : its.size ≤ cap) : Cst c (.ref p) (.tup ds) := by
  obtain ⟨xs, r, q⟩ := absDs_ok (c := c) e
  exact ⟨.ref p, rfl, fun μ H => ⟨p, xs, rfl, .inr ⟨_, its, n, l, rfl, rfl, cap_le hs, r⟩, q μ H⟩⟩
theorem kp_val {h : Heap} {x : Str} {u : Value} {d : D} (X : c.K.In h) (G : h.Ns mainGlobals mg) (a : PySem.W.nsIn c.K mainGlobals x = some (some u)) (e : absD u = some d) : Kp c mg x d := ⟨u, PySem.W.mg_of X G a, absD_ok e⟩
theorem kp_tup {h : Heap} {x : Str} {p : Addr} {od : Option Addr} {its : Array Value} {n : Nat} {sl : Array (Option Value)} {ds : List D} (X : c.K.In h) (G : h.Ns mainGlobals mg) (a : PySem.W.nsIn c.K mainGlobals x = some (some (.ref p)))
    (l : c.K.lookup p = some ⟨.type "tuple", od, .seq its n, sl⟩) (e : absDs its.toList = some ds) (hs : its.size ≤ cap) : Kp c mg x (.tup ds) := ⟨_, PySem.W.mg_of X G a, cst_tup l e hs⟩
theorem q_globK {x : Str} {d : D} {pos : Pos} (h : Kp c X.mg x d) (hg : Gl X x) (hd : (x == ("__debug__" : Str)) = false := by decide) : PE X (.Name x pos) (tE c (eC d)) :=
  let ⟨_, m, k⟩ := h.ex
  q_glob hg m k hd
theorem Fp.mono {j k : Nat} {x : Str} {ps : List Str} {F : FF} (h : Fp c P w mg base j x ps F) (q : j ≤ k) : Fp c P w mg base k x ps F :=
  let ⟨f, fd, h1, h2⟩ := h.ex
  ⟨f, fd, h1.mono q, h2⟩
theorem Mp.mono {j k : Nat} {x m : Str} {ps : List Str} {F : FF} (h : Mp c P w mg base j x m ps F) (q : j ≤ k) : Mp c P w mg base k x m ps F :=
  let ⟨f, fd, h1, h2⟩ := h.ex
  ⟨f, fd, h1.mono q, h2⟩
theorem Ip.mono {j k : Nat} {x : Str} {ps : List Str} {F : FF} (h : Ip c P w mg base j x ps F) (q : j ≤ k) : Ip c P w mg base k x ps F :=
  let ⟨f, fd, h1, h2⟩ := h.ex
  ⟨f, fd, h1.mono q, h2⟩
variable {k : Nat} {x : Str} {ps : List Str} {F : FF} {e o : Expr} {es : List Expr} {fr : FA} {fo : FE} {p pos apos : Pos}
theorem q_callP (hK : c.K = X.K) (h : Fp c X.prog X.w X.mg X.base k x ps F) (hr : Room k X.A) (hg : Gl X x) (ha : PA X (e :: es) (tA c fr)) (hl : ∀ (env : Env) (S : Sto) (ds : List D) (S' : Sto), fr env S = some (ds, S') → ds.length = ps.length)
    (hdb : (x == ("__debug__" : Str)) = false := by decide) (he : starEach (e :: es) X.env = (false, eval e X.env) :: starEach es X.env := by rfl) (hpl : (backTo pos (starEach es X.env)).any (·.1) = false := by rfl) :
    PE X (.Call (.Name x p) (e :: es) [] pos) (tE c (eCall F fr)) := by
  obtain ⟨f, fd, h1, h2, h3, h4⟩ := h.ex
  rw [hK] at h1 h3 h4
  exact q_fn (E := fun _ _ _ => False) (pe_call h1 hr hg h2 h3 h4 .nil pass0 ha hdb he hpl) hl
theorem q_callP0 (hK : c.K = X.K) (h : Fp c X.prog X.w X.mg X.base k x [] F) (hr : Room k X.A) (hg : Gl X x) (hdb : (x == ("__debug__" : Str)) = false := by decide) :
    PE X (.Call (.Name x p) [] [] pos) (tE c (eCall F aNil)) := by
  obtain ⟨f, fd, h1, h2, h3, h4⟩ := h.ex
  rw [hK] at h1 h3 h4
  refine q_fn (E := fun _ _ _ => False) (PE.w (pe_call0 h1 hr hg h2 h3 h4 .nil pass0 hdb) fun σ H Q q => ?_) len0
  obtain ⟨μ, env, S, ds, S', he, hs, hf, ha⟩ := q
  cases hf
  exact ha μ H [] Ext.refl hs rfl
theorem q_methP {C m : Str} (hK : c.K = X.K) (h : Mp c X.prog X.w X.mg X.base k C m ps F) (hr : Room k X.A) (ho : PE X o (tE c fo)) (ha : PA X (e :: es) (tA c fr)) (hl : ∀ (env : Env) (S : Sto) (ds : List D) (S' : Sto), fr env S = some (ds, S') → ds.length + 1 = ps.length) {pl : Sem Bool}
    (hst : starEach (e :: es) X.env = (false, eval e X.env) :: starEach es X.env := by rfl) (hpl : (backTo pos (starEach es X.env)).any (·.1) = false := by rfl)
    (ht : eval (.Call (.Attribute o m apos) (e :: es) [] pos) X.env = (do
      let ov ← eval o X.env
      standAt apos.atName
      let (f, first) ← holding [ov] (getMethod ov m pl)
      callWith pos f first (backTo pos (starEach (e :: es) X.env)) (backToKw pos (keywordEach [] X.env))) := by rfl) :
    PE X (.Call (.Attribute o m apos) (e :: es) [] pos) (tE c (eMeth C m F fo fr)) := by
  obtain ⟨f, fd, h1, h2, h3, h4⟩ := h.ex
  rw [hK] at h1 h2 h3 h4
  exact q_meth (E := fun _ _ _ => False) (pe_meth ho h4 h2 h1 hr h3 .nil pass0 ha hst hpl ht) hl
theorem q_methP0 {C m : Str} (hK : c.K = X.K) (h : Mp c X.prog X.w X.mg X.base k C m ps F) (hr : Room k X.A) (ho : PE X o (tE c fo)) (hl : 1 = ps.length) {pl : Sem Bool}
    (ht : eval (.Call (.Attribute o m apos) [] [] pos) X.env = (do
      let ov ← eval o X.env
      standAt apos.atName
      let (f, first) ← holding [ov] (getMethod ov m pl)
      callWith pos f first (backTo pos (starEach [] X.env)) (backToKw pos (keywordEach [] X.env))) := by rfl) :
    PE X (.Call (.Attribute o m apos) [] [] pos) (tE c (eMeth C m F fo aNil)) := by
  obtain ⟨f, fd, h1, h2, h3, h4⟩ := h.ex
  rw [hK] at h1 h2 h3 h4
  refine q_meth (n := ps.length) (E := fun _ _ _ => False) (PE.w (pe_meth0 ho h4 h2 h1 hr h3 .nil pass0 ht) fun σ H Q q => ?_) (fun _ _ _ _ h => by cases h; exact hl)
  refine nilR q fun σ H Q Q' m h => ?_
  obtain ⟨μ, env, S, d, S', he, hs, hf, ha⟩ := h
  exact ⟨μ, env, S, d, S', he, hs, hf, fun μ1 H1 v e1 k1 r1 => m v H1 (ha μ1 H1 v e1 k1 r1)⟩
where
  nilR {C : Addr} {m : Str} {sp : Sp} {E : XK} {t : TE} {σ : L2.St} {H : Hp} {Q : VK} (q : tMeth C m sp [] E t (tA c aNil) σ H Q) (hm : ∀ σ H (Q Q' : VK), (∀ v H, Q v H → Q' v H) → t σ H Q → t σ H Q') : tMeth C m sp [] E t tNil σ H Q := by
    refine hm σ H _ _ ?_ q
    rintro v H1 ⟨a, dx, fs, r1, r2, r3, μ, env, S, ds, S', he, hs, hf, ha⟩
    cases hf
    exact ⟨a, dx, fs, r1, r2, r3, ha μ H1 [] Ext.refl hs rfl⟩
/-- the law's promise, from what its function answers -/
theorem end_red {F : FF} {ns : List Int} {H : Hp} {a : Addr} {E : XK} (h : ∃ S', F [.ref 0] [.ro (ns.map D.int)] = some (.bl true, S')) (hO : Only H) (hS : SqL c.K H a (ns.map V.int)) : spF c 1 F [.ref a] H (fun v _ => v = .bl true) E := by
  obtain ⟨S', hf⟩ := h
  have r : RepO c [a] H a (.ro (ns.map D.int)) := by
    refine ⟨ns.map V.int, ?_, ints_rep ns⟩
    rcases hS with (h | h) | h
    · rcases hO a with q | ⟨o, xs, q⟩ <;> (rw [h] at q; cases q)
    · exact .inl h
    · exact .inr h
  refine ⟨rfl, [a], [.ro (ns.map D.int)], [.ref 0], .bl true, S', ⟨rfl, fun n o e => ?_, fun n m b o o' e1 e2 w1 w2 => ?_⟩, ⟨_, _, rfl, ⟨a, rfl, rfl⟩, rfl⟩, hf, fun μ' H' v _ _ r => r⟩
  · match n, e with
    | 0, e =>
      cases e
      exact ⟨a, rfl, r⟩
  · match n, e1 with
    | 0, e1 =>
      cases e1
      cases w1
end
end FL
/-! FL12: what the functions compute: a calculus of values (no program in sight). -/
namespace FL
open PySem L2

/-- r answers, and what it answers has Q -/
def W {α : Type} (r : Option (α × Sto)) (Q : α → Sto → Prop) : Prop := ∃ x S, r = some (x, S) ∧ Q x S
@[simp] theorem W_some {α : Type} (x : α) (S : Sto) (Q : α → Sto → Prop) : W (some (x, S)) Q ↔ Q x S := ⟨fun ⟨_, _, e, q⟩ => by cases e; exact q, fun q => ⟨x, S, rfl, q⟩⟩
@[simp] theorem W_none {α : Type} (Q : α → Sto → Prop) : W (none : Option (α × Sto)) Q ↔ False := ⟨(fun ⟨_, _, e, _⟩ => nomatch e), False.elim⟩
@[simp] theorem W_th {α β : Type} (r : Option (α × Sto)) (k : α → Sto → Option (β × Sto)) (Q : β → Sto → Prop) : W (th r k) Q ↔ W r fun x S => W (k x S) Q := by
  cases r with
  | none => simp
  | some p =>
    obtain ⟨x, S⟩ := p
    simp
theorem W.mono {α : Type} {r : Option (α × Sto)} {Q Q' : α → Sto → Prop} (h : W r Q) (m : ∀ x S, Q x S → Q' x S) : W r Q' := let ⟨x, S, e, q⟩ := h; ⟨x, S, e, m x S q⟩
theorem W.of {α : Type} {r : Option (α × Sto)} {Q : α → Sto → Prop} {x : α} {S : Sto} (e : r = some (x, S)) (q : Q x S) : W r Q := ⟨x, S, e, q⟩
theorem W_map {α β : Type} {r : Option (α × Sto)} {f : α × Sto → β × Sto} {Q : β → Sto → Prop} (h : W r fun x S => Q (f (x, S)).1 (f (x, S)).2) : W (r.map f) Q := by
  obtain ⟨x, S, e, q⟩ := h
  exact ⟨_, _, by rw [e]; rfl, q⟩
theorem W_if {α : Type} {p : Prop} [Decidable p] {a b : Option (α × Sto)} {Q : α → Sto → Prop} (h1 : p → W a Q) (h2 : ¬ p → W b Q) : W (if p then a else b) Q := by
  by_cases h : p
  · rw [if_pos h]; exact h1 h
  · rw [if_neg h]; exact h2 h

/-! ### stores -/
def Ap (S S' : Sto) : Prop := ∀ (m : Nat) (o : O), S[m]? = some o → S'[m]? = some o
theorem Ap.refl (S : Sto) : Ap S S := fun _ _ h => h
theorem Ap.trans {S S1 S2 : Sto} (a : Ap S S1) (b : Ap S1 S2) : Ap S S2 := fun m o h => b m o (a m o h)
theorem Ap.app (S J : Sto) : Ap S (S ++ J) := fun m o h => by
  rw [List.getElem?_append_left (List.getElem?_eq_some_iff.mp h).1]
  exact h
theorem Ap.len {S S' : Sto} (h : Ap S S') : S.length ≤ S'.length := by
  by_cases z : S.length ≤ S'.length
  · exact z
  · have hl : S'.length < S.length := by omega
    have := h S'.length _ (List.getElem?_eq_getElem hl)
    have := (List.getElem?_eq_some_iff.mp this).1
    omega
theorem Ap.set {S S1 : Sto} {n : Nat} {o : O} (h : Ap S S1) (hn : S.length ≤ n) : Ap S (S1.set n o) := fun m o' e => by
  rw [List.getElem?_set_ne]
  · exact h m o' e
  · intro z
    have := (List.getElem?_eq_some_iff.mp e).1
    omega
/-- only the place n may change -/
def Kn (n : Nat) (S S' : Sto) : Prop := ∀ (m : Nat) (o : O), m ≠ n → S[m]? = some o → S'[m]? = some o
theorem Ap.kn {S S' : Sto} (h : Ap S S') (n : Nat) : Kn n S S' := fun m o _ e => h m o e
theorem Kn.refl (n : Nat) (S : Sto) : Kn n S S := fun _ _ _ h => h
theorem Kn.trans {n : Nat} {S S1 S2 : Sto} (a : Kn n S S1) (b : Kn n S1 S2) : Kn n S S2 := fun m o z h => b m o z (a m o z h)
theorem Kn.set (n : Nat) (S : Sto) (o : O) : Kn n S (S.set n o) := fun m o' z e => by
  rw [List.getElem?_set_ne (fun q => z q.symm)]
  exact e
theorem set_at {S : Sto} {n : Nat} {o o' : O} (h : S[n]? = some o) : (S.set n o')[n]? = some o' := List.getElem?_set_self (List.getElem?_eq_some_iff.mp h).1
theorem new_at (S : Sto) (o : O) : (S ++ [o])[S.length]? = some o := by simp
theorem getL_of {S : Sto} {n : Nat} {ds : List D} (h : S[n]? = some (.lst ds)) : getL S n = some ds := by unfold getL; rw [h]
theorem getL_ro {S : Sto} {n : Nat} {ds : List D} (h : S[n]? = some (.ro ds)) : getL S n = some ds := by unfold getL; rw [h]
theorem getL_ap {S S' : Sto} {n : Nat} {ds : List D} (h : getL S n = some ds) (a : Ap S S') : getL S' n = some ds := by
  unfold getL at h ⊢
  split at h
  · rename_i e
    rw [a _ _ e]; exact h
  · rename_i e
    rw [a _ _ e]; exact h
  · cases h
theorem lt_of_at {S : Sto} {n : Nat} {o : O} (h : S[n]? = some o) : n < S.length := (List.getElem?_eq_some_iff.mp h).1
/-- a new place -/
theorem W_new {Q : D → Sto → Prop} {S : Sto} {o : O} (h : ∀ (n : Nat) (S' : Sto), n = S.length → Ap S S' → S'[n]? = some o → S'.length = S.length + 1 → Q (.ref n) S') : W (some (D.ref S.length, S ++ [o])) Q :=
  ⟨_, _, rfl, h _ _ rfl (Ap.app S [o]) (new_at S o) (by simp)⟩

/-! ### statements and defs -/
def QS (g : FS) (Q : Out → Sto → Prop) : Out → Sto → Prop := fun o S => match o with
  | .nx e => W (g e S) Q
  | o => Q o S
@[simp] theorem QS_nx (g : FS) (Q : Out → Sto → Prop) (e : Env) (S : Sto) : QS g Q (.nx e) S ↔ W (g e S) Q := Iff.rfl
@[simp] theorem QS_rt (g : FS) (Q : Out → Sto → Prop) (d : D) (S : Sto) : QS g Q (.rt d) S ↔ Q (.rt d) S := Iff.rfl
@[simp] theorem QS_bk (g : FS) (Q : Out → Sto → Prop) (e : Env) (S : Sto) : QS g Q (.bk e) S ↔ Q (.bk e) S := Iff.rfl
@[simp] theorem QS_ct (g : FS) (Q : Out → Sto → Prop) (e : Env) (S : Sto) : QS g Q (.ct e) S ↔ Q (.ct e) S := Iff.rfl
def QF (Q : D → Sto → Prop) : Out → Sto → Prop := fun o S => match o with
  | .nx _ => Q .non S
  | .rt d => Q d S
  | _ => False
@[simp] theorem QF_nx (Q : D → Sto → Prop) (e : Env) (S : Sto) : QF Q (.nx e) S ↔ Q .non S := Iff.rfl
@[simp] theorem QF_rt (Q : D → Sto → Prop) (d : D) (S : Sto) : QF Q (.rt d) S ↔ Q d S := Iff.rfl
@[simp] theorem w_seq (f g : FS) (env : Env) (S : Sto) (Q : Out → Sto → Prop) : W (sSeq f g env S) Q ↔ W (f env S) (QS g Q) := by
  unfold sSeq
  rw [W_th]
  constructor
  · rintro ⟨o, S1, e, h⟩
    refine ⟨o, S1, e, ?_⟩
    cases o with
    | nx e => exact h
    | rt d => simpa using h
    | bk d => simpa using h
    | ct d => simpa using h
  · rintro ⟨o, S1, e, h⟩
    refine ⟨o, S1, e, ?_⟩
    cases o with
    | nx e => exact h
    | rt d => simpa using h
    | bk d => simpa using h
    | ct d => simpa using h
theorem w_fn {n np : Nat} {b : FS} {ds : List D} {S : Sto} {Q : D → Sto → Prop} (hl : ds.length = np) (h : W (b (env0 n ds) S) (QF Q)) : W (fnF n np b ds S) Q := by
  unfold fnF
  rw [if_pos hl, W_th]
  obtain ⟨o, S1, e, h⟩ := h
  refine ⟨o, S1, e, ?_⟩
  cases o with
  | nx e => simpa using h
  | rt d => simpa using h
  | bk d => exact h.elim
  | ct d => exact h.elim
section
variable {env : Env} {S : Sto} {Q : Out → Sto → Prop}
@[simp] theorem w_nil : W (sNil env S) Q ↔ Q (.nx env) S := W_some ..
@[simp] theorem w_ret (fe : FE) : W (sRet fe env S) Q ↔ W (fe env S) fun d S1 => Q (.rt d) S1 := by unfold sRet; simp
@[simp] theorem w_retN : W (sRetN env S) Q ↔ Q (.rt .non) S := W_some ..
@[simp] theorem w_drop (fe : FE) : W (sDrop fe env S) Q ↔ W (fe env S) fun _ S1 => Q (.nx env) S1 := by unfold sDrop; simp
@[simp] theorem w_brk : W (sBrk env S) Q ↔ Q (.bk env) S := W_some ..
@[simp] theorem w_cnt : W (sCnt env S) Q ↔ Q (.ct env) S := W_some ..
@[simp] theorem w_sif (t : FT) (f g : FS) : W (sIf t f g env S) Q ↔ W (t env S) fun b S1 => (if b = true then W (f env S1) Q else W (g env S1) Q) := by
  unfold sIf
  rw [W_th]
  constructor <;>
  · rintro ⟨b, S1, e, h⟩
    refine ⟨b, S1, e, ?_⟩
    cases b <;> simpa using h
@[simp] theorem w_asg (fe : FE) (g : FG) : W (sAsg fe g env S) Q ↔ W (fe env S) fun d S1 => W (g d env S1) fun env1 S2 => Q (.nx env1) S2 := by unfold sAsg; simp
theorem w_par (is : List Nat) (fr : FA) : W (sPar is fr env S) Q ↔ W (fr env S) fun ds S1 => ds.length = is.length ∧ Q (.nx ((is.zip ds).foldl (fun e p => e.set p.1 (some p.2)) env)) S1 := by
  unfold sPar
  rw [W_th]
  constructor
  · rintro ⟨ds, S1, e, h⟩
    refine ⟨ds, S1, e, ?_⟩
    by_cases z : ds.length = is.length
    · rw [if_pos z] at h; exact ⟨z, by simpa using h⟩
    · rw [if_neg z] at h; simp at h
  · rintro ⟨ds, S1, e, z, h⟩
    refine ⟨ds, S1, e, ?_⟩
    simpa [z] using h
end
section
variable {env : Env} {S : Sto} {Q : D → Sto → Prop} {QA : List D → Sto → Prop} {QT : Bool → Sto → Prop} {QE : Env → Sto → Prop}
@[simp] theorem w_c (d : D) : W (eC d env S) Q ↔ Q d S := W_some ..
theorem w_var {i : Nat} {d : D} (h : env[i]? = some (some d)) : W (eVar i env S) Q ↔ Q d S := by unfold eVar; rw [h]; simp
@[simp] theorem w_bin (r : F2) (fa fb : FE) : W (eBin r fa fb env S) Q ↔ W (fa env S) fun x S1 => W (fb env S1) fun y S2 => W (r x y S2) Q := by unfold eBin; simp
@[simp] theorem w_un (r : F1) (fa : FE) : W (eUn r fa env S) Q ↔ W (fa env S) fun x S1 => W (r x S1) Q := by unfold eUn; simp
@[simp] theorem w_anil : W (aNil env S) QA ↔ QA [] S := W_some ..
@[simp] theorem w_acons (fa : FE) (fr : FA) : W (aCons fa fr env S) QA ↔ W (fa env S) fun x S1 => W (fr env S1) fun xs S2 => QA (x :: xs) S2 := by unfold aCons; simp
@[simp] theorem w_tup (fr : FA) : W (eTup fr env S) Q ↔ W (fr env S) fun ds S1 => ds.length ≤ cap ∧ Q (.tup ds) S1 := by
  unfold eTup
  rw [W_th]
  constructor
  · rintro ⟨ds, S1, e, h⟩
    refine ⟨ds, S1, e, ?_⟩
    by_cases z : ds.length ≤ cap
    · rw [if_pos z] at h; exact ⟨z, by simpa using h⟩
    · rw [if_neg z] at h; simp at h
  · rintro ⟨ds, S1, e, z, h⟩
    refine ⟨ds, S1, e, ?_⟩
    simpa [z] using h
@[simp] theorem w_lst (fr : FA) : W (eLst fr env S) Q ↔ W (fr env S) fun ds S1 => ds.length ≤ cap ∧ W (some (D.ref S1.length, S1 ++ [.lst ds])) Q := by
  unfold eLst
  rw [W_th]
  constructor
  · rintro ⟨ds, S1, e, h⟩
    refine ⟨ds, S1, e, ?_⟩
    by_cases z : ds.length ≤ cap
    · rw [if_pos z] at h; exact ⟨z, h⟩
    · rw [if_neg z] at h; simp at h
  · rintro ⟨ds, S1, e, z, h⟩
    refine ⟨ds, S1, e, ?_⟩
    simpa [z] using h
@[simp] theorem w_call (F : FF) (fr : FA) : W (eCall F fr env S) Q ↔ W (fr env S) fun ds S1 => W (F ds S1) Q := by unfold eCall; simp
@[simp] theorem w_tB (fe : FE) : W (tB fe env S) QT ↔ W (fe env S) fun d S1 => ∃ b, d = .bl b ∧ QT b S1 := by
  unfold tB
  rw [W_th]
  constructor
  · rintro ⟨d, S1, e, h⟩
    refine ⟨d, S1, e, ?_⟩
    cases d with
    | bl b => exact ⟨b, rfl, by simpa using h⟩
    | _ => simp at h
  · rintro ⟨d, S1, e, b, rfl, h⟩
    exact ⟨_, S1, e, by simpa using h⟩
@[simp] theorem w_tNot (t : FT) : W (tNot t env S) QT ↔ W (t env S) fun b S1 => QT (!b) S1 := by unfold tNot; simp
@[simp] theorem w_tAnd (a b : FT) : W (tAnd a b env S) QT ↔ W (a env S) fun k S1 => if k = true then W (b env S1) QT else QT false S1 := by
  unfold tAnd
  rw [W_th]
  constructor <;>
  · rintro ⟨d, S1, e, h⟩
    refine ⟨d, S1, e, ?_⟩
    cases d <;> simpa using h
@[simp] theorem w_tOr (a b : FT) : W (tOr a b env S) QT ↔ W (a env S) fun k S1 => if k = true then QT true S1 else W (b env S1) QT := by
  unfold tOr
  rw [W_th]
  constructor <;>
  · rintro ⟨d, S1, e, h⟩
    refine ⟨d, S1, e, ?_⟩
    cases d <;> simpa using h
@[simp] theorem w_eIf (t : FT) (a b : FE) : W (eIf t a b env S) Q ↔ W (t env S) fun k S1 => if k = true then W (a env S1) Q else W (b env S1) Q := by
  unfold eIf
  rw [W_th]
  constructor <;>
  · rintro ⟨d, S1, e, h⟩
    refine ⟨d, S1, e, ?_⟩
    cases d <;> simpa using h
@[simp] theorem w_isN (a : FE) : W (eIsN a env S) Q ↔ W (a env S) fun x S1 => Q (.bl (match x with | .non => true | _ => false)) S1 := by
  unfold eIsN
  rw [W_th]
  constructor <;>
  · rintro ⟨d, S1, e, h⟩
    refine ⟨d, S1, e, ?_⟩
    cases d <;> simpa using h
@[simp] theorem w_notN (a : FE) : W (eNotN a env S) Q ↔ W (a env S) fun x S1 => Q (.bl (match x with | .non => false | _ => true)) S1 := by
  unfold eNotN
  rw [W_th]
  constructor <;>
  · rintro ⟨d, S1, e, h⟩
    refine ⟨d, S1, e, ?_⟩
    cases d <;> simpa using h
@[simp] theorem w_gnm (i : Nat) (d : D) : W (gNm i d env S) QE ↔ QE (env.set i (some d)) S := W_some ..
@[simp] theorem w_gnils (S : Sto) : W (gNils [] env S) QE ↔ QE env S := W_some ..
@[simp] theorem w_gcns (g : FG) (gs : FGs) (d : D) (r : List D) : W (gCns g gs (d :: r) env S) QE ↔ W (g d env S) fun e1 S1 => W (gs r e1 S1) QE := by unfold gCns; simp
theorem w_gtp {n : Nat} {gs : FGs} {ds : List D} (h : ds.length = n) : W (gTp n gs (.tup ds) env S) QE ↔ W (gs ds env S) QE := by unfold gTp; simp only [if_pos h]
@[simp] theorem w_add (i j : Int) : W (oAdd (.int i) (.int j) S) Q ↔ Q (.int (i + j)) S := W_some ..
@[simp] theorem w_sub (i j : Int) : W (oSub (.int i) (.int j) S) Q ↔ Q (.int (i - j)) S := W_some ..
@[simp] theorem w_neg (i : Int) : W (oNeg (.int i) S) Q ↔ Q (.int (-i)) S := W_some ..
@[simp] theorem w_lt (i j : Int) : W (oLt (.int i) (.int j) S) Q ↔ Q (.bl (decide (i < j))) S := W_some ..
@[simp] theorem w_le (i j : Int) : W (oLe (.int i) (.int j) S) Q ↔ Q (.bl (decide (i ≤ j))) S := W_some ..
@[simp] theorem w_gt (i j : Int) : W (oGt (.int i) (.int j) S) Q ↔ Q (.bl (decide (j < i))) S := W_some ..
@[simp] theorem w_ge (i j : Int) : W (oGe (.int i) (.int j) S) Q ↔ Q (.bl (decide (j ≤ i))) S := W_some ..
theorem w_mul {i j : Int} (h : okMul i j = true) : W (oMul (.int i) (.int j) S) Q ↔ Q (.int (i * j)) S := by unfold oMul; simp only [if_pos h, W_some]
theorem okMul_l {i j : Int} (h1 : -18446744073709551616 < i) (h2 : i < 18446744073709551616) : okMul i j = true := by unfold okMul; simp [h1, h2]
theorem okMul_r {i j : Int} (h1 : -18446744073709551616 < j) (h2 : j < 18446744073709551616) : okMul i j = true := by unfold okMul; simp [h1, h2]
theorem w_div {i j : Int} (h1 : 0 < j) (h2 : j < 18446744073709551616) : W (oDiv (.int i) (.int j) S) Q ↔ Q (.int (i / j)) S := by unfold oDiv okDiv; simp [h1, h2]
theorem w_mod {i j : Int} (h1 : 0 < j) : W (oMod (.int i) (.int j) S) Q ↔ Q (.int (i % j)) S := by unfold oMod; simp [h1]
@[simp] theorem w_abs (i : Int) : W (fAbs [.int i] S) Q ↔ Q (.int (if i < 0 then -i else i)) S := W_some ..
@[simp] theorem w_int (i : Int) : W (fInt [.int i] S) Q ↔ Q (.int i) S := W_some ..
@[simp] theorem w_intb (b : Bool) : W (fInt [.bl b] S) Q ↔ Q (.int (if b = true then 1 else 0)) S := W_some ..
@[simp] theorem w_max2 (i j : Int) : W (fMax [.int i, .int j] S) Q ↔ Q (.int (if j > i then j else i)) S := W_some ..
@[simp] theorem w_min2 (i j : Int) : W (fMin [.int i, .int j] S) Q ↔ Q (.int (if j < i then j else i)) S := W_some ..
theorem w_len {n : Nat} {ds : List D} (h : getL S n = some ds) : W (fLen [.ref n] S) Q ↔ Q (.int ds.length) S := by unfold fLen; simp [h]
theorem w_list {n : Nat} {ds : List D} (h : getL S n = some ds) : W (fList [.ref n] S) Q ↔ W (some (D.ref S.length, S ++ [.lst ds])) Q := by unfold fList; simp [h]
theorem w_max1 {n : Nat} {ds : List D} {ns : List Int} (h : getL S n = some ds) (e : intsD ds = some ns) (h0 : ns ≠ []) : W (fMax [.ref n] S) Q ↔ Q (.int (maxL ns)) S := by unfold fMax ints1; simp [h, e, h0]
theorem w_min1 {n : Nat} {ds : List D} {ns : List Int} (h : getL S n = some ds) (e : intsD ds = some ns) (h0 : ns ≠ []) : W (fMin [.ref n] S) Q ↔ Q (.int (minL ns)) S := by unfold fMin ints1; simp [h, e, h0]
theorem w_sum {n : Nat} {ds : List D} {ns : List Int} (h : getL S n = some ds) (e : intsD ds = some ns) : W (fSum [.ref n] S) Q ↔ Q (.int ns.sum) S := by unfold fSum ints1; simp [h, e]
theorem intsD_map : ∀ ns : List Int, intsD (ns.map D.int) = some ns
  | [] => rfl
  | n :: ns => by
    show (intsD (ns.map D.int)).map _ = _
    rw [intsD_map ns]
    rfl
theorem atI_nat {α : Type} {xs : List α} {k : Nat} {x : α} (h : xs[k]? = some x) : atI xs (k : Int) = some x := by
  have hk := (List.getElem?_eq_some_iff.mp h).1
  unfold atI ixN
  rw [if_pos (by omega), if_pos (by omega)]
  simpa using h
theorem atI_last {α : Type} {xs : List α} {x : α} (h : xs.getLast? = some x) : atI xs (-1) = some x := by
  have h0 : xs ≠ [] := by
    rintro rfl
    cases h
  have hl : 0 < xs.length := List.length_pos_iff.mpr h0
  unfold atI ixN
  rw [if_neg (by omega), if_pos (by omega)]
  rw [List.getLast?_eq_getElem?] at h
  show xs[((-1 : Int) + xs.length).toNat]? = some x
  rw [show ((-1 : Int) + xs.length).toNat = xs.length - 1 by omega]
  exact h
theorem w_ixL {n : Nat} {ds : List D} {i : Int} {d : D} (h : getL S n = some ds) (e : atI ds i = some d) : W (oIx (.ref n) (.int i) S) Q ↔ Q d S := by unfold oIx; simp [h, e]
theorem w_ixT {ds : List D} {i : Int} {d : D} (e : atI ds i = some d) : W (oIx (.tup ds) (.int i) S) Q ↔ Q d S := by unfold oIx; simp [e]
theorem w_ixDs {n : Nat} {kvs : List (Key × D)} {x : Str} {d : D} (h : S[n]? = some (.dic kvs)) (e : valG kvs (.inr x) = some d) : W (oIx (.ref n) (.str x) S) Q ↔ Q d S := by unfold oIx getL getD keyD; simp [h, e]
theorem cut_none {α : Type} (xs : List α) (k : Nat) : cutG xs none (some (k : Int)) = xs.take k := by
  unfold cutG
  rw [HT.sIx_none, HT.sIx_nat]
  simp [List.take_eq_take_iff]
theorem cut_from {α : Type} (xs : List α) (k : Nat) : cutG xs (some (k : Int)) none = xs.drop k := by
  unfold cutG
  rw [HT.sIx_none, HT.sIx_nat]
  by_cases h : k ≤ xs.length
  · rw [Nat.min_eq_left h]
    rw [← List.length_drop, List.take_length]
  · rw [Nat.min_eq_right (by omega)]
    simp
    omega
theorem w_sl {fe : FE} {fl fh : FO} : W (eSl fe fl fh env S) Q ↔ W (fe env S) fun x S1 => W (fl env S1) fun l S2 => W (fh env S2) fun h S3 => W (oSl x l h S3) Q := by unfold eSl; simp
@[simp] theorem w_pno {QO : Option Int → Sto → Prop} : W (pNo env S) QO ↔ QO none S := W_some ..
@[simp] theorem w_ppart {fe : FE} {QO : Option Int → Sto → Prop} : W (pPart fe env S) QO ↔ W (fe env S) fun d S1 => ∃ i, d = .int i ∧ QO (some i) S1 := by
  unfold pPart
  rw [W_th]
  constructor
  · rintro ⟨d, S1, e, h⟩
    refine ⟨d, S1, e, ?_⟩
    cases d with
    | int b => exact ⟨b, rfl, by simpa using h⟩
    | _ => simp at h
  · rintro ⟨d, S1, e, b, rfl, h⟩
    exact ⟨_, S1, e, by simpa using h⟩
theorem w_slL {n : Nat} {ds : List D} {lo hi : Option Int} (h : getL S n = some ds) : W (oSl (.ref n) lo hi S) Q ↔ W (some (D.ref S.length, S ++ [.lst (cutG ds lo hi)])) Q := by unfold oSl; simp [h]
theorem w_bm {T : String} {F : D → FF} {fo : FE} {fr : FA} : W (eBm T F fo fr env S) Q ↔ W (fo env S) fun x S1 => tyD T x S1 = true ∧ W (fr env S1) fun ds S2 => W (F x ds S2) Q := by
  unfold eBm
  rw [W_th]
  constructor
  · rintro ⟨x, S1, e, h⟩
    refine ⟨x, S1, e, ?_⟩
    by_cases z : tyD T x S1 = true
    · rw [if_pos z] at h; exact ⟨z, by simpa using h⟩
    · rw [if_neg z] at h; simp at h
  · rintro ⟨x, S1, e, z, h⟩
    refine ⟨x, S1, e, ?_⟩
    simpa [z] using h
theorem tyL {n : Nat} {ds : List D} (h : S[n]? = some (.lst ds)) : tyD "list" (.ref n) S = true := by unfold tyD; simp [h]
end

/-! ### equality -/
mutual
def dPy : D → PyData
  | .non => .none
  | .bl b => .bool b
  | .int i => .int i
  | .str x => .str x
  | .tup ds => .tuple (dPys ds)
  | .ref _ => .none
def dPys : List D → List PyData
  | [] => []
  | d :: ds => dPy d :: dPys ds
end
mutual
def noRef : D → Bool
  | .ref _ => false
  | .tup ds => noRefs ds
  | _ => true
def noRefs : List D → Bool
  | [] => true
  | d :: ds => noRef d && noRefs ds
end
mutual
theorem toPy_no {g : Nat → Option PyData} : ∀ {d : D}, noRef d = true → toPyG g d = some (dPy d)
  | .non, _ => rfl
  | .bl _, _ => rfl
  | .int _, _ => rfl
  | .str _, _ => rfl
  | .tup ds, h => by
    show (toPysG g ds).map _ = _
    rw [toPys_no (ds := ds) h]
    rfl
  | .ref _, h => nomatch h
theorem toPys_no {g : Nat → Option PyData} : ∀ {ds : List D}, noRefs ds = true → toPysG g ds = some (dPys ds)
  | [], _ => rfl
  | d :: ds, h => by
    have h' := Bool.and_eq_true_iff.mp (show (noRef d && noRefs ds) = true from h)
    show (toPyG g d).bind _ = _
    rw [toPy_no h'.1, Option.bind_some, toPys_no h'.2]
    rfl
end
theorem toPy_nr {S : Sto} {d : D} (h : noRef d = true) : toPy S d = some (dPy d) := toPy_no h
theorem toPy_lst {S : Sto} {n : Nat} {ds : List D} (h : getL S n = some ds) (k : noRefs ds = true) : toPy S (.ref n) = some (.list (dPys ds)) := by
  show refPy S 4 n = _
  unfold refPy
  rw [h, Option.bind_some, toPys_no k]
  rfl
/-- data that can be compared: depth at most 60 -/
def Sh (p : PyData) : Prop := p.canLay0 = true ∧ p.depth ≤ 30
theorem Sh.ok {p : PyData} (h : Sh p) : SeqAt.shaped p = true := by
  unfold SeqAt.shaped
  rw [h.1, Bool.true_and]
  exact decide_eq_true (by have := h.2; omega)
theorem sh_int (i : Int) : Sh (.int i) := ⟨by simp [PyData.canLay0], by simp [PyData.depth]⟩
theorem sh_non : Sh .none := ⟨by simp [PyData.canLay0], by simp [PyData.depth]⟩
theorem sh_bl (b : Bool) : Sh (.bool b) := ⟨by simp [PyData.canLay0], by simp [PyData.depth]⟩
theorem canAll {ps : List PyData} (h : ∀ p ∈ ps, p.canLay0 = true ∧ p.depth ≤ 10) : PyData.canLayAll0 ps = true ∧ PyData.depthAll ps ≤ 10 := by
  induction ps with
  | nil => exact ⟨by simp [PyData.canLayAll0], by simp [PyData.depthAll]⟩
  | cons p ps ih =>
    obtain ⟨h1, h2⟩ := ih fun q hq => h q (List.mem_cons_of_mem _ hq)
    obtain ⟨h3, h4⟩ := h p List.mem_cons_self
    refine ⟨by rw [PyData.canLayAll0, h3, h1]; rfl, ?_⟩
    rw [PyData.depthAll]
    omega
theorem sh_list {ps : List PyData} (h : ∀ p ∈ ps, p.canLay0 = true ∧ p.depth ≤ 10) : Sh (.list ps) := by
  obtain ⟨h1, h2⟩ := canAll h
  exact ⟨by rw [PyData.canLay0]; exact h1, by rw [PyData.depth]; omega⟩
theorem sh_tuple {ps : List PyData} (h : ∀ p ∈ ps, p.canLay0 = true ∧ p.depth ≤ 10) : Sh (.tuple ps) := by
  obtain ⟨h1, h2⟩ := canAll h
  exact ⟨by rw [PyData.canLay0]; exact h1, by rw [PyData.depth]; omega⟩
section
variable {S : Sto} {Q : D → Sto → Prop}
theorem w_eqS {x y : D} {p : PyData} (hx : toPy S x = some p) (hy : toPy S y = some p) (h : Sh p) : W (oEq x y S) Q ↔ Q (.bl true) S := by
  unfold oEq
  rw [hx, hy]
  simp only [h.ok, Bool.and_self, if_true, SeqAt.eqv_refl p h.1, W_some]
theorem w_neS {x y : D} {p : PyData} (hx : toPy S x = some p) (hy : toPy S y = some p) (h : Sh p) : W (oNe x y S) Q ↔ Q (.bl false) S := by
  unfold oNe
  rw [hx, hy]
  simp only [h.ok, Bool.and_self, if_true, SeqAt.eqv_refl p h.1, W_some, Bool.not_true]
theorem w_eqP {x y : D} {p q : PyData} (hx : toPy S x = some p) (hy : toPy S y = some q) (h : Sh p) (k : Sh q) : W (oEq x y S) Q ↔ Q (.bl (PyData.eqv p q)) S := by
  unfold oEq
  rw [hx, hy]
  simp only [h.ok, k.ok, Bool.and_self, if_true, W_some]
theorem w_neP {x y : D} {p q : PyData} (hx : toPy S x = some p) (hy : toPy S y = some q) (h : Sh p) (k : Sh q) : W (oNe x y S) Q ↔ Q (.bl (!PyData.eqv p q)) S := by
  unfold oNe
  rw [hx, hy]
  simp only [h.ok, k.ok, Bool.and_self, if_true, W_some]
@[simp] theorem w_eqI (i j : Int) : W (oEq (.int i) (.int j) S) Q ↔ Q (.bl (decide (i = j))) S := by
  rw [w_eqP (p := .int i) (q := .int j) rfl rfl (sh_int i) (sh_int j)]
  have : PyData.eqv (.int i) (.int j) = decide (i = j) := by
    rw [PyData.eqv]
    by_cases q : i = j <;> simp [q]
  rw [this]
@[simp] theorem w_neI (i j : Int) : W (oNe (.int i) (.int j) S) Q ↔ Q (.bl (!decide (i = j))) S := by
  rw [w_neP (p := .int i) (q := .int j) rfl rfl (sh_int i) (sh_int j)]
  have : PyData.eqv (.int i) (.int j) = decide (i = j) := by
    rw [PyData.eqv]
    by_cases q : i = j <;> simp [q]
  rw [this]
@[simp] theorem w_eqB (i j : Bool) : W (oEq (.bl i) (.bl j) S) Q ↔ Q (.bl (i == j)) S := by
  rw [w_eqP (p := .bool i) (q := .bool j) rfl rfl (sh_bl i) (sh_bl j)]
  rw [PyData.eqv]
@[simp] theorem w_neB (i j : Bool) : W (oNe (.bl i) (.bl j) S) Q ↔ Q (.bl (!(i == j))) S := by
  rw [w_neP (p := .bool i) (q := .bool j) rfl rfl (sh_bl i) (sh_bl j)]
  rw [PyData.eqv]
end
end FL
/-! FL13: loops and comprehensions by values; the tape of the laws. -/
namespace FL
open PySem L2

/-! ### loops -/
def QL (N : Env → Sto → Prop) (Q : Out → Sto → Prop) : Out → Sto → Prop := fun o S => match o with
  | .nx e => N e S
  | .ct e => N e S
  | .bk e => Q (.nx e) S
  | .rt d => Q (.rt d) S
@[simp] theorem QL_nx (N : Env → Sto → Prop) (Q : Out → Sto → Prop) (e : Env) (S : Sto) : QL N Q (.nx e) S ↔ N e S := Iff.rfl
@[simp] theorem QL_ct (N : Env → Sto → Prop) (Q : Out → Sto → Prop) (e : Env) (S : Sto) : QL N Q (.ct e) S ↔ N e S := Iff.rfl
@[simp] theorem QL_bk (N : Env → Sto → Prop) (Q : Out → Sto → Prop) (e : Env) (S : Sto) : QL N Q (.bk e) S ↔ Q (.nx e) S := Iff.rfl
@[simp] theorem QL_rt (N : Env → Sto → Prop) (Q : Out → Sto → Prop) (d : D) (S : Sto) : QL N Q (.rt d) S ↔ Q (.rt d) S := Iff.rfl
theorem w_for {fi : FI} {g : FG} {b : FS} {env : Env} {S : Sto} {Q : Out → Sto → Prop} : W (sFor fi g b env S) Q ↔ W (fi env S) fun it S1 => W (forI it g b (it.len + 1) 0 env S1) Q := by unfold sFor; simp
theorem for_inv {it : ItD} {ds : List D} {g : FG} {b : FS} {Q : Out → Sto → Prop} (Inv : Nat → Env → Sto → Prop) (hit : ∀ i env S, Inv i env S → it.it S i = some ds[i]?) (hlen : ds.length ≤ it.len)
    (step : ∀ i d env S, ds[i]? = some d → Inv i env S → W (g d env S) fun e1 S1 => W (b e1 S1) (QL (Inv (i + 1)) Q)) (fin : ∀ env S, Inv ds.length env S → Q (.nx env) S) {env : Env} {S : Sto} (h0 : Inv 0 env S) :
    W (forI it g b (it.len + 1) 0 env S) Q := by
  have key : ∀ (m i : Nat) (env : Env) (S : Sto), ds.length < i + m → i ≤ ds.length → Inv i env S → W (forI it g b m i env S) Q := by
    intro m
    induction m with
    | zero => intro i env S h1 h2; omega
    | succ m ih =>
      intro i env S h1 h2 hI
      unfold forI
      rw [hit i env S hI]
      by_cases hz : i < ds.length
      · rw [List.getElem?_eq_getElem hz]
        simp only [W_th]
        obtain ⟨e1, S1, q1, o, S2, q2, h⟩ := step i _ env S (List.getElem?_eq_getElem hz) hI
        refine ⟨e1, S1, q1, o, S2, q2, ?_⟩
        cases o with
        | nx e => exact ih (i + 1) e S2 (by omega) (by omega) h
        | ct e => exact ih (i + 1) e S2 (by omega) (by omega) h
        | bk e => simpa using h
        | rt d => simpa using h
      · have e : i = ds.length := by omega
        subst e
        rw [List.getElem?_eq_none (Nat.le_refl _)]
        simpa using fin env S hI
  exact key _ 0 env S (by omega) (Nat.zero_le _) h0
/-- a loop over a list that stays -/
theorem for_lst {n : Nat} {ds : List D} {g : FG} {b : FS} {Q : Out → Sto → Prop} (Inv : Nat → Env → Sto → Prop) (hit : ∀ i env S, Inv i env S → getL S n = some ds)
    (step : ∀ i d env S, ds[i]? = some d → Inv i env S → W (g d env S) fun e1 S1 => W (b e1 S1) (QL (Inv (i + 1)) Q)) (fin : ∀ env S, Inv ds.length env S → Q (.nx env) S) {env : Env} {S : Sto} (h0 : Inv 0 env S) :
    W (forI (.lst n ds.length) g b (ds.length + 1) 0 env S) Q :=
  for_inv (it := .lst n ds.length) Inv (fun i env S h => by unfold ItD.lst; simp [hit i env S h]) (Nat.le_refl _) step fin h0
theorem for_fix {ds : List D} {g : FG} {b : FS} {Q : Out → Sto → Prop} (Inv : Nat → Env → Sto → Prop)
    (step : ∀ i d env S, ds[i]? = some d → Inv i env S → W (g d env S) fun e1 S1 => W (b e1 S1) (QL (Inv (i + 1)) Q)) (fin : ∀ env S, Inv ds.length env S → Q (.nx env) S) {env : Env} {S : Sto} (h0 : Inv 0 env S) :
    W (forI (.fix ds) g b (ds.length + 1) 0 env S) Q :=
  for_inv (it := .fix ds) Inv (fun i env S h => rfl) (Nat.le_refl _) step fin h0
theorem rng_len (lo : Int) (n : Nat) : (rngD lo n).length = n := by simp [rngD]
theorem rng_get {lo : Int} {n i : Nat} {d : D} (h : (rngD lo n)[i]? = some d) : d = .int (lo + i) ∧ i < n := by
  have hl := (List.getElem?_eq_some_iff.mp h).1
  rw [rng_len] at hl
  unfold rngD at h
  rw [List.getElem?_map, List.getElem?_range hl] at h
  exact ⟨(Option.some.inj h).symm, hl⟩
/-- a loop over range(a, b) -/
theorem for_rng {lo : Int} {n : Nat} {g : FG} {b : FS} {Q : Out → Sto → Prop} (Inv : Nat → Env → Sto → Prop)
    (step : ∀ i env S, i < n → Inv i env S → W (g (.int (lo + i)) env S) fun e1 S1 => W (b e1 S1) (QL (Inv (i + 1)) Q)) (fin : ∀ env S, Inv n env S → Q (.nx env) S) {env : Env} {S : Sto} (h0 : Inv 0 env S) :
    W (forI (.fix (rngD lo n)) g b ((rngD lo n).length + 1) 0 env S) Q :=
  for_fix Inv (fun i d env S h q => by obtain ⟨rfl, hl⟩ := rng_get h; exact step i env S hl q) (fun env S q => fin env S (by rw [rng_len] at q; exact q)) h0
section
variable {env : Env} {S : Sto} {QI : ItD → Sto → Prop}
theorem w_iseqL {fe : FE} (h : W (fe env S) fun d S1 => ∃ n ds, d = .ref n ∧ getL S1 n = some ds ∧ QI (.lst n ds.length) S1) : W (iSeq fe env S) QI := by
  unfold iSeq
  rw [W_th]
  obtain ⟨d, S1, e, n, ds, rfl, h, q⟩ := h
  refine ⟨_, S1, e, ?_⟩
  unfold getL at h
  simp only
  split at h
  · rename_i e1
    cases h
    simpa [e1] using q
  · rename_i e1
    cases h
    simpa [e1] using q
  · cases h
theorem w_iseqT {fe : FE} (h : W (fe env S) fun d S1 => ∃ ds, d = .tup ds ∧ QI (.fix ds) S1) : W (iSeq fe env S) QI := by
  unfold iSeq
  rw [W_th]
  obtain ⟨d, S1, e, ds, rfl, q⟩ := h
  exact ⟨_, S1, e, by simpa using q⟩
theorem w_rng1 {fr : FA} (h : W (fr env S) fun ds S1 => ∃ j : Int, ds = [.int j] ∧ -4611686018427387904 ≤ j ∧ j < 4611686018427387904 ∧ QI (.fix (rngD 0 j.toNat)) S1) : W (iRng1 fr env S) QI := by
  unfold iRng1
  rw [W_th]
  obtain ⟨d, S1, e, j, rfl, h1, h2, q⟩ := h
  exact ⟨_, S1, e, by simpa [h1, h2] using q⟩
theorem w_rng2 {fr : FA} (h : W (fr env S) fun ds S1 => ∃ i j : Int, ds = [.int i, .int j] ∧ -4611686018427387904 ≤ i ∧ i < 4611686018427387904 ∧ -4611686018427387904 ≤ j ∧ j < 4611686018427387904 ∧ QI (.fix (rngD i (j - i).toNat)) S1) : W (iRng2 fr env S) QI := by
  unfold iRng2
  rw [W_th]
  obtain ⟨d, S1, e, i, j, rfl, h1, h2, h3, h4, q⟩ := h
  exact ⟨_, S1, e, by simpa [h1, h2, h3, h4] using q⟩
end

/-! ### list comprehensions -/
theorem lc_inv {it : ItD} {ds : List D} {g : FG} {tt : FT} {te : FE} {n : Nat} {env : Env} (Inv : Nat → List D → Sto → Prop)
    (hit : ∀ i acc S, Inv i acc S → S[n]? = some (.lst acc) → it.it S i = some ds[i]?) (hlen : ds.length ≤ it.len)
    (step : ∀ i d acc S, ds[i]? = some d → Inv i acc S → S[n]? = some (.lst acc) → W (g d env S) fun e1 S1 => W (tt e1 S1) fun k S2 =>
      if k = true then W (te e1 S2) fun y S3 => S3[n]? = some (.lst acc) ∧ acc.length < cap ∧ Inv (i + 1) (acc ++ [y]) (S3.set n (.lst (acc ++ [y]))) else S2[n]? = some (.lst acc) ∧ Inv (i + 1) acc S2)
    {S : Sto} (h0 : Inv 0 [] S) (hn : S[n]? = some (.lst [])) : ∃ S' acc, lcI it g tt te n env (it.len + 1) 0 S = some S' ∧ S'[n]? = some (.lst acc) ∧ Inv ds.length acc S' := by
  have key : ∀ (m i : Nat) (acc : List D) (S : Sto), ds.length < i + m → i ≤ ds.length → Inv i acc S → S[n]? = some (.lst acc) → ∃ S' acc', lcI it g tt te n env m i S = some S' ∧ S'[n]? = some (.lst acc') ∧ Inv ds.length acc' S' := by
    intro m
    induction m with
    | zero => intro i acc S h1 h2; omega
    | succ m ih =>
      intro i acc S h1 h2 hI hn
      unfold lcI
      rw [hit i acc S hI hn]
      by_cases hz : i < ds.length
      · rw [List.getElem?_eq_getElem hz]
        obtain ⟨e1, S1, q1, k, S2, q2, h⟩ := step i _ acc S (List.getElem?_eq_getElem hz) hI hn
        simp only [q1, th_some, q2]
        cases k with
        | true =>
          rw [if_pos rfl] at h ⊢
          obtain ⟨y, S3, q3, h1', h2', h3'⟩ := h
          simp only [q3, th_some, h1', if_pos h2']
          exact ih (i + 1) _ _ (by omega) (by omega) h3' (set_at h1')
        | false =>
          rw [if_neg Bool.false_ne_true] at h ⊢
          exact ih (i + 1) acc S2 (by omega) (by omega) h.2 h.1
      · have e : i = ds.length := by omega
        subst e
        rw [List.getElem?_eq_none (Nat.le_refl _)]
        exact ⟨S, acc, rfl, hn, hI⟩
  exact key _ 0 [] S (by omega) (Nat.zero_le _) h0 hn
theorem w_lc {fi : FI} {g : FG} {tt : FT} {te : FE} {vs : List Nat} {env : Env} {S : Sto} {Q : D → Sto → Prop}
    (h : W (fi env S) fun it S1 => ∃ S2, lcI it g tt te S1.length (wipeE env vs) (it.len + 1) 0 (S1 ++ [.lst []]) = some S2 ∧ Q (.ref S1.length) S2) : W (eLc fi g tt te vs env S) Q := by
  unfold eLc
  rw [W_th]
  obtain ⟨it, S1, e, S2, e2, q⟩ := h
  refine ⟨it, S1, e, ?_⟩
  simpa [e2] using q
/-- a comprehension whose elements are values of the items -/
theorem w_lcm {fi : FI} {g : FG} {tt : FT} {te : FE} {vs : List Nat} {env : Env} {S : Sto} {Q : D → Sto → Prop} {ds : List D} (v : D → D) (p : D → Bool)
    (hi : W (fi env S) fun it S1 => Ap S S1 ∧ ds.length ≤ it.len ∧ ∀ S2, Ap S1 S2 → ∀ i, it.it S2 i = some ds[i]?)
    (hb : ∀ d ∈ ds, ∀ S2, Ap S S2 → W (g d (wipeE env vs) S2) fun e1 S3 => W (tt e1 S3) fun k S4 => k = p d ∧ Ap S2 S4 ∧ (p d = true → W (te e1 S4) fun y S5 => y = v d ∧ Ap S4 S5))
    (hl : ds.length ≤ cap)
    (hq : ∀ n S', Ap S S' → S.length ≤ n → S'[n]? = some (.lst ((ds.filter p).map v)) → Q (.ref n) S') : W (eLc fi g tt te vs env S) Q := by
  refine w_lc ?_
  obtain ⟨it, S1, e, a1, hlen, hit⟩ := hi
  refine ⟨it, S1, e, ?_⟩
  refine Exists.elim (lc_inv (it := it) (ds := ds) (g := g) (tt := tt) (te := te) (n := S1.length) (env := wipeE env vs) (S := S1 ++ [.lst []]) (fun i acc S' => Ap S1 S' ∧ acc = ((ds.take i).filter p).map v ∧ acc.length ≤ i)
    (fun i acc S' h _ => hit S' h.1 i) hlen (fun i d acc S' hd hI hn => ?_) ⟨Ap.app _ _, rfl, Nat.le_refl _⟩ (new_at _ _)) (fun S2 hh => ?_)
  · obtain ⟨aS, ea, la⟩ := hI
    have hi' := (List.getElem?_eq_some_iff.mp hd).1
    obtain ⟨e1, S3, q1, k, S4, q2, rfl, a4, h⟩ := hb d (List.mem_of_getElem? hd) S' (a1.trans aS)
    refine ⟨e1, S3, q1, _, S4, q2, ?_⟩
    have tk : ds.take (i + 1) = ds.take i ++ [d] := by rw [List.take_add_one, hd]; rfl
    cases hp : p d with
    | true =>
      refine iteT ?_
      obtain ⟨y, S5, q3, rfl, a5⟩ := h hp
      refine ⟨_, S5, q3, a5 _ _ (a4 _ _ hn), by omega, (aS.trans (a4.trans a5)).set (Nat.le_refl _), ?_, by simp; omega⟩
      rw [tk, List.filter_append, List.map_append, ea]
      simp [hp]
    | false =>
      refine iteF ?_
      refine ⟨a4 _ _ hn, aS.trans a4, ?_, by omega⟩
      rw [tk, List.filter_append, List.map_append, ea]
      simp [hp]
  · obtain ⟨acc, e2, e3, a2, e4, _⟩ := hh
    rw [List.take_length] at e4
    rw [e4] at e3
    exact ⟨S2, e2, hq _ _ (a1.trans a2) a1.len e3⟩
theorem filter_yes {α : Type} (ds : List α) : ds.filter (fun _ => true) = ds := List.filter_eq_self.mpr fun _ _ => rfl
@[simp] theorem w_yes {env : Env} {S : Sto} {QT : Bool → Sto → Prop} : W (tYs env S) QT ↔ QT true S := W_some ..

/-! ### the tape -/
def tapeKV (m : Nat) (a l s t : Int) : List (Key × D) := [(.inr "cells", .ref m), (.inr "at", .int a), (.inr "left", .int l), (.inr "seed", .int s), (.inr "salt", .int t)]
def Tape (S : Sto) (n m : Nat) : Prop := ∃ (cells : List Int) (a l s t : Int), S[n]? = some (.dic (tapeKV m a l s t)) ∧ S[m]? = some (.lst (cells.map D.int)) ∧ (∀ x ∈ cells, 0 ≤ x) ∧ 0 ≤ a ∧ 0 ≤ l ∧ 0 ≤ s ∧ s < 2147483647 ∧ 0 ≤ t
theorem Tape.ap {S S' : Sto} {n m : Nat} (h : Tape S n m) (a : Ap S S') : Tape S' n m := by
  obtain ⟨cells, x1, x2, x3, x4, h1, h2, h3⟩ := h
  exact ⟨cells, x1, x2, x3, x4, a _ _ h1, a _ _ h2, h3⟩
theorem Tape.lt {S : Sto} {n m : Nat} (h : Tape S n m) : n < S.length := by
  obtain ⟨cells, x1, x2, x3, x4, h1, _⟩ := h
  exact lt_of_at h1
theorem Tape.ltm {S : Sto} {n m : Nat} (h : Tape S n m) : m < S.length := by
  obtain ⟨cells, x1, x2, x3, x4, h1, h2, _⟩ := h
  exact lt_of_at h2
theorem Tape.ne {S : Sto} {n m q : Nat} {ds : List D} (h : Tape S n m) (g : S[q]? = some (.lst ds)) : q ≠ n := fun e => by
  obtain ⟨cells, x1, x2, x3, x4, h1, _⟩ := h
  rw [e, h1] at g
  cases g
theorem Tape.set {S : Sto} {n m q : Nat} {o : O} (h : Tape S n m) (h1 : q ≠ n) (h2 : q ≠ m) : Tape (S.set q o) n m := by
  obtain ⟨cells, x1, x2, x3, x4, g1, g2, h3⟩ := h
  exact ⟨cells, x1, x2, x3, x4, by rw [List.getElem?_set_ne h1]; exact g1, by rw [List.getElem?_set_ne h2]; exact g2, h3⟩
theorem Kn.setO {n q : Nat} {S S1 : Sto} {o : O} (h : Kn n S S1) (hq : S.length ≤ q) : Kn n S (S1.set q o) := fun m o' z e => by
  have := (List.getElem?_eq_some_iff.mp e).1
  rw [List.getElem?_set_ne (by omega)]
  exact h m o' z e
theorem v_cells (m : Nat) (a l s t : Int) : valG (tapeKV m a l s t) (.inr "cells") = some (.ref m) := by rfl
theorem v_at (m : Nat) (a l s t : Int) : valG (tapeKV m a l s t) (.inr "at") = some (.int a) := by rfl
theorem v_left (m : Nat) (a l s t : Int) : valG (tapeKV m a l s t) (.inr "left") = some (.int l) := by rfl
theorem v_seed (m : Nat) (a l s t : Int) : valG (tapeKV m a l s t) (.inr "seed") = some (.int s) := by rfl
theorem v_salt (m : Nat) (a l s t : Int) : valG (tapeKV m a l s t) (.inr "salt") = some (.int t) := by rfl
theorem p_at (m : Nat) (a l s t x : Int) : putG (tapeKV m a l s t) (.inr "at") (.int x) = tapeKV m x l s t := by rfl
theorem p_left (m : Nat) (a l s t x : Int) : putG (tapeKV m a l s t) (.inr "left") (.int x) = tapeKV m a x s t := by rfl
theorem p_salt (m : Nat) (a l s t x : Int) : putG (tapeKV m a l s t) (.inr "salt") (.int x) = tapeKV m a l s x := by rfl
theorem tyDic {n : Nat} {kvs : List (Key × D)} {S : Sto} (h : S[n]? = some (.dic kvs)) : getL S n = none := by unfold getL; rw [h]
theorem w_setS {n : Nat} {kvs : List (Key × D)} {S : Sto} {env : Env} {fo : FE} {x : Str} {d : D} {QE : Env → Sto → Prop} (ho : fo env S = some (.ref n, S)) (h : S[n]? = some (.dic kvs)) (hz : kvs.length < cap) : W (gIx fo (eC (.str x)) d env S) QE ↔ QE env (S.set n (.dic (putG kvs (.inr x) d))) := by
  unfold gIx
  rw [ho]
  simp [eC, h, keyD, hz]
def b_take : FS := sSeq (sIf (tAnd (tB (eBin oEq (eBin oIx (eVar 0) (eC (.str "left"))) (eC (.int 0)))) (tB (eBin oLt (eBin oIx (eVar 0) (eC (.str "at"))) (eCall fLen (aCons (eBin oIx (eVar 0) (eC (.str "cells"))) (aNil)))))) (sSeq (sAsg (eBin oIx (eBin oIx (eVar 0) (eC (.str "cells"))) (eBin oIx (eVar 0) (eC (.str "at")))) (gIx (eVar 0) (eC (.str "left")))) (sAsg (eBin oAdd (eBin oIx (eVar 0) (eC (.str "at"))) (eC (.int 1))) (gIx (eVar 0) (eC (.str "at"))))) (sNil)) (sSeq (sIf (tB (eBin oGt (eBin oIx (eVar 0) (eC (.str "left"))) (eC (.int 0)))) (sSeq (sAsg (eBin oMod (eCall fInt (aCons (eBin oIx (eVar 0) (eC (.str "left"))) (aNil))) (eVar 1)) (gNm 2)) (sSeq (sAsg (eBin oDiv (eBin oIx (eVar 0) (eC (.str "left"))) (eVar 1)) (gIx (eVar 0) (eC (.str "left")))) (sRet (eVar 2)))) (sNil)) (sSeq (sAsg (eBin oAdd (eBin oIx (eVar 0) (eC (.str "salt"))) (eC (.int 1))) (gIx (eVar 0) (eC (.str "salt")))) (sSeq (sAsg (eBin oMod (eCall fInt (aCons (eBin oAdd (eBin oMul (eBin oIx (eVar 0) (eC (.str "seed"))) (eC (.int 48271))) (eBin oMul (eBin oIx (eVar 0) (eC (.str "salt"))) (eC (.int 69621)))) (aNil))) (eC (.int 2147483647))) (gNm 3)) (sSeq (sAsg (eBin oMod (eCall fInt (aCons (eBin oAdd (eBin oAdd (eBin oMul (eVar 3) (eVar 3)) (eBin oMul (eBin oIx (eVar 0) (eC (.str "salt"))) (eC (.int 40692)))) (eC (.int 12345))) (aNil))) (eC (.int 2147483399))) (gNm 3)) (sRet (eBin oMod (eCall fInt (aCons (eVar 3) (aNil))) (eVar 1)))))))
def f_take : FF := fnF 4 2 b_take
theorem getL_dic {n : Nat} {kvs : List (Key × D)} {S : Sto} (h : S[n]? = some (.dic kvs)) : getL S n = none := by unfold getL; rw [h]
theorem tk_small (m : Nat) (a l s t : Int) : (tapeKV m a l s t).length < cap := by show 5 < 10000000; decide
theorem set_same {S : Sto} {n : Nat} {o : O} (h : S[n]? = some o) : S.set n o = S := by
  apply List.ext_getElem?
  intro i
  by_cases e : n = i
  · subst e
    rw [set_at h, h]
  · rw [List.getElem?_set_ne e]
abbrev e4 (n : Nat) (k : Int) (x y : Option D) : Env := [some (.ref n), some (.int k), x, y]
section
variable {S : Sto} {n m : Nat} {k a l s t : Int} {x y : Option D} {Q : D → Sto → Prop}
theorem w_v0 : W (eVar 0 (e4 n k x y) S) Q ↔ Q (.ref n) S := w_var rfl
theorem w_v1 : W (eVar 1 (e4 n k x y) S) Q ↔ Q (.int k) S := w_var rfl
theorem w_v2 {d : D} : W (eVar 2 (e4 n k (some d) y) S) Q ↔ Q d S := w_var rfl
theorem w_v3 {d : D} : W (eVar 3 (e4 n k x (some d)) S) Q ↔ Q d S := w_var rfl
theorem w_tg {z : Str} {d : D} {QE : Env → Sto → Prop} (h : S[n]? = some (.dic (tapeKV m a l s t))) : W (gIx (eVar 0) (eC (.str z)) d (e4 n k x y) S) QE ↔ QE (e4 n k x y) (S.set n (.dic (putG (tapeKV m a l s t) (.inr z) d))) := w_setS rfl h (tk_small ..)
end
/-- a number below k is taken from the tape -/
theorem take_ok {S : Sto} {n m : Nat} {k : Int} (hT : Tape S n m) (hk : 0 < k) (hk2 : k < 18446744073709551616) : W (f_take [.ref n, .int k] S) fun d S' => ∃ r, d = .int r ∧ 0 ≤ r ∧ r < k ∧ Kn n S S' ∧ Tape S' n m ∧ S'.length = S.length := by
  obtain ⟨cells, a, l, s, t, h1, h2, hc, ha, hl, hs0, hs1, ht⟩ := hT
  have hmn : m ≠ n := fun e => by rw [e, h1] at h2; cases h2
  refine w_fn rfl ?_
  show W (b_take (e4 n k none none) S) _
  unfold b_take
  rw [w_seq]
  have first : ∀ Q : Out → Sto → Prop, (∀ a l, 0 ≤ a → 0 ≤ l → Q (.nx (e4 n k none none)) (S.set n (.dic (tapeKV m a l s t)))) →
      W (sIf (tAnd (tB (eBin oEq (eBin oIx (eVar 0) (eC (.str "left"))) (eC (.int 0)))) (tB (eBin oLt (eBin oIx (eVar 0) (eC (.str "at"))) (eCall fLen (aCons (eBin oIx (eVar 0) (eC (.str "cells"))) (aNil)))))) (sSeq (sAsg (eBin oIx (eBin oIx (eVar 0) (eC (.str "cells"))) (eBin oIx (eVar 0) (eC (.str "at")))) (gIx (eVar 0) (eC (.str "left")))) (sAsg (eBin oAdd (eBin oIx (eVar 0) (eC (.str "at"))) (eC (.int 1))) (gIx (eVar 0) (eC (.str "at"))))) (sNil) (e4 n k none none) S) Q := by
    intro Q hQ
    have same : Q (.nx (e4 n k none none)) S := by
      have := hQ a l ha hl
      rw [set_same h1] at this
      exact this
    simp only [w_sif, w_tAnd, w_tB, w_bin, w_v0, w_c, w_ixDs h1 (v_left m a l s t), w_eqI, D.bl.injEq, exists_eq_left']
    by_cases e : l = 0
    · simp only [e, decide_true, if_true, w_ixDs h1 (v_at m a l s t), w_ixDs h1 (v_cells m a l s t), w_call, w_acons, w_anil, w_bin, w_v0, w_c, w_tB, w_len (getL_of h2), w_lt, D.bl.injEq, exists_eq_left', List.length_map]
      by_cases e2 : a < cells.length
      · obtain ⟨j, rfl⟩ : ∃ j : Nat, a = j := ⟨a.toNat, by omega⟩
        have hj : j < cells.length := by omega
        have e3 : (cells.map D.int)[j]? = some (.int cells[j]) := by rw [List.getElem?_map, List.getElem?_eq_getElem hj]; rfl
        have h1' := set_at (o' := .dic (tapeKV m j cells[j] s t)) h1
        simp only [e2, decide_true, if_true, w_seq, w_asg, w_bin, w_v0, w_c, w_ixDs h1 (v_at m j l s t), w_ixDs h1 (v_cells m j l s t), w_ixL (getL_of h2) (atI_nat e3), w_tg h1, p_left, QS_nx, w_ixDs h1' (v_at m j cells[j] s t), w_add, w_tg h1', p_at, List.set_set]
        exact hQ _ _ (by omega) (hc _ (List.getElem_mem hj))
      · simpa [e2] using same
    · simpa [e] using same
  refine first _ fun a l ha ha0 => ?_
  clear first
  have h1' := set_at (o' := .dic (tapeKV m a l s t)) h1
  have h2' : (S.set n (.dic (tapeKV m a l s t)))[m]? = some (.lst (cells.map D.int)) := by rw [List.getElem?_set_ne hmn.symm]; exact h2
  have kn := Kn.set n S (.dic (tapeKV m a l s t))
  have ln : (S.set n (.dic (tapeKV m a l s t))).length = S.length := List.length_set
  generalize S.set n (.dic (tapeKV m a l s t)) = S1 at h1' h2' kn ln
  have fin : ∀ (l t : Int), 0 ≤ l → 0 ≤ t → Kn n S (S1.set n (.dic (tapeKV m a l s t))) ∧ Tape (S1.set n (.dic (tapeKV m a l s t))) n m ∧ (S1.set n (.dic (tapeKV m a l s t))).length = S.length := by
    intro l t q3 q4
    refine ⟨kn.trans (Kn.set _ _ _), ⟨cells, a, l, s, t, set_at h1', by rw [List.getElem?_set_ne hmn.symm]; exact h2', hc, ha, q3, hs0, hs1, q4⟩, by rw [List.length_set, ln]⟩
  have md : ∀ x : Int, 0 ≤ x % k ∧ x % k < k := fun x => ⟨Int.emod_nonneg _ (by omega), Int.emod_lt_of_pos _ hk⟩
  simp only [QS_nx, w_seq, w_sif, w_tB, w_bin, w_v0, w_v1, w_c, w_ixDs h1' (v_left m a l s t), w_gt, D.bl.injEq, exists_eq_left']
  by_cases e : 0 < l
  · have h3 := set_at (o' := .dic (tapeKV m a (l / k) s t)) h1'
    simp only [e, decide_true, if_true, w_seq, w_asg, w_bin, w_call, w_acons, w_anil, w_v0, w_v1, w_c, w_ixDs h1' (v_left m a l s t), w_int, w_mod hk, w_gnm, QS_nx, List.set_cons_succ, List.set_cons_zero, w_div hk hk2]
    rw [w_tg h1', p_left]
    simp only [QS_nx, w_ret, w_v2, QS_rt, QF_rt]
    obtain ⟨f1, f2, f3⟩ := fin (l / k) t (Int.ediv_nonneg ha0 (by omega)) ht
    exact ⟨_, rfl, (md l).1, (md l).2, f1, f2, f3⟩
  · have h3 := set_at (o' := .dic (tapeKV m a l s (t + 1))) h1'
    have ok1 : okMul s 48271 = true := okMul_r (by decide) (by decide)
    have ok2 : okMul (t + 1) 69621 = true := okMul_r (by decide) (by decide)
    have ok3 : okMul (t + 1) 40692 = true := okMul_r (by decide) (by decide)
    have ok4 : okMul ((s * 48271 + (t + 1) * 69621) % 2147483647) ((s * 48271 + (t + 1) * 69621) % 2147483647) = true := by
      have q1 := Int.emod_nonneg (s * 48271 + (t + 1) * 69621) (show (2147483647 : Int) ≠ 0 by decide)
      have q2 := Int.emod_lt_of_pos (s * 48271 + (t + 1) * 69621) (show (0 : Int) < 2147483647 by decide)
      exact okMul_l (by omega) (by omega)
    simp only [e, decide_false, Bool.false_eq_true, if_false, w_nil, QS_nx, w_seq, w_asg, w_bin, w_v0, w_c, w_ixDs h1' (v_salt m a l s t), w_add]
    rw [w_tg h1', p_salt]
    simp only [QS_nx, w_seq, w_asg, w_bin, w_call, w_acons, w_anil, w_v0, w_v1, w_v3, w_c, w_ixDs h3 (v_salt m a l s (t + 1)), w_ixDs h3 (v_seed m a l s (t + 1)), w_mul ok1, w_mul ok2, w_mul ok3, w_add, w_int, w_mod (show (0 : Int) < 2147483647 by decide), w_mod (show (0 : Int) < 2147483399 by decide), w_gnm, List.set_cons_succ, List.set_cons_zero, w_mul ok4, w_ret, w_mod hk, QF_rt, QS_rt]
    obtain ⟨f1, f2, f3⟩ := fin l (t + 1) ha0 (by omega)
    exact ⟨_, rfl, (md _).1, (md _).2, f1, f2, f3⟩
end FL
/-! FL14: the tape is made. -/
namespace FL
open PySem L2
theorem w_dic {fr : FA} {env : Env} {S : Sto} {Q : D → Sto → Prop} (h : W (fr env (S ++ [.dic []])) fun ds S1 => S1[S.length]? = some (.dic []) ∧ ∃ ps, pairD ds = some ps ∧ ps.length ≤ 15 ∧ Q (.ref S.length) (S1.set S.length (.dic (mergeG [] ps)))) : W (eDic fr env S) Q := by
  unfold eDic
  rw [W_th]
  obtain ⟨ds, S1, e, h1, ps, h2, h3, q⟩ := h
  refine ⟨ds, S1, e, ?_⟩
  simpa [h1, h2, h3] using q
def b_tape : FS := sSeq (sAsg (eLc (iSeq (eVar 0)) (gNm 3) (tYs) (eCall fAbs (aCons (eCall fInt (aCons (eVar 3) (aNil))) (aNil))) [3]) (gNm 1)) (sSeq (sAsg (eC (.int 7)) (gNm 2)) (sSeq (sFor (iSeq (eVar 1)) (gNm 3) (sAsg (eBin oMod (eCall fInt (aCons (eBin oAdd (eBin oMul (eVar 2) (eC (.int 31))) (eVar 3)) (aNil))) (eC (.int 2147483647))) (gNm 2))) (sRet (eDic (aPairs [(eC (.str "cells"), eVar 1), (eC (.str "at"), eC (.int 0)), (eC (.str "left"), eC (.int 0)), (eC (.str "seed"), eVar 2), (eC (.str "salt"), eC (.int 0))])))))
def f_tape : FF := fnF 4 1 b_tape
def absI (i : Int) : Int := if i < 0 then -i else i
theorem absI_nn (i : Int) : 0 ≤ absI i := by unfold absI; split <;> omega
theorem tape_ok {ns : List Int} (hl : ns.length ≤ 63) : W (f_tape [.ref 0] [.ro (ns.map D.int)]) fun d S' => ∃ n m, d = .ref n ∧ Tape S' n m := by
  have g0 : getL [.ro (ns.map D.int)] 0 = some (ns.map D.int) := getL_ro rfl
  refine w_fn rfl ?_
  show W (b_tape [some (.ref 0), none, none, none] _) _
  unfold b_tape
  simp only [w_seq, w_asg]
  refine w_lcm (ds := ns.map D.int) (fun d => match d with | .int i => .int (absI i) | d => d) (fun _ => true) ?_ ?_ (by simp [cap]; omega) ?_
  · refine w_iseqL ((w_var rfl).mpr ⟨0, _, rfl, g0, Ap.refl _, Nat.le_refl _, fun S2 a i => ?_⟩)
    unfold ItD.lst
    simp [getL_ap g0 a]
  · intro d hd S2 a
    obtain ⟨i, _, rfl⟩ := List.mem_map.mp hd
    simp only [w_gnm, w_yes, w_call, w_acons, w_anil, wipeE, List.set_cons_succ, List.set_cons_zero]
    refine ⟨trivial, Ap.refl _, fun _ => ?_⟩
    refine (w_var rfl).mpr ?_
    simp only [w_int, w_abs]
    exact ⟨rfl, Ap.refl _⟩
  · intro n S1 a1 ln g1
    rw [filter_yes, List.map_map] at g1
    have g1 : S1[n]? = some (.lst ((ns.map absI).map D.int)) := by
      rw [g1, List.map_map]
      rfl
    simp only [w_gnm, List.set_cons_succ, List.set_cons_zero, QS_nx, w_seq, w_asg, w_c]
    rw [w_for]
    refine w_iseqL ((w_var rfl).mpr ⟨n, _, rfl, getL_of g1, ?_⟩)
    refine for_lst (n := n) (ds := (ns.map absI).map D.int) (fun i env S => ∃ (s : Int) (y : Option D), env = [some (.ref 0), some (.ref n), some (.int s), y] ∧ 0 ≤ s ∧ s < 2147483647 ∧ S = S1) (fun i env S ⟨_, _, _, _, _, e⟩ => by rw [e]; exact getL_of g1) ?_ ?_ ⟨7, none, rfl, by decide, by decide, rfl⟩
    · rintro i d env S hd ⟨s, y, rfl, h1, h2, rfl⟩
      obtain ⟨z, _, rfl⟩ := List.mem_map.mp (List.mem_of_getElem? hd)
      simp only [w_gnm, List.set_cons_succ, List.set_cons_zero, w_asg, w_bin, w_call, w_acons, w_anil]
      refine (w_var rfl).mpr ?_
      rw [w_c, w_mul (okMul_r (by decide) (by decide))]
      refine (w_var rfl).mpr ?_
      simp only [w_add, w_int, w_c, w_mod (show (0 : Int) < 2147483647 by decide), w_gnm, List.set_cons_succ, List.set_cons_zero, QL_nx]
      exact ⟨_, _, rfl, Int.emod_nonneg _ (by decide), Int.emod_lt_of_pos _ (by decide), trivial⟩
    · rintro env S ⟨s, y, rfl, h1, h2, rfl⟩
      rw [QS_nx, w_ret]
      refine w_dic ?_
      unfold aPairs aPairs aPairs aPairs aPairs aPairs
      simp only [w_acons, w_anil, w_c]
      refine (w_var rfl).mpr ?_
      refine (w_var rfl).mpr ?_
      have ne : n ≠ S.length := by
        have := lt_of_at g1
        omega
      refine ⟨new_at _ _, _, rfl, (by show 5 ≤ 15; decide), ?_⟩
      rw [QF_rt]
      refine ⟨S.length, n, rfl, ns.map absI, 0, 0, s, 0, set_at (new_at _ _), ?_, ?_, by decide, by decide, h1, h2, by decide⟩
      · rw [List.getElem?_set_ne ne.symm, List.getElem?_append_left (lt_of_at g1)]
        exact g1
      · intro x hx
        obtain ⟨z, _, rfl⟩ := List.mem_map.mp hx
        exact absI_nn z
end FL
/-! FL15: more of the values: slots, while, lists of optional numbers. -/
namespace FL
open PySem L2
section
variable {env : Env} {S : Sto} {Q : D → Sto → Prop} {QS' : Out → Sto → Prop} {QA : List D → Sto → Prop} {QT : Bool → Sto → Prop} {QE : Env → Sto → Prop}
theorem w_ev (i : Nat) : W (eVar i env S) Q ↔ match env[i]? with
    | some (some d) => Q d S
    | _ => False := by
  unfold eVar
  cases h : env[i]? with
  | none => simp
  | some x => cases x <;> simp
theorem w_gtp2 (gs : FGs) (a b : D) : W (gTp 2 gs (.tup [a, b]) env S) QE ↔ W (gs [a, b] env S) QE := w_gtp rfl
theorem w_gtp3 (gs : FGs) (a b c : D) : W (gTp 3 gs (.tup [a, b, c]) env S) QE ↔ W (gs [a, b, c] env S) QE := w_gtp rfl
theorem w_ixT0 (a : D) (r : List D) : W (oIx (.tup (a :: r)) (.int 0) S) Q ↔ Q a S := w_ixT (atI_nat (k := 0) rfl)
theorem w_ixT1 (a b : D) (r : List D) : W (oIx (.tup (a :: b :: r)) (.int 1) S) Q ↔ Q b S := w_ixT (atI_nat (k := 1) rfl)
theorem w_ixT2 (a b c : D) (r : List D) : W (oIx (.tup (a :: b :: c :: r)) (.int 2) S) Q ↔ Q c S := w_ixT (atI_nat (k := 2) rfl)
theorem w_ch (fa : FE) (t : FC2) : W (eCh fa t env S) Q ↔ W (fa env S) fun x S1 => W (t x env S1) Q := by unfold eCh; simp
theorem w_chL (r : F2) (fb : FE) (x : D) : W (chL r fb x env S) Q ↔ W (fb env S) fun y S1 => W (r x y S1) Q := by unfold chL; simp
theorem w_chK (r : F2) (fb : FE) (t : FC2) (x : D) : W (chK r fb t x env S) Q ↔ W (fb env S) fun y S1 => W (r x y S1) fun k S2 => match k with
    | .bl b => if b = true then W (t y env S2) Q else Q (.bl false) S2
    | _ => False := by
  unfold chK
  rw [W_th]
  have key : ∀ (y : D) (S1 : Sto), W (th (r x y S1) fun k S2 => match k with
      | .bl true => t y env S2
      | .bl false => some (.bl false, S2)
      | _ => none) Q ↔ W (r x y S1) fun k S2 => match k with
      | .bl b => if b = true then W (t y env S2) Q else Q (.bl false) S2
      | _ => False := by
    intro y S1
    rw [W_th]
    constructor <;>
    · rintro ⟨k, S2, e, h⟩
      refine ⟨k, S2, e, ?_⟩
      cases k with
      | bl b => cases b <;> simpa using h
      | _ => simp at h
  constructor
  · rintro ⟨y, S1, e, h⟩
    exact ⟨y, S1, e, (key y S1).mp h⟩
  · rintro ⟨y, S1, e, h⟩
    exact ⟨y, S1, e, (key y S1).mpr h⟩
theorem w_par2 (i j : Nat) (fr : FA) : W (sPar [i, j] fr env S) QS' ↔ W (fr env S) fun ds S1 => match ds with
    | [a, b] => QS' (.nx ((env.set i (some a)).set j (some b))) S1
    | _ => False := by
  rw [w_par]
  constructor
  · rintro ⟨ds, S1, e, h, q⟩
    match ds, h, q with
    | [a, b], _, q => exact ⟨_, S1, e, q⟩
  · rintro ⟨ds, S1, e, h⟩
    refine ⟨ds, S1, e, ?_⟩
    match ds, h with
    | [a, b], q => exact ⟨rfl, q⟩
theorem w_par3 (i j l : Nat) (fr : FA) : W (sPar [i, j, l] fr env S) QS' ↔ W (fr env S) fun ds S1 => match ds with
    | [a, b, c] => QS' (.nx (((env.set i (some a)).set j (some b)).set l (some c))) S1
    | _ => False := by
  rw [w_par]
  constructor
  · rintro ⟨ds, S1, e, h, q⟩
    match ds, h, q with
    | [a, b, c], _, q => exact ⟨_, S1, e, q⟩
  · rintro ⟨ds, S1, e, h⟩
    refine ⟨ds, S1, e, ?_⟩
    match ds, h with
    | [a, b, c], q => exact ⟨rfl, q⟩
theorem w_app {n : Nat} {us : List D} {d : D} (h : S[n]? = some (.lst us)) (hz : us.length < cap) : W (mAppend (.ref n) [d] S) Q ↔ Q .non (S.set n (.lst (us ++ [d]))) := by
  unfold mAppend
  simp [h, hz]
theorem w_popI {n k : Nat} {us : List D} {d : D} (h : S[n]? = some (.lst us)) (hk : us[k]? = some d) (hz : k < 1000000) : W (mPop (.ref n) [.int k] S) Q ↔ Q d (S.set n (.lst (us.eraseIdx k))) := by
  have hl := (List.getElem?_eq_some_iff.mp hk).1
  have e : seqIndex? (k : Int) us.length = some k := by
    have := ixN_seq (n := us.length) (i := k) (j := k) (by unfold ixN; rw [if_pos (by omega), if_pos (by omega)]; simp)
    exact this.1
  unfold mPop
  have z1 : (-1000000 : Int) ≤ (k : Int) := by omega
  have z2 : (k : Int) < 1000000 := by omega
  simp [h, e, hk, z1, z2]
theorem w_cat {n m : Nat} {xs ys : List D} (h1 : S[n]? = some (.lst xs)) (h2 : S[m]? = some (.lst ys)) (hz : xs.length + ys.length ≤ cap) : W (oAdd (.ref n) (.ref m) S) Q ↔ W (some (D.ref S.length, S ++ [.lst (xs ++ ys)])) Q := by
  unfold oAdd
  simp only [h1, h2, hz, if_true]
/-- optional numbers -/
def od : Option Int → D
  | none => .non
  | some i => .int i
theorem inD_od : ∀ xs : List (Option Int), inD .non (xs.map od) = decide (none ∈ xs)
  | [] => rfl
  | none :: xs => by simp [inD, od, eqD]
  | some i :: xs => by
    have := inD_od xs
    unfold inD at this ⊢
    rw [List.map_cons, List.any_cons, this]
    simp [od, eqD]
theorem flat_od (xs : List (Option Int)) : (xs.map od).all flatD = true := by
  rw [List.all_eq_true]
  intro d hd
  obtain ⟨x, _, rfl⟩ := List.mem_map.mp hd
  cases x <;> rfl
theorem w_inN {n : Nat} {xs : List (Option Int)} (h : getL S n = some (xs.map od)) : W (oIn .non (.ref n) S) Q ↔ Q (.bl (decide (none ∈ xs))) S := by
  have e : oInB .non (.ref n) S = some (decide (none ∈ xs)) := by
    unfold oInB
    simp only [h]
    rw [if_pos (by rw [flat_od]; rfl), inD_od]
  unfold oIn
  rw [e]
  simp
theorem w_ninN {n : Nat} {xs : List (Option Int)} (h : getL S n = some (xs.map od)) : W (oNotIn .non (.ref n) S) Q ↔ Q (.bl (!decide (none ∈ xs))) S := by
  have e : oInB .non (.ref n) S = some (decide (none ∈ xs)) := by
    unfold oInB
    simp only [h]
    rw [if_pos (by rw [flat_od]; rfl), inD_od]
  unfold oNotIn
  rw [e]
  simp
def odP : Option Int → PyData
  | none => .none
  | some i => .int i
theorem odPs : ∀ xs : List (Option Int), dPys (xs.map od) = xs.map odP
  | [] => rfl
  | x :: xs => by
    show dPy (od x) :: dPys (xs.map od) = _
    rw [odPs xs]
    cases x <;> rfl
theorem od_nr : ∀ xs : List (Option Int), noRefs (xs.map od) = true
  | [] => rfl
  | x :: xs => by
    show (noRef (od x) && noRefs (xs.map od)) = true
    rw [od_nr xs]
    cases x <;> rfl
theorem toPy_od {n : Nat} {xs : List (Option Int)} (h : getL S n = some (xs.map od)) : toPy S (.ref n) = some (.list (xs.map odP)) := by
  rw [toPy_lst h (od_nr xs), odPs]
theorem sh_od (xs : List (Option Int)) : Sh (.list (xs.map odP)) := sh_list fun p hp => by
  obtain ⟨x, _, rfl⟩ := List.mem_map.mp hp
  cases x
  · exact ⟨sh_non.1, Nat.le_trans (Nat.le_of_eq (show PyData.depth .none = 0 by simp [PyData.depth])) (by decide)⟩
  · exact ⟨(sh_int _).1, Nat.le_trans (Nat.le_of_eq (show PyData.depth (.int _) = 0 by simp [PyData.depth])) (by decide)⟩
theorem sh_odP (x : Option Int) : Sh (odP x) := by
  cases x
  · exact sh_non
  · exact sh_int _
theorem toPy_odP (x : Option Int) : toPy S (od x) = some (odP x) := by cases x <;> rfl
/-- a comprehension without tests, element by element -/
theorem w_lcg {fi : FI} {g : FG} {tt : FT} {te : FE} {vs : List Nat} {ds : List D} (v : Nat → D)
    (hi : W (fi env S) fun it S1 => Ap S S1 ∧ ds.length ≤ it.len ∧ ∀ S2, Ap S1 S2 → ∀ i, it.it S2 i = some ds[i]?)
    (hb : ∀ i d, ds[i]? = some d → ∀ S2, Ap S S2 → W (g d (wipeE env vs) S2) fun e1 S3 => W (tt e1 S3) fun k S4 => k = true ∧ Ap S2 S4 ∧ W (te e1 S4) fun y S5 => y = v i ∧ Ap S4 S5)
    (hl : ds.length ≤ cap)
    (hq : ∀ n S', Ap S S' → S.length ≤ n → S'[n]? = some (.lst ((List.range ds.length).map v)) → Q (.ref n) S') : W (eLc fi g tt te vs env S) Q := by
  refine w_lc ?_
  obtain ⟨it, S1, e, a1, hlen, hit⟩ := hi
  refine ⟨it, S1, e, ?_⟩
  refine Exists.elim (lc_inv (it := it) (ds := ds) (g := g) (tt := tt) (te := te) (n := S1.length) (env := wipeE env vs) (S := S1 ++ [.lst []]) (fun i acc S' => Ap S1 S' ∧ acc = (List.range i).map v)
    (fun i acc S' h _ => hit S' h.1 i) hlen (fun i d acc S' hd hI hn => ?_) ⟨Ap.app _ _, rfl⟩ (new_at _ _)) (fun S2 hh => ?_)
  · obtain ⟨aS, ea⟩ := hI
    have hi' := (List.getElem?_eq_some_iff.mp hd).1
    obtain ⟨e1, S3, q1, k, S4, q2, rfl, a4, h⟩ := hb i d hd S' (a1.trans aS)
    refine ⟨e1, S3, q1, _, S4, q2, ?_⟩
    refine iteT ?_
    obtain ⟨y, S5, q3, rfl, a5⟩ := h
    refine ⟨_, S5, q3, a5 _ _ (a4 _ _ hn), by rw [ea]; simp; omega, (aS.trans (a4.trans a5)).set (Nat.le_refl _), ?_⟩
    rw [ea, List.range_succ, List.map_append]
    rfl
  · obtain ⟨acc, e2, e3, a2, e4⟩ := hh
    rw [e4] at e3
    exact ⟨S2, e2, hq _ _ (a1.trans a2) a1.len e3⟩
theorem range_map {α : Type} (xs : List α) (w : α → D) (v : Nat → D) (h : ∀ i x, xs[i]? = some x → v i = w x) : (List.range xs.length).map v = xs.map w := by
  apply List.ext_getElem?
  intro i
  rw [List.getElem?_map, List.getElem?_map]
  by_cases hi : i < xs.length
  · rw [List.getElem?_range hi, List.getElem?_eq_getElem hi]
    exact congrArg some (h i _ (List.getElem?_eq_getElem hi))
  · rw [List.getElem?_eq_none (by simpa using hi), List.getElem?_eq_none (by omega)]
    rfl
/-- over a list that stands for xs -/
theorem w_lcx {α : Type} {f : α → D} {xs : List α} {fi : FI} {g : FG} {tt : FT} {te : FE} {vs : List Nat} (v : α → D)
    (hi : W (fi env S) fun it S1 => Ap S S1 ∧ ∃ m, it = .lst m xs.length ∧ getL S1 m = some (xs.map f))
    (hb : ∀ x ∈ xs, ∀ S2, Ap S S2 → W (g (f x) (wipeE env vs) S2) fun e1 S3 => W (tt e1 S3) fun k S4 => k = true ∧ Ap S2 S4 ∧ W (te e1 S4) fun y S5 => y = v x ∧ Ap S4 S5)
    (hl : xs.length ≤ cap)
    (hq : ∀ n S', Ap S S' → S.length ≤ n → S'[n]? = some (.lst (xs.map v)) → Q (.ref n) S') : W (eLc fi g tt te vs env S) Q := by
  refine w_lcg (ds := xs.map f) (fun i => match xs[i]? with | some x => v x | none => .non) ?_ ?_ (by simpa using hl) ?_
  · obtain ⟨it, S1, e, a, m, rfl, gl⟩ := hi
    refine ⟨_, S1, e, a, by simp [ItD.lst], fun S2 a2 i => ?_⟩
    unfold ItD.lst
    simp [getL_ap gl a2]
  · intro i d hd S2 a2
    rw [List.getElem?_map] at hd
    obtain ⟨x, hx, rfl⟩ := Option.map_eq_some_iff.mp hd
    have := hb x (List.mem_of_getElem? hx) S2 a2
    rw [hx]
    exact this
  · intro n S' a l h
    refine hq n S' a l ?_
    rw [h, List.length_map, range_map xs v]
    intro i x hx
    rw [hx]
/-- over a range -/
theorem w_lcr {n : Nat} {lo : Int} {fi : FI} {g : FG} {tt : FT} {te : FE} {vs : List Nat} (v : Nat → D)
    (hi : W (fi env S) fun it S1 => it = .fix (rngD lo n) ∧ S1 = S)
    (hb : ∀ k, k < n → ∀ S2, Ap S S2 → W (g (.int (lo + k)) (wipeE env vs) S2) fun e1 S3 => W (tt e1 S3) fun b S4 => b = true ∧ Ap S2 S4 ∧ W (te e1 S4) fun y S5 => y = v k ∧ Ap S4 S5)
    (hl : n ≤ cap)
    (hq : ∀ m S', Ap S S' → S.length ≤ m → S'[m]? = some (.lst ((List.range n).map v)) → Q (.ref m) S') : W (eLc fi g tt te vs env S) Q := by
  refine w_lcg (ds := rngD lo n) v ?_ ?_ (by rw [rng_len]; exact hl) ?_
  · obtain ⟨it, S1, e, rfl, rfl⟩ := hi
    exact ⟨_, _, e, Ap.refl _, Nat.le_refl _, fun S2 a i => rfl⟩
  · intro i d hd S2 a2
    obtain ⟨rfl, h⟩ := rng_get hd
    exact hb i h S2 a2
  · rw [rng_len]
    exact hq
/-- while, by a number that falls -/
theorem w_while {t : FT} {b : FS} (Inv : Nat → Env → Sto → Prop) (step : ∀ m env S, Inv m env S → W (t env S) fun k S1 => if k = true then W (b env S1) (QL (fun e S2 => ∃ m', m' < m ∧ Inv m' e S2) QS') else QS' (.nx env) S1) {m : Nat} (hm : m < 1000000) (h0 : Inv m env S) : W (sWhile t b env S) QS' := by
  have key : ∀ (n m : Nat) (env : Env) (S : Sto), m < n → Inv m env S → W (whileN t b n env S) QS' := by
    intro n
    induction n with
    | zero => intro m env S h; omega
    | succ n ih =>
      intro m env S h hI
      unfold whileN
      rw [W_th]
      obtain ⟨k, S1, e, q⟩ := step m env S hI
      refine ⟨k, S1, e, ?_⟩
      cases k with
      | false => simpa using q
      | true =>
        rw [if_pos rfl] at q
        obtain ⟨o, S2, e2, q⟩ := q
        show W (if true = true then _ else _) _
        rw [if_pos rfl, W_th]
        refine ⟨o, S2, e2, ?_⟩
        cases o with
        | nx e => obtain ⟨m', h1, h2⟩ := q; exact ih m' e S2 (by omega) h2
        | ct e => obtain ⟨m', h1, h2⟩ := q; exact ih m' e S2 (by omega) h2
        | bk e => simpa using q
        | rt d => simpa using q
  exact key fuel m env S hm h0
end
end FL
namespace FL
open PySem L2
theorem it_zip {n m : Nat} {us ws : List D} {S2 : Sto} (h1 : getL S2 n = some us) (h2 : getL S2 m = some ws) (k i : Nat) : (ItD.zip n m k).it S2 i = some (((us.zip ws).map fun p => D.tup [p.1, p.2])[i]?) := by
  unfold ItD.zip
  simp only [h1, h2, List.getElem?_map, List.zip_eq_zipWith, List.getElem?_zipWith]
  cases us[i]? <;> cases ws[i]? <;> rfl
theorem w_zip {env : Env} {S : Sto} {fr : FA} {QI : ItD → Sto → Prop} (h : W (fr env S) fun ds S1 => ∃ n m us ws, ds = [.ref n, .ref m] ∧ getL S1 n = some us ∧ getL S1 m = some ws ∧ QI (.zip n m (min us.length ws.length)) S1) : W (iZip fr env S) QI := by
  unfold iZip
  rw [W_th]
  obtain ⟨ds, S1, e, n, m, us, ws, rfl, h1, h2, q⟩ := h
  refine ⟨_, S1, e, ?_⟩
  simp only [h1, h2]
  simpa using q
section
variable {env : Env} {S : Sto} {Q : D → Sto → Prop}
/-- a comprehension whose elements draw from the tape -/
theorem w_lct {tp tm : Nat} {fi : FI} {g : FG} {tt : FT} {te : FE} {vs : List Nat} {ds : List D} (P : D → D → Prop) (hT : Tape S tp tm)
    (hi : W (fi env S) fun it S1 => Kn tp S S1 ∧ S.length ≤ S1.length ∧ Tape S1 tp tm ∧ ds.length ≤ it.len ∧ ∀ S2, Kn tp S1 S2 → ∀ i, it.it S2 i = some ds[i]?)
    (hb : ∀ d ∈ ds, ∀ S2, Kn tp S S2 → Tape S2 tp tm → S.length ≤ S2.length → W (g d (wipeE env vs) S2) fun e1 S3 => W (tt e1 S3) fun k S4 => k = true ∧ Kn tp S2 S4 ∧ W (te e1 S4) fun y S5 => P d y ∧ Kn tp S4 S5 ∧ Tape S5 tp tm ∧ S2.length ≤ S5.length)
    (hl : ds.length ≤ cap)
    (hq : ∀ (n : Nat) (S' : Sto) (ys : List D), Kn tp S S' → Tape S' tp tm → S.length ≤ n → n < S'.length → ys.length = ds.length → (∀ (j : Nat) (x y : D), ds[j]? = some x → ys[j]? = some y → P x y) → S'[n]? = some (.lst ys) → Q (.ref n) S') : W (eLc fi g tt te vs env S) Q := by
  refine w_lc ?_
  obtain ⟨it, S1, e, a1, l1, T1, hlen, hit⟩ := hi
  refine ⟨it, S1, e, ?_⟩
  have t1 := T1.lt
  have t2 := T1.ltm
  refine Exists.elim (lc_inv (it := it) (ds := ds) (g := g) (tt := tt) (te := te) (n := S1.length) (env := wipeE env vs) (S := S1 ++ [.lst []]) (fun i acc S' => Kn tp S1 S' ∧ Tape S' tp tm ∧ S1.length < S'.length ∧ acc.length = i ∧ ∀ (j : Nat) (x y : D), ds[j]? = some x → acc[j]? = some y → P x y)
    (fun i acc S' h _ => hit S' h.1 i) hlen (fun i d acc S' hd hI hn => ?_) ⟨(Ap.app _ _).kn tp, T1.ap (Ap.app _ _), by simp, rfl, fun j x y _ (h : ([] : List D)[j]? = some y) => by simp at h⟩ (new_at _ _)) (fun S2 hh => ?_)
  · obtain ⟨aS, TS, lS, ea, eP⟩ := hI
    have hi' := (List.getElem?_eq_some_iff.mp hd).1
    obtain ⟨e1, S3, q1, k, S4, q2, rfl, a4, h⟩ := hb d (List.mem_of_getElem? hd) S' (a1.trans aS) TS (by omega)
    refine ⟨e1, S3, q1, _, S4, q2, ?_⟩
    refine iteT ?_
    obtain ⟨y, S5, q3, hP, a5, T5, l5⟩ := h
    refine ⟨_, S5, q3, a5 _ _ (by omega) (a4 _ _ (by omega) hn), by omega, (aS.trans (a4.trans a5)).setO (Nat.le_refl _), T5.set (by omega) (by omega), by rw [List.length_set]; omega, by simp [ea], ?_⟩
    intro j x y' hx hy
    by_cases hj : j < acc.length
    · rw [List.getElem?_append_left hj] at hy
      exact eP j x y' hx hy
    · have hj2 : j = acc.length := by
        have := (List.getElem?_eq_some_iff.mp hy).1
        simp at this
        omega
      subst hj2
      rw [List.getElem?_append_right (Nat.le_refl _), Nat.sub_self] at hy
      cases hy
      rw [ea, hd] at hx
      cases hx
      exact hP
  · obtain ⟨acc, e2, e3, a2, T2, l2, e4, eP⟩ := hh
    exact ⟨S2, e2, hq _ _ acc (a1.trans a2) T2 l1 l2 e4 eP e3⟩
/-- an index that is drawn -/
theorem w_ixr {n : Nat} {ds : List D} {r : Int} (h : getL S n = some ds) (h0 : 0 ≤ r) (h1 : r < ds.length) (q : ∀ d ∈ ds, Q d S) : W (oIx (.ref n) (.int r) S) Q := by
  obtain ⟨j, rfl⟩ : ∃ j : Nat, r = j := ⟨r.toNat, by omega⟩
  have hj : j < ds.length := by omega
  rw [w_ixL h (FL.atI_nat (List.getElem?_eq_getElem hj))]
  exact q _ (List.getElem_mem hj)
end
end FL
/-! FL16: sorted(set(list of ints)). -/
namespace FL
open PySem PySem.Spec PyProof.Rows L2
/-- a set that has just been made -/
def void (w : World) : Obj := { cls := .type "set", dict := none, data := .set #[] 0 (.fresh 0 0 (!w.params.followText "set-order")) }
section
variable {P : Program} {w : World} {A : Around} {E : Value → Shared → Prop} {s : Shared}
/-- what set(list) leaves behind -/
def Left (w : World) (s : Shared) (ns : List Int) (s2 : Shared) : Prop :=
  ∃ h2 k c, s2 = { s with heap := h2, toks := k } ∧ SetR w h2 s.heap.objs.size (fun j => decide (j ∈ ns)) c ∧ c ≤ ns.length ∧
    ∀ b u, s.heap.get? b = some u → h2.get? b = some u
theorem void_setR {h : Heap} {a : Addr} {ns : List Int} (g : h.get? a = some (void w)) : SetR w h a (fun j => decide (j ∈ ns.take 0)) 0 := setR_new_at g
/-- the items go in, one by one -/
theorem fill_list {l : Addr} {items : Array Value} (ns : List Int) (free : A.handled = none) {h0 : Heap} (e0 : h0 = s.heap.push (void w)) (isl : h0.IsList l items) (lt : l < s.heap.objs.size) (are : IntsAre items.toList ns) (few : ns.length + 1 < scanBound)
    {Rr : Result → Shared → Prop} (done : ∀ s2, Left w s ns s2 → Rr (.ok (.ret .none)) s2) :
    codeAny (model P w) A (.builtin "set.update.loop" ⟨[.ref s.heap.objs.size, .ref h0.objs.size], []⟩) Rr { s with heap := h0.push { cls := .type "list_iterator", data := .fields #[.ref l, .int 0 0] } } := by
  subst e0
  have nlen : items.size = ns.length := by
    rw [← IntsAre.length are, Array.length_toList]
  have sz : (s.heap.push (void w)).objs.size = s.heap.objs.size + 1 := Heap.size_push ..
  have apart : l ≠ (s.heap.push (void w)).objs.size := fun z => Nat.ne_of_lt (Nat.lt_succ_of_lt lt) (z.trans sz)
  have outside : s.heap.objs.size ∉ [(s.heap.push (void w)).objs.size, l] := by
    intro z
    rcases List.mem_cons.mp z with z | z
    · exact Nat.ne_of_lt (Nat.lt_succ_self _) (Eq.trans z sz)
    · exact Nat.ne_of_gt lt (List.mem_singleton.mp z)
  have value : ∀ (i : Nat) (v : Value), items[i]? = some v → ∃ k t, ns[i]? = some k ∧ v = .int k t := by
    intro i v hv
    have il : i < ns.length := nlen ▸ (Array.getElem?_eq_some_iff.mp hv).1
    obtain ⟨t, et⟩ := IntsAre.int_at are i v (by rw [Array.getElem?_toList]; exact hv)
    have gd : ns.getD i 0 = ns[i] := by
      rw [List.getD_eq_getElem?_getD, List.getElem?_eq_getElem il, Option.getD_some]
    exact ⟨ns[i], t, List.getElem?_eq_getElem il, by rw [et, gd]⟩
  have there : ((s.heap.push (void w)).push { cls := .type "list_iterator", data := .fields #[.ref l, .int 0 0] }).get? s.heap.objs.size = some (void w) := Heap.get?_push_of_some _ (Heap.get?_push_size _ rfl)
  refine set_update_ints (Walks.list (A := A.in1) (by simpa using free) _ l apart items).toS s.heap.objs.size outside ns nlen few value items.size 0 _ (by omega) (Nat.zero_le _) ⟨⟨_, Heap.get?_push_size _ rfl, rfl, rfl⟩, isl.push _⟩ ⟨0, Nat.le_refl 0, void_setR there⟩ ?_
  intro s2 c mv cl set2
  refine done s2 ⟨s2.heap, s2.toks, c, ?_, set2, by omega, fun b u g => ?_⟩
  · obtain ⟨x1, x2, x3, x4, x5⟩ := s2
    have q1 : x2 = s.gens := mv.gens
    have q2 : x3 = s.drawn := mv.drawn
    have q3 : x5 = s.os := mv.os
    rw [q1, q2, q3]
  · have bl : b < s.heap.objs.size := Heap.lt_size g
    refine mv.heap b u (fun z => ?_) (Heap.get?_push_of_some _ (Heap.get?_push_of_some _ g))
    rcases List.mem_cons.mp z with z | z
    · exact Nat.ne_of_lt bl z
    · exact Nat.ne_of_lt (Nat.lt_succ_of_lt bl) (Eq.trans (List.mem_singleton.mp z) sz)
set_option maxRecDepth 100000 in
set_option maxHeartbeats 6400000 in
/-- set(l), l a list of ints -/
theorem call_set_lst {l : Addr} {items : Array Value} (ns : List Int) (free : A.handled = none) (isl : s.heap.IsList l items) (are : IntsAre items.toList ns) (few : ns.length + 1 < scanBound) {Q : Value → Shared → Prop}
    (next : ∀ s2, Left w s ns s2 → Q (.ref s.heap.objs.size) s2) : wpAny (model P w) A (call (.type "set") [.ref l]) Q E s := by
  obtain ⟨c0, rest, order⟩ := F.called_set.mro
  have p1 := F.called_set.made
  have p2 := F.called_set.sub
  have p3 := F.called_set.notType
  have p4 := F.called_set.canCreate
  have p5 := F.typeCall_set_1 (.ref l)
  have lt : l < s.heap.objs.size := by
    obtain ⟨ob, g, _⟩ := isl
    exact Heap.lt_size g
  -- type.__call__
  refine wpAny_call (codeAny_of_tree (?_ : wpAny _ _ (callAny (.type "set") _) _ _ _))
  refine wpAny_pure (And.intro (Code.quiet_builtin _ (by decide +kernel)) (codeAny_builtin F.entry_type_call ?_))
  rw [show Around.under A _ = _ from Around.under_plain (weight_type_call_type "set" [.ref l] []) rfl]
  repeat (any_goals (first | wp_step | assumption))
  -- set.__new__
  refine codeAny_mono (code_set_led1 (.ref l) (E := E) (Q₁ := fun v s1 => v = .ref s.heap.objs.size ∧ s1 = { s with heap := s.heap.push (void w) }) ⟨rfl, rfl⟩) fun got s1 mid => ?_
  match got, mid with
  | .error e, mid => exact mid
  | .ok (.ret v), ⟨ev, es⟩ =>
    subst ev es
    have here : (s.heap.push (void w)).get? s.heap.objs.size = some (void w) := Heap.get?_push_size _ rfl
    have ty : Shared.TypeIs { s with heap := s.heap.push (void w) } (.ref s.heap.objs.size) "set" := ⟨_, here, rfl⟩
    have p6 := F.called_set.init.lookup
    have p7 := F.called_set.init.bind (.ref s.heap.objs.size)
    repeat (any_goals (first | wp_step | assumption))
    -- set.__init__
    refine codeAny_mono (codeAny_call_builtin (R := wants (fun v s2 => v = .none ∧ Left w s ns s2) E) F.called_set.init.plain F.entry_set_init (check_set_init_1 ty ?_)) fun got2 s2 mid2 => ?_
    · have isl2 : (s.heap.push (void w)).IsList l items := isl.push _
      obtain ⟨ob, g, cl, m, dt⟩ := isl
      obtain ⟨oc, od_, odt, osl⟩ := ob
      simp only at cl dt
      subst cl dt
      have g2 : (s.heap.push (void w)).get? l = some { cls := .type "list", dict := od_, data := .seq items m, slots := osl } := Heap.get?_push_of_some _ g
      have q1 := F.sub_list_set
      have q2 := F.sub_list_frozenset
      have q3 : (Value.type "list" == Value.type "dict") = false := by decide
      unfold Builtin.«set.__init__» noKeywords
      unfold Builtin.Frozenset.updateFrom
      generalize walker : pyIter = it
      wp_walk
      subst walker
      refine wpAny_pyIter_list isl2 (wpAny_bind (wpAny_runValue ?_))
      refine fill_list ns (by simp [free]) rfl isl2 lt are few fun s2 left => ?_
      show wpAny _ _ _ _ _ _
      exact wpAny_pure (show wpAny _ _ (ret Value.none) _ _ s2 from wpAny_pure ⟨rfl, left⟩)
    · match got2, mid2 with
      | .error e, mid2 => exact mid2
      | .ok (.ret v), ⟨ev, left⟩ =>
        subst ev
        repeat (any_goals (first | wp_step | assumption))
        exact next s2 left
end
end FL
/-! FL17: sorted(set(list of ints)) as a rule; what it computes. -/
namespace FL
open PySem PySem.Spec PyProof.Rows L2
def insU (x : Int) : List Int → List Int
  | [] => [x]
  | y :: r => if x < y then x :: y :: r else if x = y then y :: r else y :: insU x r
def sortU (ns : List Int) : List Int := ns.foldr insU []
theorem mem_insU (x z : Int) : ∀ l : List Int, z ∈ insU x l ↔ z = x ∨ z ∈ l
  | [] => by simp [insU]
  | y :: r => by
    unfold insU
    by_cases h : x < y
    · rw [if_pos h]; simp
    · rw [if_neg h]
      by_cases e : x = y
      · rw [if_pos e, e]; simp
      · rw [if_neg e]
        simp only [List.mem_cons, mem_insU x z r]
        constructor
        · rintro (h | h | h)
          · exact .inr (.inl h)
          · exact .inl h
          · exact .inr (.inr h)
        · rintro (h | h | h)
          · exact .inr (.inl h)
          · exact .inl h
          · exact .inr (.inr h)
theorem insU_sorted (x : Int) : ∀ l : List Int, l.Pairwise (· < ·) → (insU x l).Pairwise (· < ·)
  | [], _ => by simp [insU]
  | y :: r, h => by
    rw [List.pairwise_cons] at h
    unfold insU
    by_cases h1 : x < y
    · rw [if_pos h1, List.pairwise_cons, List.pairwise_cons]
      refine ⟨fun z hz => ?_, h⟩
      rcases List.mem_cons.mp hz with rfl | hz
      · exact h1
      · exact Int.lt_trans h1 (h.1 z hz)
    · rw [if_neg h1]
      by_cases e : x = y
      · rw [if_pos e, List.pairwise_cons]
        exact h
      · rw [if_neg e, List.pairwise_cons]
        refine ⟨fun z hz => ?_, insU_sorted x r h.2⟩
        rcases (mem_insU x z r).mp hz with rfl | hz
        · omega
        · exact h.1 z hz
theorem mem_sortU (z : Int) : ∀ ns : List Int, z ∈ sortU ns ↔ z ∈ ns
  | [] => Iff.rfl
  | x :: ns => by
    show z ∈ insU x (sortU ns) ↔ _
    rw [mem_insU, mem_sortU z ns, List.mem_cons]
theorem sortU_sorted : ∀ ns : List Int, (sortU ns).Pairwise (· < ·)
  | [] => List.Pairwise.nil
  | x :: ns => insU_sorted x _ (sortU_sorted ns)
theorem strict_uniq : ∀ {l m : List Int}, l.Pairwise (· < ·) → m.Pairwise (· < ·) → (∀ z, z ∈ l ↔ z ∈ m) → l = m
  | [], [], _, _, _ => rfl
  | [], y :: m, _, _, h => absurd ((h y).mpr List.mem_cons_self) (by simp)
  | x :: l, [], _, _, h => absurd ((h x).mp List.mem_cons_self) (by simp)
  | x :: l, y :: m, hl, hm, h => by
    rw [List.pairwise_cons] at hl hm
    have exy : x = y := by
      rcases List.mem_cons.mp ((h x).mp List.mem_cons_self) with e | e
      · exact e
      · rcases List.mem_cons.mp ((h y).mpr List.mem_cons_self) with e2 | e2
        · exact e2.symm
        · have := hl.1 y e2
          have := hm.1 x e
          omega
    subst exy
    have : l = m := strict_uniq hl.2 hm.2 fun z => by
      constructor
      · intro hz
        rcases List.mem_cons.mp ((h z).mp (List.mem_cons_of_mem _ hz)) with e | e
        · have := hl.1 z hz
          omega
        · exact e
      · intro hz
        rcases List.mem_cons.mp ((h z).mpr (List.mem_cons_of_mem _ hz)) with e | e
        · have := hm.1 z hz
          omega
        · exact e
    rw [this]
/-- set(xs), xs a list of ints -/
def rSetL (X : Cx) : List V → Hp → VK → Prop := fun vs H Q => ∃ (a : Addr) (ns : List Int), vs = [V.ref a] ∧ SqL X.K H a (ns.map V.int) ∧ ns.length ≤ 1000 ∧ ∀ (p : Addr) (m : Nat), H p = none → m ≤ ns.length → Q (.ref p) (upd H p (SetO X.w p (fun j => decide (j ∈ ns)) m))
def eSortSet (fe : FE) : FE := fun env S => th (fe env S) fun d S1 => match d with
  | .ref n => match (getL S1 n).bind intsD with
    | some ns => if ns.length < 64 then some (.ref S1.length, S1 ++ [.lst ((sortU ns).map D.int)]) else none
    | none => none
  | _ => none
section
variable {c : FC} {X : Cx} {e : Expr} {fe : FE} {p p2 pos pos2 : Pos}
theorem cr_setL (hc : X.calm = true) : CallR X (.type "set") (rSetL X) := by
  intro pins s σ H vs us Q I r h
  obtain ⟨a, ns, rfl, hs, hl, q⟩ := h
  obtain ⟨its, rv, isl, _⟩ := I.list hs
  rw [Vals.ref1 r]
  refine call_set_lst ns (I.ok.hd hc) isl.isList (by simpa using ints_of_vals rv) (by unfold scanBound; omega) fun s2 left => ?_
  obtain ⟨h2, k, m, rfl, R, ml, kp⟩ := left
  exact ⟨.ref _, upd H s.heap.objs.size (SetO X.w s.heap.objs.size (fun j => decide (j ∈ ns)) m), I.laid (t' := k) (fun b u e => kp b u e) (Nat.le_refl _) (setO_new R), rfl, q _ m (I.hok.fresh (Nat.le_refl _)) ml⟩
theorem q_sortSet (hK : c.K = X.K) (hc : X.calm = true) (hg : Gl X "sorted") (hm : X.mg "sorted" = none) (hg2 : Gl X "set") (hm2 : X.mg "set" = none) (h : PE X e (tE c fe))
    (st : starEach [e] X.env = (false, eval e X.env) :: starEach [] X.env := by rfl)
    (st2 : starEach [.Call (.Name "set" p2) [e] [] pos2] X.env = (false, eval (.Call (.Name "set" p2) [e] [] pos2) X.env) :: starEach [] X.env := by rfl) :
    PE X (.Call (.Name "sorted" p) [.Call (.Name "set" p2) [e] [] pos2] [] pos) (tE c (eSortSet fe)) := by
  refine PE.w (pe_callB (cr_sortedSet hc) hg hm PyProof.Rows.boot_sorted (pa_cons (pe_callTy (cr_setL hc) hg2 hm2 PyProof.Rows.boot_set (pa_cons h pa_nil st) (he := st)) pa_nil st2) (he := st2)) fun σ H Q h => ?_
  obtain ⟨μ, env, S, d, S', he, hs, hf, ha⟩ := h
  obtain ⟨x, S1, h1, hf⟩ := th_inv hf
  refine ⟨μ, env, S, x, S1, he, hs, h1, fun μ1 H1 v e1 k1 r1 => ?_⟩
  cases x with
  | ref n =>
    obtain ⟨a, ha1, rfl⟩ := r1
    simp only at hf
    split at hf
    · rename_i ns g1
      split at hf
      · rename_i hz
        cases hf
        obtain ⟨ds, g2, g3⟩ := Option.bind_eq_some_iff.mp g1
        obtain ⟨a', xs, g4, q1, rr⟩ := getL_sq k1 g2
        rw [ha1] at g4
        cases g4
        rw [intsD_rep g3 rr] at q1
        refine ⟨a, ns, rfl, by rw [← hK]; exact q1, by omega, fun s m hp ml => ?_⟩
        refine ⟨s, _, m, rfl, upd_same, by omega, fun ms p3 o1 o2 o3 hp3 => ?_⟩
        have e : ms = sortU ns := strict_uniq o1 (sortU_sorted ns) fun z => by rw [o2 z, mem_sortU, decide_eq_true_eq]
        rw [e]
        have x1 : Ext c μ1 H1 μ1 (upd H1 s (SetO X.w s (fun j => decide (j ∈ ns)) m)) := Ext.upd (.inl hp)
        obtain ⟨y1, y2, y3⟩ := lst_new (k1.same hp) (ints_rep (sortU ns)) hp3
        exact ha _ _ _ ((e1.trans x1).trans y1) y2 y3
      · cases hf
    · cases hf
  | _ => cases hf
theorem w_sortSet {env : FL.Env} {S : Sto} {Q : D → Sto → Prop} (h : W (fe env S) fun d S1 => ∃ (n : Nat) (ns : List Int), d = .ref n ∧ getL S1 n = some (ns.map D.int) ∧ ns.length < 64 ∧ W (some (D.ref S1.length, S1 ++ [.lst ((sortU ns).map D.int)])) Q) : W (eSortSet fe env S) Q := by
  unfold eSortSet
  rw [W_th]
  obtain ⟨d, S1, e, n, ns, rfl, h1, h2, q⟩ := h
  refine ⟨_, S1, e, ?_⟩
  simpa [h1, intsD_map, h2] using q
end
end FL
/-! K58: the defs of the law as functions, and their derivations (printed by gen.py) -/
namespace K58
open PySem PySem.Spec PyProof.Rows L2 FL
def topS (i : Nat) : Stmt := PySem.Challenge.pw_nocyclemore_k58_whole_ranges_that_are_ju.main.body.getD i (.Pass ⟨0, 0, 0, 0⟩)
abbrev s_wrapped : Stmt := topS 2
abbrev s__law_wrap : Stmt := topS 17
abbrev s__law_take : Stmt := topS 16
abbrev s_widened : Stmt := topS 13
abbrev s_is_within : Stmt := topS 9
abbrev s_joined : Stmt := topS 8
abbrev s_divided : Stmt := topS 3
abbrev s_div_range : Stmt := topS 12
abbrev s_kept : Stmt := topS 10
abbrev s_done_range : Stmt := topS 11
abbrev s__law_exact : Stmt := topS 19
abbrev s_done : Stmt := topS 4
abbrev s__law_drawn_range : Stmt := topS 18
abbrev s__law_tape : Stmt := topS 15
abbrev s_law : Stmt := topS 20
abbrev k_ALL : D := .tup [.int (-2147483648), .int 2147483647]
abbrev k_BOTH : D := .tup [.int 0, .int 1]
abbrev k_HALF : D := .int 2147483648
def b_wrapped : FS := sRet (eBin oSub (eBin oMod (eBin oAdd (eVar 0) (eC k_HALF)) (eBin oMul (eC (.int 2)) (eC k_HALF))) (eC k_HALF))
def f_wrapped : FF := fnF 1 1 b_wrapped
def b__law_wrap : FS := sRet (eBin oSub (eBin oMod (eBin oAdd (eCall fInt (aCons (eVar 0) (aNil))) (eC (.int 2147483648))) (eC (.int 4294967296))) (eC (.int 2147483648)))
def f__law_wrap : FF := fnF 1 1 b__law_wrap
def b__law_take : FS := sSeq (sIf (tAnd (tB (eBin oEq (eBin oIx (eVar 0) (eC (.str "left"))) (eC (.int 0)))) (tB (eBin oLt (eBin oIx (eVar 0) (eC (.str "at"))) (eCall fLen (aCons (eBin oIx (eVar 0) (eC (.str "cells"))) (aNil)))))) (sSeq (sAsg (eBin oIx (eBin oIx (eVar 0) (eC (.str "cells"))) (eBin oIx (eVar 0) (eC (.str "at")))) (gIx (eVar 0) (eC (.str "left")))) (sAsg (eBin oAdd (eBin oIx (eVar 0) (eC (.str "at"))) (eC (.int 1))) (gIx (eVar 0) (eC (.str "at"))))) (sNil)) (sSeq (sIf (tB (eBin oGt (eBin oIx (eVar 0) (eC (.str "left"))) (eC (.int 0)))) (sSeq (sAsg (eBin oMod (eCall fInt (aCons (eBin oIx (eVar 0) (eC (.str "left"))) (aNil))) (eVar 1)) (gNm 2)) (sSeq (sAsg (eBin oDiv (eBin oIx (eVar 0) (eC (.str "left"))) (eVar 1)) (gIx (eVar 0) (eC (.str "left")))) (sRet (eVar 2)))) (sNil)) (sSeq (sAsg (eBin oAdd (eBin oIx (eVar 0) (eC (.str "salt"))) (eC (.int 1))) (gIx (eVar 0) (eC (.str "salt")))) (sSeq (sAsg (eBin oMod (eCall fInt (aCons (eBin oAdd (eBin oMul (eBin oIx (eVar 0) (eC (.str "seed"))) (eC (.int 48271))) (eBin oMul (eBin oIx (eVar 0) (eC (.str "salt"))) (eC (.int 69621)))) (aNil))) (eC (.int 2147483647))) (gNm 3)) (sSeq (sAsg (eBin oMod (eCall fInt (aCons (eBin oAdd (eBin oAdd (eBin oMul (eVar 3) (eVar 3)) (eBin oMul (eBin oIx (eVar 0) (eC (.str "salt"))) (eC (.int 40692)))) (eC (.int 12345))) (aNil))) (eC (.int 2147483399))) (gNm 3)) (sRet (eBin oMod (eCall fInt (aCons (eVar 3) (aNil))) (eVar 1)))))))
def f__law_take : FF := fnF 4 2 b__law_take
def b_widened : FS := sSeq (sAsg (eIf (tB (eBin oGe (eBin oIx (eVar 1) (eC (.int 0))) (eBin oIx (eVar 0) (eC (.int 0))))) (eBin oIx (eVar 0) (eC (.int 0))) (eCall fMax (aCons (eBin oAdd (eLc (iSeq (eVar 2)) (gNm 5) (tB (eBin oLe (eVar 5) (eBin oIx (eVar 1) (eC (.int 0))))) (eVar 5) [5]) (eLst (aCons (eUn oNeg (eC k_HALF)) (aNil)))) (aNil)))) (gNm 3)) (sSeq (sAsg (eIf (tB (eBin oLe (eBin oIx (eVar 1) (eC (.int 1))) (eBin oIx (eVar 0) (eC (.int 1))))) (eBin oIx (eVar 0) (eC (.int 1))) (eCall fMin (aCons (eBin oAdd (eLc (iSeq (eVar 2)) (gNm 5) (tB (eBin oGe (eVar 5) (eBin oIx (eVar 1) (eC (.int 1))))) (eVar 5) [5]) (eLst (aCons (eBin oSub (eC k_HALF) (eC (.int 1))) (aNil)))) (aNil)))) (gNm 4)) (sRet (eTup (aCons (eVar 3) (aCons (eVar 4) (aNil))))))
def f_widened : FF := fnF 6 3 b_widened
def b_is_within : FS := sRet (eAnd (eBin oLe (eBin oIx (eVar 1) (eC (.int 0))) (eBin oIx (eVar 0) (eC (.int 0)))) (eBin oLe (eBin oIx (eVar 0) (eC (.int 1))) (eBin oIx (eVar 1) (eC (.int 1)))))
def f_is_within : FF := fnF 2 2 b_is_within
def b_joined : FS := sRet (eTup (aCons (eCall fMin (aCons (eBin oIx (eVar 0) (eC (.int 0))) (aCons (eBin oIx (eVar 1) (eC (.int 0))) (aNil)))) (aCons (eCall fMax (aCons (eBin oIx (eVar 0) (eC (.int 1))) (aCons (eBin oIx (eVar 1) (eC (.int 1))) (aNil)))) (aNil))))
def f_joined : FF := fnF 2 2 b_joined
def b_divided : FS := sSeq (sIf (tB (eBin oEq (eVar 1) (eC (.int 0)))) (sRet (eC (.int 0))) (sNil)) (sSeq (sAsg (eBin oDiv (eCall fAbs (aCons (eVar 0) (aNil))) (eCall fAbs (aCons (eVar 1) (aNil)))) (gNm 2)) (sRet (eCall f_wrapped (aCons (eIf (tB (eBin oEq (eBin oLt (eVar 0) (eC (.int 0))) (eBin oLt (eVar 1) (eC (.int 0))))) (eVar 2) (eUn oNeg (eVar 2))) (aNil)))))
def f_divided : FF := fnF 3 2 b_divided
def b_div_range : FS := sSeq (sAsg (eLc (iSeq (eTup (aCons (eBin oIx (eVar 1) (eC (.int 0))) (aCons (eBin oIx (eVar 1) (eC (.int 1))) (aCons (eUn oNeg (eC (.int 1))) (aCons (eC (.int 1)) (aNil))))))) (gNm 4) (tAnd (tB (eCh (eBin oIx (eVar 1) (eC (.int 0))) (chK oLe (eVar 4) (chL oLe (eBin oIx (eVar 1) (eC (.int 1))))))) (tB (eBin oNe (eVar 4) (eC (.int 0))))) (eVar 4) [4]) (gNm 2)) (sSeq (sAsg (eLc2 (iSeq (eBin oAdd (eVar 0) (eTup (aCons (eC (.int 0)) (aNil))))) (gNm 5) (tB (eCh (eBin oIx (eVar 0) (eC (.int 0))) (chK oLe (eVar 5) (chL oLe (eBin oIx (eVar 0) (eC (.int 1))))))) (iSeq (eVar 2)) (gNm 6) (tYs) (eCall f_divided (aCons (eVar 5) (aCons (eVar 6) (aNil)))) [5, 6] [6]) (gNm 3)) (sSeq (sIf (tB (eCh (eBin oIx (eVar 1) (eC (.int 0))) (chK oLe (eC (.int 0)) (chL oLe (eBin oIx (eVar 1) (eC (.int 1))))))) (sDrop (eBm "list" mAppend (eVar 3) (aCons (eC (.int 0)) (aNil)))) (sNil)) (sSeq (sIf (tAnd (tB (eBin oEq (eBin oIx (eVar 0) (eC (.int 0))) (eUn oNeg (eC k_HALF)))) (tB (eCh (eBin oIx (eVar 1) (eC (.int 0))) (chK oLe (eUn oNeg (eC (.int 1))) (chL oLe (eBin oIx (eVar 1) (eC (.int 1)))))))) (sRet (eC k_ALL)) (sNil)) (sRet (eTup (aCons (eCall fMin (aCons (eVar 3) (aNil))) (aCons (eCall fMax (aCons (eVar 3) (aNil))) (aNil))))))))
def f_div_range : FF := fnF 7 2 b_div_range
def b_kept : FS := sRet (eIf (tAnd (tB (eBin oLe (eUn oNeg (eC k_HALF)) (eVar 0))) (tB (eBin oLt (eVar 1) (eC k_HALF)))) (eTup (aCons (eVar 0) (aCons (eVar 1) (aNil)))) (eC k_ALL))
def f_kept : FF := fnF 2 2 b_kept
def b_done_range : FS := sSeq (sIf (tB (eBin oEq (eVar 0) (eC (.str "add")))) (sRet (eCall f_kept (aCons (eBin oAdd (eBin oIx (eVar 1) (eC (.int 0))) (eBin oIx (eVar 2) (eC (.int 0)))) (aCons (eBin oAdd (eBin oIx (eVar 1) (eC (.int 1))) (eBin oIx (eVar 2) (eC (.int 1)))) (aNil))))) (sNil)) (sSeq (sIf (tB (eBin oEq (eVar 0) (eC (.str "sub")))) (sRet (eCall f_kept (aCons (eBin oSub (eBin oIx (eVar 1) (eC (.int 0))) (eBin oIx (eVar 2) (eC (.int 1)))) (aCons (eBin oSub (eBin oIx (eVar 1) (eC (.int 1))) (eBin oIx (eVar 2) (eC (.int 0)))) (aNil))))) (sNil)) (sSeq (sIf (tB (eBin oEq (eVar 0) (eC (.str "mul")))) (sSeq (sAsg (eLc2 (iSeq (eVar 1)) (gNm 4) (tYs) (iSeq (eVar 2)) (gNm 5) (tYs) (eBin oMul (eVar 4) (eVar 5)) [4, 5] [5]) (gNm 3)) (sRet (eCall f_kept (aCons (eCall fMin (aCons (eVar 3) (aNil))) (aCons (eCall fMax (aCons (eVar 3) (aNil))) (aNil)))))) (sNil)) (sSeq (sIf (tB (eBin oEq (eVar 0) (eC (.str "div")))) (sRet (eCall f_div_range (aCons (eVar 1) (aCons (eVar 2) (aNil))))) (sNil)) (sSeq (sIf (tB (eBin oEq (eVar 0) (eC (.str "less")))) (sRet (eIf (tB (eBin oLt (eBin oIx (eVar 1) (eC (.int 1))) (eBin oIx (eVar 2) (eC (.int 0))))) (eTup (aCons (eC (.int 1)) (aCons (eC (.int 1)) (aNil)))) (eIf (tB (eBin oGe (eBin oIx (eVar 1) (eC (.int 0))) (eBin oIx (eVar 2) (eC (.int 1))))) (eTup (aCons (eC (.int 0)) (aCons (eC (.int 0)) (aNil)))) (eC k_BOTH)))) (sNil)) (sSeq (sIf (tB (eCh (eBin oIx (eVar 1) (eC (.int 0))) (chK oEq (eBin oIx (eVar 1) (eC (.int 1))) (chK oEq (eBin oIx (eVar 2) (eC (.int 0))) (chL oEq (eBin oIx (eVar 2) (eC (.int 1)))))))) (sRet (eTup (aCons (eC (.int 1)) (aCons (eC (.int 1)) (aNil))))) (sNil)) (sRet (eIf (tOr (tB (eBin oLt (eBin oIx (eVar 1) (eC (.int 1))) (eBin oIx (eVar 2) (eC (.int 0))))) (tB (eBin oLt (eBin oIx (eVar 2) (eC (.int 1))) (eBin oIx (eVar 1) (eC (.int 0)))))) (eTup (aCons (eC (.int 0)) (aCons (eC (.int 0)) (aNil)))) (eC k_BOTH))))))))
def f_done_range : FF := fnF 6 3 b_done_range
def b__law_exact : FS := sSeq (sIf (tB (eBin oEq (eVar 0) (eC (.str "div")))) (sSeq (sAsg (eIf (tB (eBin oEq (eVar 2) (eC (.int 0)))) (eC (.int 0)) (eBin oDiv (eCall fAbs (aCons (eVar 1) (aNil))) (eCall fAbs (aCons (eVar 2) (aNil))))) (gNm 3)) (sRet (eIf (tB (eBin oEq (eBin oLt (eVar 1) (eC (.int 0))) (eBin oLt (eVar 2) (eC (.int 0))))) (eVar 3) (eUn oNeg (eVar 3))))) (sNil)) (sRet (eBin oIx (eDic (aPairs [(eC (.str "add"), eBin oAdd (eVar 1) (eVar 2)), (eC (.str "sub"), eBin oSub (eVar 1) (eVar 2)), (eC (.str "mul"), eBin oMul (eVar 1) (eVar 2)), (eC (.str "less"), eCall fInt (aCons (eBin oLt (eVar 1) (eVar 2)) (aNil))), (eC (.str "same"), eCall fInt (aCons (eBin oEq (eVar 1) (eVar 2)) (aNil)))])) (eVar 0)))
def f__law_exact : FF := fnF 4 3 b__law_exact
def b_done : FS := sSeq (sIf (tB (eBin oEq (eVar 0) (eC (.str "add")))) (sRet (eCall f_wrapped (aCons (eBin oAdd (eVar 1) (eVar 2)) (aNil)))) (sNil)) (sSeq (sIf (tB (eBin oEq (eVar 0) (eC (.str "sub")))) (sRet (eCall f_wrapped (aCons (eBin oSub (eVar 1) (eVar 2)) (aNil)))) (sNil)) (sSeq (sIf (tB (eBin oEq (eVar 0) (eC (.str "mul")))) (sRet (eCall f_wrapped (aCons (eBin oMul (eVar 1) (eVar 2)) (aNil)))) (sNil)) (sSeq (sIf (tB (eBin oEq (eVar 0) (eC (.str "div")))) (sRet (eCall f_divided (aCons (eVar 1) (aCons (eVar 2) (aNil))))) (sNil)) (sSeq (sIf (tB (eBin oEq (eVar 0) (eC (.str "less")))) (sRet (eCall fInt (aCons (eBin oLt (eVar 1) (eVar 2)) (aNil)))) (sNil)) (sRet (eCall fInt (aCons (eBin oEq (eVar 1) (eVar 2)) (aNil))))))))
def f_done : FF := fnF 3 3 b_done
def b__law_drawn_range : FS := sSeq (sAsg (eBin oIx (eLst (aCons (eBin oSub (eCall f__law_take (aCons (eVar 0) (aCons (eC (.int 9)) (aNil)))) (eC (.int 5))) (aCons (eBin oSub (eCall f__law_take (aCons (eVar 0) (aCons (eC (.int 40)) (aNil)))) (eC (.int 20))) (aCons (eBin oAdd (eC (.int 1000)) (eCall f__law_take (aCons (eVar 0) (aCons (eC (.int 99)) (aNil))))) (aCons (eBin oAdd (eUn oNeg (eC (.int 2147483648))) (eCall f__law_take (aCons (eVar 0) (aCons (eC (.int 4)) (aNil))))) (aCons (eBin oAdd (eC (.int 2147483640)) (eCall f__law_take (aCons (eVar 0) (aCons (eC (.int 8)) (aNil))))) (aCons (eBin oAdd (eUn oNeg (eC (.int 46342))) (eCall f__law_take (aCons (eVar 0) (aCons (eC (.int 4)) (aNil))))) (aNil)))))))) (eCall f__law_take (aCons (eVar 0) (aCons (eC (.int 6)) (aNil))))) (gNm 1)) (sRet (eTup (aCons (eVar 1) (aCons (eCall fMin (aCons (eC (.int 2147483647)) (aCons (eBin oAdd (eVar 1) (eCall f__law_take (aCons (eVar 0) (aCons (eC (.int 9)) (aNil))))) (aNil)))) (aNil)))))
def f__law_drawn_range : FF := fnF 2 1 b__law_drawn_range
def b__law_tape : FS := sSeq (sAsg (eLc (iSeq (eVar 0)) (gNm 3) (tYs) (eCall fAbs (aCons (eCall fInt (aCons (eVar 3) (aNil))) (aNil))) [3]) (gNm 1)) (sSeq (sAsg (eC (.int 7)) (gNm 2)) (sSeq (sFor (iSeq (eVar 1)) (gNm 3) (sAsg (eBin oMod (eCall fInt (aCons (eBin oAdd (eBin oMul (eVar 2) (eC (.int 31))) (eVar 3)) (aNil))) (eC (.int 2147483647))) (gNm 2))) (sRet (eDic (aPairs [(eC (.str "cells"), eVar 1), (eC (.str "at"), eC (.int 0)), (eC (.str "left"), eC (.int 0)), (eC (.str "seed"), eVar 2), (eC (.str "salt"), eC (.int 0))])))))
def f__law_tape : FF := fnF 4 1 b__law_tape
def b_law : FS := sSeq (sAsg (eCall f__law_tape (aCons (eVar 0) (aNil))) (gNm 1)) (sSeq (sFor (iRng1 (aCons (eC (.int 8)) (aNil))) (gNm 2) (sSeq (sAsg (eTup (aCons (eCall f__law_drawn_range (aCons (eVar 1) (aNil))) (aCons (eCall f__law_drawn_range (aCons (eVar 1) (aNil))) (aNil)))) (gTp 2 (gCns (gNm 3) (gCns (gNm 4) (gNils))))) (sSeq (sFor (iSeq (eTup (aCons (eC (.str "add")) (aCons (eC (.str "sub")) (aCons (eC (.str "mul")) (aCons (eC (.str "div")) (aCons (eC (.str "less")) (aCons (eC (.str "same")) (aNil))))))))) (gNm 5) (sSeq (sPar [6, 7] (aCons (eLst (aNil)) (aCons (eLst (aNil)) (aNil)))) (sSeq (sFor (iRng2 (aCons (eBin oIx (eVar 3) (eC (.int 0))) (aCons (eBin oAdd (eBin oIx (eVar 3) (eC (.int 1))) (eC (.int 1))) (aNil)))) (gNm 8) (sFor (iRng2 (aCons (eBin oIx (eVar 4) (eC (.int 0))) (aCons (eBin oAdd (eBin oIx (eVar 4) (eC (.int 1))) (eC (.int 1))) (aNil)))) (gNm 9) (sSeq (sDrop (eBm "list" mAppend (eVar 6) (aCons (eCall f__law_exact (aCons (eVar 5) (aCons (eVar 8) (aCons (eVar 9) (aNil))))) (aNil)))) (sDrop (eBm "list" mAppend (eVar 7) (aCons (eCall f_done (aCons (eVar 5) (aCons (eVar 8) (aCons (eVar 9) (aNil))))) (aNil))))))) (sSeq (sIf (tOr (tB (eBin oNe (eVar 7) (eLc (iSeq (eVar 6)) (gNm 16) (tYs) (eCall f__law_wrap (aCons (eVar 16) (aNil))) [16]))) (tAnd (tB (eBin oEq (eVar 5) (eC (.str "div")))) (tB (eBin oNe (eCall f_divided (aCons (eBin oIx (eVar 3) (eC (.int 0))) (aCons (eBin oIx (eVar 4) (eC (.int 1))) (aNil)))) (eCall f__law_wrap (aCons (eCall f__law_exact (aCons (eC (.str "div")) (aCons (eBin oIx (eVar 3) (eC (.int 0))) (aCons (eBin oIx (eVar 4) (eC (.int 1))) (aNil))))) (aNil))))))) (sRet (eC (.bl false))) (sNil)) (sSeq (sPar [10, 11] (aCons (eCall fMin (aCons (eVar 6) (aNil))) (aCons (eCall fMax (aCons (eVar 6) (aNil))) (aNil)))) (sSeq (sAsg (eIf (tAnd (tB (eBin oLe (eUn oNeg (eC (.int 2147483648))) (eVar 10))) (tB (eBin oLe (eVar 11) (eC (.int 2147483647))))) (eTup (aCons (eVar 10) (aCons (eVar 11) (aNil)))) (eTup (aCons (eUn oNeg (eC (.int 2147483648))) (aCons (eC (.int 2147483647)) (aNil))))) (gNm 12)) (sIf (tOr (tB (eBin oNe (eCall f_done_range (aCons (eVar 5) (aCons (eVar 3) (aCons (eVar 4) (aNil))))) (eVar 12))) (tAnd (tB (eBin oIn (eVar 5) (eTup (aCons (eC (.str "add")) (aCons (eC (.str "mul")) (aCons (eC (.str "same")) (aNil))))))) (tB (eBin oNe (eCall f_done_range (aCons (eVar 5) (aCons (eVar 4) (aCons (eVar 3) (aNil))))) (eVar 12))))) (sRet (eC (.bl false))) (sNil)))))))) (sSeq (sAsg (eTup (aCons (eCall fMin (aCons (eBin oIx (eVar 3) (eC (.int 0))) (aCons (eBin oIx (eVar 4) (eC (.int 0))) (aNil)))) (aCons (eCall fMax (aCons (eBin oIx (eVar 3) (eC (.int 1))) (aCons (eBin oIx (eVar 4) (eC (.int 1))) (aNil)))) (aNil)))) (gNm 13)) (sSeq (sIf (tOr (tB (eBin oNe (eCall f_joined (aCons (eVar 3) (aCons (eVar 4) (aNil)))) (eVar 13))) (tOr (tB (eBin oNe (eCall f_joined (aCons (eVar 4) (aCons (eVar 3) (aNil)))) (eVar 13))) (tOr (tB (eBin oNe (eCall f_is_within (aCons (eVar 3) (aCons (eVar 4) (aNil)))) (eAnd (eBin oLe (eBin oIx (eVar 4) (eC (.int 0))) (eBin oIx (eVar 3) (eC (.int 0)))) (eBin oLe (eBin oIx (eVar 3) (eC (.int 1))) (eBin oIx (eVar 4) (eC (.int 1))))))) (tNot (tTru (eCall f_is_within (aCons (eVar 3) (aCons (eVar 13) (aNil))))))))) (sRet (eC (.bl false))) (sNil)) (sSeq (sAsg (eSortSet (eBin oAdd (eLc (iRng1 (aCons (eCall f__law_take (aCons (eVar 1) (aCons (eC (.int 6)) (aNil)))) (aNil))) (gNm 17) (tYs) (eBin oSub (eCall f__law_take (aCons (eVar 1) (aCons (eC (.int 60)) (aNil)))) (eC (.int 30))) [17]) (eLst (aCons (eC (.int 0)) (aCons (eC (.int 1)) (aNil)))))) (gNm 14)) (sSeq (sAsg (eIf (tB (eBin oGe (eBin oIx (eVar 4) (eC (.int 0))) (eBin oIx (eVar 3) (eC (.int 0))))) (eBin oIx (eVar 3) (eC (.int 0))) (eCall fMax (aCons (eBin oAdd (eLc (iSeq (eVar 14)) (gNm 18) (tB (eBin oLe (eVar 18) (eBin oIx (eVar 4) (eC (.int 0))))) (eVar 18) [18]) (eLst (aCons (eUn oNeg (eC (.int 2147483648))) (aNil)))) (aNil)))) (gNm 10)) (sSeq (sAsg (eIf (tB (eBin oLe (eBin oIx (eVar 4) (eC (.int 1))) (eBin oIx (eVar 3) (eC (.int 1))))) (eBin oIx (eVar 3) (eC (.int 1))) (eCall fMin (aCons (eBin oAdd (eLc (iSeq (eVar 14)) (gNm 18) (tB (eBin oGe (eVar 18) (eBin oIx (eVar 4) (eC (.int 1))))) (eVar 18) [18]) (eLst (aCons (eC (.int 2147483647)) (aNil)))) (aNil)))) (gNm 11)) (sSeq (sIf (tOr (tB (eBin oNe (eCall f_widened (aCons (eVar 3) (aCons (eVar 4) (aCons (eCall fList (aCons (eVar 14) (aNil))) (aNil))))) (eTup (aCons (eVar 10) (aCons (eVar 11) (aNil)))))) (tOr (tNot (tTru (eCall f_is_within (aCons (eVar 13) (aCons (eTup (aCons (eVar 10) (aCons (eVar 11) (aNil)))) (aNil)))))) (tB (eBin oNe (eCall f_widened (aCons (eTup (aCons (eVar 10) (aCons (eVar 11) (aNil)))) (aCons (eVar 4) (aCons (eCall fList (aCons (eVar 14) (aNil))) (aNil))))) (eTup (aCons (eVar 10) (aCons (eVar 11) (aNil)))))))) (sRet (eC (.bl false))) (sNil)) (sSeq (sAsg (eBin oAdd (eBin oMul (eBin oIx (eLst (aCons (eC (.int 2147483648)) (aCons (eUn oNeg (eC (.int 2147483649))) (aCons (eC (.int 4294967296)) (aCons (eBin oPow (eC (.int 10)) (eC (.int 18))) (aNil)))))) (eCall f__law_take (aCons (eVar 1) (aCons (eC (.int 4)) (aNil))))) (eBin oAdd (eC (.int 1)) (eCall f__law_take (aCons (eVar 1) (aCons (eC (.int 5)) (aNil)))))) (eCall f__law_take (aCons (eVar 1) (aCons (eC (.int 9)) (aNil))))) (gNm 15)) (sIf (tOr (tB (eBin oNe (eCall f_wrapped (aCons (eVar 15) (aNil))) (eCall f__law_wrap (aCons (eVar 15) (aNil))))) (tB (eBin oNe (eCall f_wrapped (aCons (eBin oIx (eVar 3) (eC (.int 0))) (aNil))) (eBin oIx (eVar 3) (eC (.int 0)))))) (sRet (eC (.bl false))) (sNil)))))))))))) (sRet (eC (.bl true))))
def f_law : FF := fnF 19 1 b_law
structure Txt (c : FC) (mg : Str → Option Value) : Prop where
  K_ALL : Kp c mg "ALL" k_ALL
  K_BOTH : Kp c mg "BOTH" k_BOTH
  K_HALF : Kp c mg "HALF" k_HALF
  n_abs : mg "abs" = none
  n_int : mg "int" = none
  n_len : mg "len" = none
  n_list : mg "list" = none
  n_max : mg "max" = none
  n_min : mg "min" = none
  n_range : mg "range" = none
  n_set : mg "set" = none
  n_sorted : mg "sorted" = none
section
variable {c : FC} {P : Program} {w : World} {mg : Str → Option Value} {base : Heap}
abbrev N_wrapped : List Str := ["number"]
theorem sc_wrapped : FnScope N_wrapped ["number"] (defScope s_wrapped) := ⟨rfl, rfl, rfl, by decide +kernel, rfl, by decide +kernel, by decide +kernel⟩
theorem d_wrapped {f : Addr} {fd : FuncData} (F : Fun c.K "wrapped" "wrapped" s_wrapped f fd) (T : Txt c mg) : FnOk P w c.K mg base CX0 1 f fd ["number"] (spF c 1 f_wrapped) := by
  refine F.ok sc_wrapped len_spF (fun cdv A outer s H vs Q E hr h => ⟨_, ?_, start_red (N := N_wrapped) (np := 1) (b := b_wrapped) h⟩)
  exact q_sone (q_ret (q_bin (dSub) (q_bin (dMod) (q_bin (dAdd rfl) (q_var 0) (q_globK T.K_HALF rfl)) (q_bin (dMul) (q_int) (q_globK T.K_HALF rfl))) (q_globK T.K_HALF rfl)))
abbrev N__law_wrap : List Str := ["n"]
theorem sc__law_wrap : FnScope N__law_wrap ["n"] (defScope s__law_wrap) := ⟨rfl, rfl, rfl, by decide +kernel, rfl, by decide +kernel, by decide +kernel⟩
theorem d__law_wrap {f : Addr} {fd : FuncData} (F : Fun c.K "_law_wrap" "_law_wrap" s__law_wrap f fd) (T : Txt c mg) : FnOk P w c.K mg base CX0 1 f fd ["n"] (spF c 1 f__law_wrap) := by
  refine F.ok sc__law_wrap len_spF (fun cdv A outer s H vs Q E hr h => ⟨_, ?_, start_red (N := N__law_wrap) (np := 1) (b := b__law_wrap) h⟩)
  exact q_sone (q_ret (q_bin (dSub) (q_bin (dMod) (q_bin (dAdd rfl) (q_cb (pe_callTy (cInt) rfl T.n_int (by decide +kernel) (q_cons (q_var 0) (q_nil)))) (q_int)) (q_int)) (q_int)))
abbrev N__law_take : List Str := ["tape", "many", "drawn", "mixed"]
theorem sc__law_take : FnScope N__law_take ["tape", "many"] (defScope s__law_take) := ⟨rfl, rfl, rfl, by decide +kernel, rfl, by decide +kernel, by decide +kernel⟩
theorem d__law_take {f : Addr} {fd : FuncData} (F : Fun c.K "_law_take" "_law_take" s__law_take f fd) (T : Txt c mg) : FnOk P w c.K mg base CX0 1 f fd ["tape", "many"] (spF c 2 f__law_take) := by
  refine F.ok sc__law_take len_spF (fun cdv A outer s H vs Q E hr h => ⟨_, ?_, start_red (N := N__law_take) (np := 2) (b := b__law_take) h⟩)
  exact q_scons (q_sif (PW.pt (q_wand (q_tcmp (dEq rfl hr.units) (q_ix (dIx rfl hr.units) (q_var 0) (q_str)) (q_int)) (q_wand1 (q_tcmp (dLt) (q_ix (dIx rfl hr.units) (q_var 0) (q_str)) (q_cb (pe_callB (cLen rfl) rfl T.n_len (by decide +kernel) (q_cons (q_ix (dIx rfl hr.units) (q_var 0) (q_str)) (q_nil)))))))) (q_scons (q_asg (q_ix (dIx rfl hr.units) (q_ix (dIx rfl hr.units) (q_var 0) (q_str)) (q_ix (dIx rfl hr.units) (q_var 0) (q_str))) (q_gix hr.units (q_var 0) (q_str))) (q_sone (q_asg (q_bin (dAdd rfl) (q_ix (dIx rfl hr.units) (q_var 0) (q_str)) (q_int)) (q_gix hr.units (q_var 0) (q_str))))) (q_snil)) (q_scons (q_sif (q_tcmp (dGt) (q_ix (dIx rfl hr.units) (q_var 0) (q_str)) (q_int)) (q_scons (q_asg (q_bin (dMod) (q_cb (pe_callTy (cInt) rfl T.n_int (by decide +kernel) (q_cons (q_ix (dIx rfl hr.units) (q_var 0) (q_str)) (q_nil)))) (q_var 1)) (q_gnm sc__law_take.nd)) (q_scons (q_asg (q_bin (dDiv) (q_ix (dIx rfl hr.units) (q_var 0) (q_str)) (q_var 1)) (q_gix hr.units (q_var 0) (q_str))) (q_sone (q_ret (q_var 2))))) (q_snil)) (q_scons (q_asg (q_bin (dAdd rfl) (q_ix (dIx rfl hr.units) (q_var 0) (q_str)) (q_int)) (q_gix hr.units (q_var 0) (q_str))) (q_scons (q_asg (q_bin (dMod) (q_cb (pe_callTy (cInt) rfl T.n_int (by decide +kernel) (q_cons (q_bin (dAdd rfl) (q_bin (dMul) (q_ix (dIx rfl hr.units) (q_var 0) (q_str)) (q_int)) (q_bin (dMul) (q_ix (dIx rfl hr.units) (q_var 0) (q_str)) (q_int))) (q_nil)))) (q_int)) (q_gnm sc__law_take.nd)) (q_scons (q_asg (q_bin (dMod) (q_cb (pe_callTy (cInt) rfl T.n_int (by decide +kernel) (q_cons (q_bin (dAdd rfl) (q_bin (dAdd rfl) (q_bin (dMul) (q_var 3) (q_var 3)) (q_bin (dMul) (q_ix (dIx rfl hr.units) (q_var 0) (q_str)) (q_int))) (q_int)) (q_nil)))) (q_int)) (q_gnm sc__law_take.nd)) (q_sone (q_ret (q_bin (dMod) (q_cb (pe_callTy (cInt) rfl T.n_int (by decide +kernel) (q_cons (q_var 3) (q_nil)))) (q_var 1))))))))
abbrev N_widened : List Str := ["old", "new", "steps", "low", "high", "step"]
theorem sc_widened : FnScope N_widened ["old", "new", "steps"] (defScope s_widened) := ⟨rfl, rfl, rfl, by decide +kernel, rfl, by decide +kernel, by decide +kernel⟩
theorem d_widened {f : Addr} {fd : FuncData} (F : Fun c.K "widened" "widened" s_widened f fd) (T : Txt c mg) : FnOk P w c.K mg base CX0 1 f fd ["old", "new", "steps"] (spF c 3 f_widened) := by
  refine F.ok sc_widened len_spF (fun cdv A outer s H vs Q E hr h => ⟨_, ?_, start_red (N := N_widened) (np := 3) (b := b_widened) h⟩)
  exact q_scons (q_asg (q_if (q_tcmp (dGe) (q_ix (dIx rfl hr.units) (q_var 1) (q_int)) (q_ix (dIx rfl hr.units) (q_var 0) (q_int))) (q_ix (dIx rfl hr.units) (q_var 0) (q_int)) (q_cb (pe_callB (cMax rfl rfl) rfl T.n_max (by decide +kernel) (q_cons (q_bin (dAdd rfl) (q_lc [("step", 5)] rfl sc_widened.nd (q_iseq rfl (q_var 2)) (blkOk_by (N := N_widened) (sc := defScope s_widened) (own := [("step", 5)]) (by decide +kernel)) (fun _ _ _ _ _ => q_gnm sc_widened.nd) (fun _ _ _ _ _ => q_ts1 (q_tcmp (dLe) (q_var 5) (q_ix (dIx rfl hr.units) (q_var 1) (q_int)))) (fun _ _ _ _ _ => q_var 5)) (q_lst (q_cons (q_un dNeg (q_globK T.K_HALF rfl)) (q_nil)))) (q_nil))))) (q_gnm sc_widened.nd)) (q_scons (q_asg (q_if (q_tcmp (dLe) (q_ix (dIx rfl hr.units) (q_var 1) (q_int)) (q_ix (dIx rfl hr.units) (q_var 0) (q_int))) (q_ix (dIx rfl hr.units) (q_var 0) (q_int)) (q_cb (pe_callB (cMin rfl rfl) rfl T.n_min (by decide +kernel) (q_cons (q_bin (dAdd rfl) (q_lc [("step", 5)] rfl sc_widened.nd (q_iseq rfl (q_var 2)) (blkOk_by (N := N_widened) (sc := defScope s_widened) (own := [("step", 5)]) (by decide +kernel)) (fun _ _ _ _ _ => q_gnm sc_widened.nd) (fun _ _ _ _ _ => q_ts1 (q_tcmp (dGe) (q_var 5) (q_ix (dIx rfl hr.units) (q_var 1) (q_int)))) (fun _ _ _ _ _ => q_var 5)) (q_lst (q_cons (q_bin (dSub) (q_globK T.K_HALF rfl) (q_int)) (q_nil)))) (q_nil))))) (q_gnm sc_widened.nd)) (q_sone (q_ret (q_tup (q_cons (q_var 3) (q_cons (q_var 4) (q_nil)))))))
abbrev N_is_within : List Str := ["one", "two"]
theorem sc_is_within : FnScope N_is_within ["one", "two"] (defScope s_is_within) := ⟨rfl, rfl, rfl, by decide +kernel, rfl, by decide +kernel, by decide +kernel⟩
theorem d_is_within {f : Addr} {fd : FuncData} (F : Fun c.K "is_within" "is_within" s_is_within f fd) (T : Txt c mg) : FnOk P w c.K mg base CX0 1 f fd ["one", "two"] (spF c 2 f_is_within) := by
  refine F.ok sc_is_within len_spF (fun cdv A outer s H vs Q E hr h => ⟨_, ?_, start_red (N := N_is_within) (np := 2) (b := b_is_within) h⟩)
  exact q_sone (q_ret (q_and rfl (q_cmp (dLe) (q_ix (dIx rfl hr.units) (q_var 1) (q_int)) (q_ix (dIx rfl hr.units) (q_var 0) (q_int))) (q_one (q_cmp (dLe) (q_ix (dIx rfl hr.units) (q_var 0) (q_int)) (q_ix (dIx rfl hr.units) (q_var 1) (q_int))))))
abbrev N_joined : List Str := ["one", "two"]
theorem sc_joined : FnScope N_joined ["one", "two"] (defScope s_joined) := ⟨rfl, rfl, rfl, by decide +kernel, rfl, by decide +kernel, by decide +kernel⟩
theorem d_joined {f : Addr} {fd : FuncData} (F : Fun c.K "joined" "joined" s_joined f fd) (T : Txt c mg) : FnOk P w c.K mg base CX0 1 f fd ["one", "two"] (spF c 2 f_joined) := by
  refine F.ok sc_joined len_spF (fun cdv A outer s H vs Q E hr h => ⟨_, ?_, start_red (N := N_joined) (np := 2) (b := b_joined) h⟩)
  exact q_sone (q_ret (q_tup (q_cons (q_cb (pe_callB (cMin rfl rfl) rfl T.n_min (by decide +kernel) (q_cons (q_ix (dIx rfl hr.units) (q_var 0) (q_int)) (q_cons (q_ix (dIx rfl hr.units) (q_var 1) (q_int)) (q_nil))))) (q_cons (q_cb (pe_callB (cMax rfl rfl) rfl T.n_max (by decide +kernel) (q_cons (q_ix (dIx rfl hr.units) (q_var 0) (q_int)) (q_cons (q_ix (dIx rfl hr.units) (q_var 1) (q_int)) (q_nil))))) (q_nil)))))
abbrev N_divided : List Str := ["one", "two", "size"]
theorem sc_divided : FnScope N_divided ["one", "two"] (defScope s_divided) := ⟨rfl, rfl, rfl, by decide +kernel, rfl, by decide +kernel, by decide +kernel⟩
theorem d_divided {f : Addr} {fd : FuncData} (F : Fun c.K "divided" "divided" s_divided f fd) (T : Txt c mg) (C_wrapped : Fp c P w mg base 1 "wrapped" ["number"] f_wrapped) : FnOk P w c.K mg base CX0 2 f fd ["one", "two"] (spF c 2 f_divided) := by
  refine F.ok sc_divided len_spF (fun cdv A outer s H vs Q E hr h => ⟨_, ?_, start_red (N := N_divided) (np := 2) (b := b_divided) h⟩)
  exact q_scons (q_sif (q_tcmp (dEq rfl hr.units) (q_var 1) (q_int)) (q_sone (q_ret (q_int))) (q_snil)) (q_scons (q_asg (q_bin (dDiv) (q_cb (pe_callB (cAbs) rfl T.n_abs (by decide +kernel) (q_cons (q_var 0) (q_nil)))) (q_cb (pe_callB (cAbs) rfl T.n_abs (by decide +kernel) (q_cons (q_var 1) (q_nil))))) (q_gnm sc_divided.nd)) (q_sone (q_ret (q_callP rfl (C_wrapped.mono (by decide)) hr rfl (q_cons (q_if (q_tcmp (dEq rfl hr.units) (q_cmp (dLt) (q_var 0) (q_int)) (q_cmp (dLt) (q_var 1) (q_int))) (q_var 2) (q_un dNeg (q_var 2))) (q_nil)) (lenS len0)))))
abbrev N_div_range : List Str := ["one", "two", "ends", "corners", "number", "a", "b"]
theorem sc_div_range : FnScope N_div_range ["one", "two"] (defScope s_div_range) := ⟨rfl, rfl, rfl, by decide +kernel, rfl, by decide +kernel, by decide +kernel⟩
theorem d_div_range {f : Addr} {fd : FuncData} (F : Fun c.K "div_range" "div_range" s_div_range f fd) (T : Txt c mg) (C_divided : Fp c P w mg base 2 "divided" ["one", "two"] f_divided) : FnOk P w c.K mg base CX0 3 f fd ["one", "two"] (spF c 2 f_div_range) := by
  refine F.ok sc_div_range len_spF (fun cdv A outer s H vs Q E hr h => ⟨_, ?_, start_red (N := N_div_range) (np := 2) (b := b_div_range) h⟩)
  exact q_scons (q_asg (q_lc [("number", 4)] rfl sc_div_range.nd (q_iseq rfl (q_tup (q_cons (q_ix (dIx rfl hr.units) (q_var 1) (q_int)) (q_cons (q_ix (dIx rfl hr.units) (q_var 1) (q_int)) (q_cons (q_un dNeg (q_int)) (q_cons (q_int) (q_nil))))))) (blkOk_by (N := N_div_range) (sc := defScope s_div_range) (own := [("number", 4)]) (by decide +kernel)) (fun _ _ _ _ _ => q_gnm sc_div_range.nd) (fun _ _ _ _ _ => q_ts1 (PW.pt (q_wand (q_tch (q_ix (dIx rfl hr.units) (q_var 1) (q_int)) (q_chK (dLe) (q_var 4) (q_chL (dLe) (q_ix (dIx rfl hr.units) (q_var 1) (q_int))))) (q_wand1 (q_tcmp (dNe rfl hr.units) (q_var 4) (q_int)))))) (fun _ _ _ _ _ => q_var 4)) (q_gnm sc_div_range.nd)) (q_scons (q_setLc2 (ps_setLc2 (i := 3) (own := [("a", 5), ("b", 6)]) (vs1 := [6]) rfl sc_div_range.nd rfl rfl (sw_true rfl rfl rfl (by decide +kernel)) (q_iseq rfl (q_bin (dAdd rfl) (q_var 0) (q_tup (q_cons (q_int) (q_nil))))) (blkOk_by (N := N_div_range) (sc := defScope s_div_range) (own := [("a", 5), ("b", 6)]) (by decide +kernel)) (by decide) (fun _ _ _ _ _ => q_gnm sc_div_range.nd) (fun _ _ _ _ _ => q_ts1 (q_tch (q_ix (dIx rfl hr.units) (q_var 0) (q_int)) (q_chK (dLe) (q_var 5) (q_chL (dLe) (q_ix (dIx rfl hr.units) (q_var 0) (q_int)))))) (fun _ _ _ _ _ => q_iseq rfl (q_var 2)) (fun _ _ _ _ _ => q_gnm sc_div_range.nd) (fun _ _ _ _ _ => q_tsn) (fun _ _ _ _ _ => q_callP rfl (C_divided.mono (by decide)) hr rfl (q_cons (q_var 5) (q_cons (q_var 6) (q_nil))) (lenS (lenS len0))))) (q_scons (q_sif (q_tch (q_ix (dIx rfl hr.units) (q_var 1) (q_int)) (q_chK (dLe) (q_int) (q_chL (dLe) (q_ix (dIx rfl hr.units) (q_var 1) (q_int))))) (q_sone (q_drop (q_bm rfl (pe_bm PySem.F.plainAttrs_list PySem.F.slot_list_append PySem.F.type_list_append mkAppend (q_var 3) (q_cons (q_int) (q_nil)))))) (q_snil)) (q_scons (q_sif (PW.pt (q_wand (q_tcmp (dEq rfl hr.units) (q_ix (dIx rfl hr.units) (q_var 0) (q_int)) (q_un dNeg (q_globK T.K_HALF rfl))) (q_wand1 (q_tch (q_ix (dIx rfl hr.units) (q_var 1) (q_int)) (q_chK (dLe) (q_un dNeg (q_int)) (q_chL (dLe) (q_ix (dIx rfl hr.units) (q_var 1) (q_int)))))))) (q_sone (q_ret (q_globK T.K_ALL rfl))) (q_snil)) (q_sone (q_ret (q_tup (q_cons (q_cb (pe_callB (cMin rfl rfl) rfl T.n_min (by decide +kernel) (q_cons (q_var 3) (q_nil)))) (q_cons (q_cb (pe_callB (cMax rfl rfl) rfl T.n_max (by decide +kernel) (q_cons (q_var 3) (q_nil)))) (q_nil)))))))))
abbrev N_kept : List Str := ["low", "high"]
theorem sc_kept : FnScope N_kept ["low", "high"] (defScope s_kept) := ⟨rfl, rfl, rfl, by decide +kernel, rfl, by decide +kernel, by decide +kernel⟩
theorem d_kept {f : Addr} {fd : FuncData} (F : Fun c.K "kept" "kept" s_kept f fd) (T : Txt c mg) : FnOk P w c.K mg base CX0 1 f fd ["low", "high"] (spF c 2 f_kept) := by
  refine F.ok sc_kept len_spF (fun cdv A outer s H vs Q E hr h => ⟨_, ?_, start_red (N := N_kept) (np := 2) (b := b_kept) h⟩)
  exact q_sone (q_ret (q_if (PW.pt (q_wand (q_tcmp (dLe) (q_un dNeg (q_globK T.K_HALF rfl)) (q_var 0)) (q_wand1 (q_tcmp (dLt) (q_var 1) (q_globK T.K_HALF rfl))))) (q_tup (q_cons (q_var 0) (q_cons (q_var 1) (q_nil)))) (q_globK T.K_ALL rfl)))
abbrev N_done_range : List Str := ["name", "one", "two", "corners", "a", "b"]
theorem sc_done_range : FnScope N_done_range ["name", "one", "two"] (defScope s_done_range) := ⟨rfl, rfl, rfl, by decide +kernel, rfl, by decide +kernel, by decide +kernel⟩
theorem d_done_range {f : Addr} {fd : FuncData} (F : Fun c.K "done_range" "done_range" s_done_range f fd) (T : Txt c mg) (C_div_range : Fp c P w mg base 3 "div_range" ["one", "two"] f_div_range) (C_kept : Fp c P w mg base 1 "kept" ["low", "high"] f_kept) : FnOk P w c.K mg base CX0 4 f fd ["name", "one", "two"] (spF c 3 f_done_range) := by
  refine F.ok sc_done_range len_spF (fun cdv A outer s H vs Q E hr h => ⟨_, ?_, start_red (N := N_done_range) (np := 3) (b := b_done_range) h⟩)
  exact q_scons (q_sif (q_tcmp (dEq rfl hr.units) (q_var 0) (q_str)) (q_sone (q_ret (q_callP rfl (C_kept.mono (by decide)) hr rfl (q_cons (q_bin (dAdd rfl) (q_ix (dIx rfl hr.units) (q_var 1) (q_int)) (q_ix (dIx rfl hr.units) (q_var 2) (q_int))) (q_cons (q_bin (dAdd rfl) (q_ix (dIx rfl hr.units) (q_var 1) (q_int)) (q_ix (dIx rfl hr.units) (q_var 2) (q_int))) (q_nil))) (lenS (lenS len0))))) (q_snil)) (q_scons (q_sif (q_tcmp (dEq rfl hr.units) (q_var 0) (q_str)) (q_sone (q_ret (q_callP rfl (C_kept.mono (by decide)) hr rfl (q_cons (q_bin (dSub) (q_ix (dIx rfl hr.units) (q_var 1) (q_int)) (q_ix (dIx rfl hr.units) (q_var 2) (q_int))) (q_cons (q_bin (dSub) (q_ix (dIx rfl hr.units) (q_var 1) (q_int)) (q_ix (dIx rfl hr.units) (q_var 2) (q_int))) (q_nil))) (lenS (lenS len0))))) (q_snil)) (q_scons (q_sif (q_tcmp (dEq rfl hr.units) (q_var 0) (q_str)) (q_scons (q_setLc2 (ps_setLc2 (i := 3) (own := [("a", 4), ("b", 5)]) (vs1 := [5]) rfl sc_done_range.nd rfl rfl (sw_true rfl rfl rfl (by decide +kernel)) (q_iseq rfl (q_var 1)) (blkOk_by (N := N_done_range) (sc := defScope s_done_range) (own := [("a", 4), ("b", 5)]) (by decide +kernel)) (by decide) (fun _ _ _ _ _ => q_gnm sc_done_range.nd) (fun _ _ _ _ _ => q_tsn) (fun _ _ _ _ _ => q_iseq rfl (q_var 2)) (fun _ _ _ _ _ => q_gnm sc_done_range.nd) (fun _ _ _ _ _ => q_tsn) (fun _ _ _ _ _ => q_bin (dMul) (q_var 4) (q_var 5)))) (q_sone (q_ret (q_callP rfl (C_kept.mono (by decide)) hr rfl (q_cons (q_cb (pe_callB (cMin rfl rfl) rfl T.n_min (by decide +kernel) (q_cons (q_var 3) (q_nil)))) (q_cons (q_cb (pe_callB (cMax rfl rfl) rfl T.n_max (by decide +kernel) (q_cons (q_var 3) (q_nil)))) (q_nil))) (lenS (lenS len0)))))) (q_snil)) (q_scons (q_sif (q_tcmp (dEq rfl hr.units) (q_var 0) (q_str)) (q_sone (q_ret (q_callP rfl (C_div_range.mono (by decide)) hr rfl (q_cons (q_var 1) (q_cons (q_var 2) (q_nil))) (lenS (lenS len0))))) (q_snil)) (q_scons (q_sif (q_tcmp (dEq rfl hr.units) (q_var 0) (q_str)) (q_sone (q_ret (q_if (q_tcmp (dLt) (q_ix (dIx rfl hr.units) (q_var 1) (q_int)) (q_ix (dIx rfl hr.units) (q_var 2) (q_int))) (q_tup (q_cons (q_int) (q_cons (q_int) (q_nil)))) (q_if (q_tcmp (dGe) (q_ix (dIx rfl hr.units) (q_var 1) (q_int)) (q_ix (dIx rfl hr.units) (q_var 2) (q_int))) (q_tup (q_cons (q_int) (q_cons (q_int) (q_nil)))) (q_globK T.K_BOTH rfl))))) (q_snil)) (q_scons (q_sif (q_tch (q_ix (dIx rfl hr.units) (q_var 1) (q_int)) (q_chK (dEq rfl hr.units) (q_ix (dIx rfl hr.units) (q_var 1) (q_int)) (q_chK (dEq rfl hr.units) (q_ix (dIx rfl hr.units) (q_var 2) (q_int)) (q_chL (dEq rfl hr.units) (q_ix (dIx rfl hr.units) (q_var 2) (q_int)))))) (q_sone (q_ret (q_tup (q_cons (q_int) (q_cons (q_int) (q_nil)))))) (q_snil)) (q_sone (q_ret (q_if (PW.pt (q_wor (q_tcmp (dLt) (q_ix (dIx rfl hr.units) (q_var 1) (q_int)) (q_ix (dIx rfl hr.units) (q_var 2) (q_int))) (q_wor1 (q_tcmp (dLt) (q_ix (dIx rfl hr.units) (q_var 2) (q_int)) (q_ix (dIx rfl hr.units) (q_var 1) (q_int)))))) (q_tup (q_cons (q_int) (q_cons (q_int) (q_nil)))) (q_globK T.K_BOTH rfl)))))))))
abbrev N__law_exact : List Str := ["name", "a", "b", "size"]
theorem sc__law_exact : FnScope N__law_exact ["name", "a", "b"] (defScope s__law_exact) := ⟨rfl, rfl, rfl, by decide +kernel, rfl, by decide +kernel, by decide +kernel⟩
theorem d__law_exact {f : Addr} {fd : FuncData} (F : Fun c.K "_law_exact" "_law_exact" s__law_exact f fd) (T : Txt c mg) : FnOk P w c.K mg base CX0 1 f fd ["name", "a", "b"] (spF c 3 f__law_exact) := by
  refine F.ok sc__law_exact len_spF (fun cdv A outer s H vs Q E hr h => ⟨_, ?_, start_red (N := N__law_exact) (np := 3) (b := b__law_exact) h⟩)
  exact q_scons (q_sif (q_tcmp (dEq rfl hr.units) (q_var 0) (q_str)) (q_scons (q_asg (q_if (q_tcmp (dEq rfl hr.units) (q_var 2) (q_int)) (q_int) (q_bin (dDiv) (q_cb (pe_callB (cAbs) rfl T.n_abs (by decide +kernel) (q_cons (q_var 1) (q_nil)))) (q_cb (pe_callB (cAbs) rfl T.n_abs (by decide +kernel) (q_cons (q_var 2) (q_nil)))))) (q_gnm sc__law_exact.nd)) (q_sone (q_ret (q_if (q_tcmp (dEq rfl hr.units) (q_cmp (dLt) (q_var 1) (q_int)) (q_cmp (dLt) (q_var 2) (q_int))) (q_var 3) (q_un dNeg (q_var 3)))))) (q_snil)) (q_sone (q_ret (q_ix (dIx rfl hr.units) (q_dic (fs := [(eC (.str "add"), eBin oAdd (eVar 1) (eVar 2)), (eC (.str "sub"), eBin oSub (eVar 1) (eVar 2)), (eC (.str "mul"), eBin oMul (eVar 1) (eVar 2)), (eC (.str "less"), eCall fInt (aCons (eBin oLt (eVar 1) (eVar 2)) (aNil))), (eC (.str "same"), eCall fInt (aCons (eBin oEq (eVar 1) (eVar 2)) (aNil)))]) (pps_cons (q_str) (q_bin (dAdd rfl) (q_var 1) (q_var 2)) (pps_cons (q_str) (q_bin (dSub) (q_var 1) (q_var 2)) (pps_cons (q_str) (q_bin (dMul) (q_var 1) (q_var 2)) (pps_cons (q_str) (q_cb (pe_callTy (cInt) rfl T.n_int (by decide +kernel) (q_cons (q_cmp (dLt) (q_var 1) (q_var 2)) (q_nil)))) (pps_cons (q_str) (q_cb (pe_callTy (cInt) rfl T.n_int (by decide +kernel) (q_cons (q_cmp (dEq rfl hr.units) (q_var 1) (q_var 2)) (q_nil)))) (pps_nil))))))) (q_var 0))))
abbrev N_done : List Str := ["name", "one", "two"]
theorem sc_done : FnScope N_done ["name", "one", "two"] (defScope s_done) := ⟨rfl, rfl, rfl, by decide +kernel, rfl, by decide +kernel, by decide +kernel⟩
theorem d_done {f : Addr} {fd : FuncData} (F : Fun c.K "done" "done" s_done f fd) (T : Txt c mg) (C_divided : Fp c P w mg base 2 "divided" ["one", "two"] f_divided) (C_wrapped : Fp c P w mg base 1 "wrapped" ["number"] f_wrapped) : FnOk P w c.K mg base CX0 3 f fd ["name", "one", "two"] (spF c 3 f_done) := by
  refine F.ok sc_done len_spF (fun cdv A outer s H vs Q E hr h => ⟨_, ?_, start_red (N := N_done) (np := 3) (b := b_done) h⟩)
  exact q_scons (q_sif (q_tcmp (dEq rfl hr.units) (q_var 0) (q_str)) (q_sone (q_ret (q_callP rfl (C_wrapped.mono (by decide)) hr rfl (q_cons (q_bin (dAdd rfl) (q_var 1) (q_var 2)) (q_nil)) (lenS len0)))) (q_snil)) (q_scons (q_sif (q_tcmp (dEq rfl hr.units) (q_var 0) (q_str)) (q_sone (q_ret (q_callP rfl (C_wrapped.mono (by decide)) hr rfl (q_cons (q_bin (dSub) (q_var 1) (q_var 2)) (q_nil)) (lenS len0)))) (q_snil)) (q_scons (q_sif (q_tcmp (dEq rfl hr.units) (q_var 0) (q_str)) (q_sone (q_ret (q_callP rfl (C_wrapped.mono (by decide)) hr rfl (q_cons (q_bin (dMul) (q_var 1) (q_var 2)) (q_nil)) (lenS len0)))) (q_snil)) (q_scons (q_sif (q_tcmp (dEq rfl hr.units) (q_var 0) (q_str)) (q_sone (q_ret (q_callP rfl (C_divided.mono (by decide)) hr rfl (q_cons (q_var 1) (q_cons (q_var 2) (q_nil))) (lenS (lenS len0))))) (q_snil)) (q_scons (q_sif (q_tcmp (dEq rfl hr.units) (q_var 0) (q_str)) (q_sone (q_ret (q_cb (pe_callTy (cInt) rfl T.n_int (by decide +kernel) (q_cons (q_cmp (dLt) (q_var 1) (q_var 2)) (q_nil)))))) (q_snil)) (q_sone (q_ret (q_cb (pe_callTy (cInt) rfl T.n_int (by decide +kernel) (q_cons (q_cmp (dEq rfl hr.units) (q_var 1) (q_var 2)) (q_nil))))))))))
abbrev N__law_drawn_range : List Str := ["tape", "low"]
theorem sc__law_drawn_range : FnScope N__law_drawn_range ["tape"] (defScope s__law_drawn_range) := ⟨rfl, rfl, rfl, by decide +kernel, rfl, by decide +kernel, by decide +kernel⟩
theorem d__law_drawn_range {f : Addr} {fd : FuncData} (F : Fun c.K "_law_drawn_range" "_law_drawn_range" s__law_drawn_range f fd) (T : Txt c mg) (C__law_take : Fp c P w mg base 1 "_law_take" ["tape", "many"] f__law_take) : FnOk P w c.K mg base CX0 2 f fd ["tape"] (spF c 1 f__law_drawn_range) := by
  refine F.ok sc__law_drawn_range len_spF (fun cdv A outer s H vs Q E hr h => ⟨_, ?_, start_red (N := N__law_drawn_range) (np := 1) (b := b__law_drawn_range) h⟩)
  exact q_scons (q_asg (q_ix (dIx rfl hr.units) (q_lst (q_cons (q_bin (dSub) (q_callP rfl (C__law_take.mono (by decide)) hr rfl (q_cons (q_var 0) (q_cons (q_int) (q_nil))) (lenS (lenS len0))) (q_int)) (q_cons (q_bin (dSub) (q_callP rfl (C__law_take.mono (by decide)) hr rfl (q_cons (q_var 0) (q_cons (q_int) (q_nil))) (lenS (lenS len0))) (q_int)) (q_cons (q_bin (dAdd rfl) (q_int) (q_callP rfl (C__law_take.mono (by decide)) hr rfl (q_cons (q_var 0) (q_cons (q_int) (q_nil))) (lenS (lenS len0)))) (q_cons (q_bin (dAdd rfl) (q_un dNeg (q_int)) (q_callP rfl (C__law_take.mono (by decide)) hr rfl (q_cons (q_var 0) (q_cons (q_int) (q_nil))) (lenS (lenS len0)))) (q_cons (q_bin (dAdd rfl) (q_int) (q_callP rfl (C__law_take.mono (by decide)) hr rfl (q_cons (q_var 0) (q_cons (q_int) (q_nil))) (lenS (lenS len0)))) (q_cons (q_bin (dAdd rfl) (q_un dNeg (q_int)) (q_callP rfl (C__law_take.mono (by decide)) hr rfl (q_cons (q_var 0) (q_cons (q_int) (q_nil))) (lenS (lenS len0)))) (q_nil)))))))) (q_callP rfl (C__law_take.mono (by decide)) hr rfl (q_cons (q_var 0) (q_cons (q_int) (q_nil))) (lenS (lenS len0)))) (q_gnm sc__law_drawn_range.nd)) (q_sone (q_ret (q_tup (q_cons (q_var 1) (q_cons (q_cb (pe_callB (cMin rfl rfl) rfl T.n_min (by decide +kernel) (q_cons (q_int) (q_cons (q_bin (dAdd rfl) (q_var 1) (q_callP rfl (C__law_take.mono (by decide)) hr rfl (q_cons (q_var 0) (q_cons (q_int) (q_nil))) (lenS (lenS len0)))) (q_nil))))) (q_nil))))))
abbrev N__law_tape : List Str := ["script", "cells", "seed", "cell"]
theorem sc__law_tape : FnScope N__law_tape ["script"] (defScope s__law_tape) := ⟨rfl, rfl, rfl, by decide +kernel, rfl, by decide +kernel, by decide +kernel⟩
theorem d__law_tape {f : Addr} {fd : FuncData} (F : Fun c.K "_law_tape" "_law_tape" s__law_tape f fd) (T : Txt c mg) : FnOk P w c.K mg base CX0 1 f fd ["script"] (spF c 1 f__law_tape) := by
  refine F.ok sc__law_tape len_spF (fun cdv A outer s H vs Q E hr h => ⟨_, ?_, start_red (N := N__law_tape) (np := 1) (b := b__law_tape) h⟩)
  exact q_scons (q_setLc (ps_setLc (i := 1) (own := [("cell", 3)]) rfl sc__law_tape.nd rfl rfl (sw_true rfl rfl rfl (by decide +kernel)) (q_iseq rfl (q_var 0)) (blkOk_by (N := N__law_tape) (sc := defScope s__law_tape) (own := [("cell", 3)]) (by decide +kernel)) (fun _ _ _ _ _ => q_gnm sc__law_tape.nd) (fun _ _ _ _ _ => q_tsn) (fun _ _ _ _ _ => q_cb (pe_callB (cAbs) rfl T.n_abs (by decide +kernel) (q_cons (q_cb (pe_callTy (cInt) rfl T.n_int (by decide +kernel) (q_cons (q_var 3) (q_nil)))) (q_nil)))))) (q_scons (q_asg (q_int) (q_gnm sc__law_tape.nd)) (q_scons (q_for PassesOwn.never rfl (q_iseq rfl (q_var 1)) (q_gnm sc__law_tape.nd) (q_sone (q_asg (q_bin (dMod) (q_cb (pe_callTy (cInt) rfl T.n_int (by decide +kernel) (q_cons (q_bin (dAdd rfl) (q_bin (dMul) (q_var 2) (q_int)) (q_var 3)) (q_nil)))) (q_int)) (q_gnm sc__law_tape.nd)))) (q_sone (q_ret (q_dic (fs := [(eC (.str "cells"), eVar 1), (eC (.str "at"), eC (.int 0)), (eC (.str "left"), eC (.int 0)), (eC (.str "seed"), eVar 2), (eC (.str "salt"), eC (.int 0))]) (pps_cons (q_str) (q_var 1) (pps_cons (q_str) (q_int) (pps_cons (q_str) (q_int) (pps_cons (q_str) (q_var 2) (pps_cons (q_str) (q_int) (pps_nil)))))))))))
abbrev N_law : List Str := ["script", "tape", "turn", "one", "two", "name", "made", "words", "a", "b", "low", "high", "due", "both", "steps", "number", "n", "k", "step"]
theorem sc_law : FnScope N_law ["script"] (defScope s_law) := ⟨rfl, rfl, rfl, by decide +kernel, rfl, by decide +kernel, by decide +kernel⟩
theorem d_law {f : Addr} {fd : FuncData} (F : Fun c.K "law" "law" s_law f fd) (T : Txt c mg) (C_wrapped : Fp c P w mg base 1 "wrapped" ["number"] f_wrapped) (C__law_wrap : Fp c P w mg base 1 "_law_wrap" ["n"] f__law_wrap) (C__law_take : Fp c P w mg base 1 "_law_take" ["tape", "many"] f__law_take) (C_widened : Fp c P w mg base 1 "widened" ["old", "new", "steps"] f_widened) (C_is_within : Fp c P w mg base 1 "is_within" ["one", "two"] f_is_within) (C_joined : Fp c P w mg base 1 "joined" ["one", "two"] f_joined) (C_done_range : Fp c P w mg base 4 "done_range" ["name", "one", "two"] f_done_range) (C_divided : Fp c P w mg base 2 "divided" ["one", "two"] f_divided) (C__law_exact : Fp c P w mg base 1 "_law_exact" ["name", "a", "b"] f__law_exact) (C_done : Fp c P w mg base 3 "done" ["name", "one", "two"] f_done) (C__law_drawn_range : Fp c P w mg base 2 "_law_drawn_range" ["tape"] f__law_drawn_range) (C__law_tape : Fp c P w mg base 1 "_law_tape" ["script"] f__law_tape) : FnOk P w c.K mg base CX0 5 f fd ["script"] (spF c 1 f_law) := by
  refine F.ok sc_law len_spF (fun cdv A outer s H vs Q E hr h => ⟨_, ?_, start_red (N := N_law) (np := 1) (b := b_law) h⟩)
  exact q_scons (q_asg (q_callP rfl (C__law_tape.mono (by decide)) hr rfl (q_cons (q_var 0) (q_nil)) (lenS len0)) (q_gnm sc_law.nd)) (q_scons (q_for PassesOwn.never rfl (q_irng1 rfl T.n_range (q_cons (q_int) (q_nil))) (q_gnm sc_law.nd) (q_scons (q_asg (q_tup (q_cons (q_callP rfl (C__law_drawn_range.mono (by decide)) hr rfl (q_cons (q_var 1) (q_nil)) (lenS len0)) (q_cons (q_callP rfl (C__law_drawn_range.mono (by decide)) hr rfl (q_cons (q_var 1) (q_nil)) (lenS len0)) (q_nil)))) (q_gtp rfl rfl (q_gcns (q_gnm sc_law.nd) (q_gcns (q_gnm sc_law.nd) (q_gnil))))) (q_scons (q_for PassesOwn.never rfl (q_iseq rfl (q_tup (q_cons (q_str) (q_cons (q_str) (q_cons (q_str) (q_cons (q_str) (q_cons (q_str) (q_cons (q_str) (q_nil))))))))) (q_gnm sc_law.nd) (q_scons (q_par2 (i := 6) (j := 7) rfl sc_law.nd (q_cons (q_lst (q_nil)) (q_cons (q_lst (q_nil)) (q_nil)))) (q_scons (q_for PassesOwn.never rfl (q_irng2 rfl T.n_range (q_cons (q_ix (dIx rfl hr.units) (q_var 3) (q_int)) (q_cons (q_bin (dAdd rfl) (q_ix (dIx rfl hr.units) (q_var 3) (q_int)) (q_int)) (q_nil)))) (q_gnm sc_law.nd) (q_sone (q_for PassesOwn.never rfl (q_irng2 rfl T.n_range (q_cons (q_ix (dIx rfl hr.units) (q_var 4) (q_int)) (q_cons (q_bin (dAdd rfl) (q_ix (dIx rfl hr.units) (q_var 4) (q_int)) (q_int)) (q_nil)))) (q_gnm sc_law.nd) (q_scons (q_drop (q_bm rfl (pe_bm PySem.F.plainAttrs_list PySem.F.slot_list_append PySem.F.type_list_append mkAppend (q_var 6) (q_cons (q_callP rfl (C__law_exact.mono (by decide)) hr rfl (q_cons (q_var 5) (q_cons (q_var 8) (q_cons (q_var 9) (q_nil)))) (lenS (lenS (lenS len0)))) (q_nil))))) (q_sone (q_drop (q_bm rfl (pe_bm PySem.F.plainAttrs_list PySem.F.slot_list_append PySem.F.type_list_append mkAppend (q_var 7) (q_cons (q_callP rfl (C_done.mono (by decide)) hr rfl (q_cons (q_var 5) (q_cons (q_var 8) (q_cons (q_var 9) (q_nil)))) (lenS (lenS (lenS len0)))) (q_nil)))))))))) (q_scons (q_sif (PW.pt (q_wor (q_tcmp (dNe rfl hr.units) (q_var 7) (q_lc [("n", 16)] rfl sc_law.nd (q_iseq rfl (q_var 6)) (blkOk_by (N := N_law) (sc := defScope s_law) (own := [("n", 16)]) (by decide +kernel)) (fun _ _ _ _ _ => q_gnm sc_law.nd) (fun _ _ _ _ _ => q_tsn) (fun _ _ _ _ _ => q_callP rfl (C__law_wrap.mono (by decide)) hr rfl (q_cons (q_var 16) (q_nil)) (lenS len0)))) (q_wor1 (PW.pt (q_wand (q_tcmp (dEq rfl hr.units) (q_var 5) (q_str)) (q_wand1 (q_tcmp (dNe rfl hr.units) (q_callP rfl (C_divided.mono (by decide)) hr rfl (q_cons (q_ix (dIx rfl hr.units) (q_var 3) (q_int)) (q_cons (q_ix (dIx rfl hr.units) (q_var 4) (q_int)) (q_nil))) (lenS (lenS len0))) (q_callP rfl (C__law_wrap.mono (by decide)) hr rfl (q_cons (q_callP rfl (C__law_exact.mono (by decide)) hr rfl (q_cons (q_str) (q_cons (q_ix (dIx rfl hr.units) (q_var 3) (q_int)) (q_cons (q_ix (dIx rfl hr.units) (q_var 4) (q_int)) (q_nil)))) (lenS (lenS (lenS len0)))) (q_nil)) (lenS len0))))))))) (q_sone (q_ret (q_bl))) (q_snil)) (q_scons (q_par2 (i := 10) (j := 11) rfl sc_law.nd (q_cons (q_cb (pe_callB (cMin rfl rfl) rfl T.n_min (by decide +kernel) (q_cons (q_var 6) (q_nil)))) (q_cons (q_cb (pe_callB (cMax rfl rfl) rfl T.n_max (by decide +kernel) (q_cons (q_var 6) (q_nil)))) (q_nil)))) (q_scons (q_asg (q_if (PW.pt (q_wand (q_tcmp (dLe) (q_un dNeg (q_int)) (q_var 10)) (q_wand1 (q_tcmp (dLe) (q_var 11) (q_int))))) (q_tup (q_cons (q_var 10) (q_cons (q_var 11) (q_nil)))) (q_tup (q_cons (q_un dNeg (q_int)) (q_cons (q_int) (q_nil))))) (q_gnm sc_law.nd)) (q_sone (q_sif (PW.pt (q_wor (q_tcmp (dNe rfl hr.units) (q_callP rfl (C_done_range.mono (by decide)) hr rfl (q_cons (q_var 5) (q_cons (q_var 3) (q_cons (q_var 4) (q_nil)))) (lenS (lenS (lenS len0)))) (q_var 12)) (q_wor1 (PW.pt (q_wand (q_tcmp (dIn rfl hr.units) (q_var 5) (q_tup (q_cons (q_str) (q_cons (q_str) (q_cons (q_str) (q_nil)))))) (q_wand1 (q_tcmp (dNe rfl hr.units) (q_callP rfl (C_done_range.mono (by decide)) hr rfl (q_cons (q_var 5) (q_cons (q_var 4) (q_cons (q_var 3) (q_nil)))) (lenS (lenS (lenS len0)))) (q_var 12)))))))) (q_sone (q_ret (q_bl))) (q_snil))))))))) (q_scons (q_asg (q_tup (q_cons (q_cb (pe_callB (cMin rfl rfl) rfl T.n_min (by decide +kernel) (q_cons (q_ix (dIx rfl hr.units) (q_var 3) (q_int)) (q_cons (q_ix (dIx rfl hr.units) (q_var 4) (q_int)) (q_nil))))) (q_cons (q_cb (pe_callB (cMax rfl rfl) rfl T.n_max (by decide +kernel) (q_cons (q_ix (dIx rfl hr.units) (q_var 3) (q_int)) (q_cons (q_ix (dIx rfl hr.units) (q_var 4) (q_int)) (q_nil))))) (q_nil)))) (q_gnm sc_law.nd)) (q_scons (q_sif (PW.pt (q_wor (q_tcmp (dNe rfl hr.units) (q_callP rfl (C_joined.mono (by decide)) hr rfl (q_cons (q_var 3) (q_cons (q_var 4) (q_nil))) (lenS (lenS len0))) (q_var 13)) (q_wor (q_tcmp (dNe rfl hr.units) (q_callP rfl (C_joined.mono (by decide)) hr rfl (q_cons (q_var 4) (q_cons (q_var 3) (q_nil))) (lenS (lenS len0))) (q_var 13)) (q_wor (q_tcmp (dNe rfl hr.units) (q_callP rfl (C_is_within.mono (by decide)) hr rfl (q_cons (q_var 3) (q_cons (q_var 4) (q_nil))) (lenS (lenS len0))) (q_and rfl (q_cmp (dLe) (q_ix (dIx rfl hr.units) (q_var 4) (q_int)) (q_ix (dIx rfl hr.units) (q_var 3) (q_int))) (q_one (q_cmp (dLe) (q_ix (dIx rfl hr.units) (q_var 3) (q_int)) (q_ix (dIx rfl hr.units) (q_var 4) (q_int)))))) (q_wor1 (q_tnot (q_tru rfl (q_callP rfl (C_is_within.mono (by decide)) hr rfl (q_cons (q_var 3) (q_cons (q_var 13) (q_nil))) (lenS (lenS len0)))))))))) (q_sone (q_ret (q_bl))) (q_snil)) (q_scons (q_asg (q_sortSet rfl rfl rfl T.n_sorted rfl T.n_set (q_bin (dAdd rfl) (q_lc [("k", 17)] rfl sc_law.nd (q_irng1 rfl T.n_range (q_cons (q_callP rfl (C__law_take.mono (by decide)) hr rfl (q_cons (q_var 1) (q_cons (q_int) (q_nil))) (lenS (lenS len0))) (q_nil))) (blkOk_by (N := N_law) (sc := defScope s_law) (own := [("k", 17)]) (by decide +kernel)) (fun _ _ _ _ _ => q_gnm sc_law.nd) (fun _ _ _ _ _ => q_tsn) (fun _ _ _ _ _ => q_bin (dSub) (q_callP rfl (C__law_take.mono (by decide)) hr rfl (q_cons (q_var 1) (q_cons (q_int) (q_nil))) (lenS (lenS len0))) (q_int))) (q_lst (q_cons (q_int) (q_cons (q_int) (q_nil)))))) (q_gnm sc_law.nd)) (q_scons (q_asg (q_if (q_tcmp (dGe) (q_ix (dIx rfl hr.units) (q_var 4) (q_int)) (q_ix (dIx rfl hr.units) (q_var 3) (q_int))) (q_ix (dIx rfl hr.units) (q_var 3) (q_int)) (q_cb (pe_callB (cMax rfl rfl) rfl T.n_max (by decide +kernel) (q_cons (q_bin (dAdd rfl) (q_lc [("step", 18)] rfl sc_law.nd (q_iseq rfl (q_var 14)) (blkOk_by (N := N_law) (sc := defScope s_law) (own := [("step", 18)]) (by decide +kernel)) (fun _ _ _ _ _ => q_gnm sc_law.nd) (fun _ _ _ _ _ => q_ts1 (q_tcmp (dLe) (q_var 18) (q_ix (dIx rfl hr.units) (q_var 4) (q_int)))) (fun _ _ _ _ _ => q_var 18)) (q_lst (q_cons (q_un dNeg (q_int)) (q_nil)))) (q_nil))))) (q_gnm sc_law.nd)) (q_scons (q_asg (q_if (q_tcmp (dLe) (q_ix (dIx rfl hr.units) (q_var 4) (q_int)) (q_ix (dIx rfl hr.units) (q_var 3) (q_int))) (q_ix (dIx rfl hr.units) (q_var 3) (q_int)) (q_cb (pe_callB (cMin rfl rfl) rfl T.n_min (by decide +kernel) (q_cons (q_bin (dAdd rfl) (q_lc [("step", 18)] rfl sc_law.nd (q_iseq rfl (q_var 14)) (blkOk_by (N := N_law) (sc := defScope s_law) (own := [("step", 18)]) (by decide +kernel)) (fun _ _ _ _ _ => q_gnm sc_law.nd) (fun _ _ _ _ _ => q_ts1 (q_tcmp (dGe) (q_var 18) (q_ix (dIx rfl hr.units) (q_var 4) (q_int)))) (fun _ _ _ _ _ => q_var 18)) (q_lst (q_cons (q_int) (q_nil)))) (q_nil))))) (q_gnm sc_law.nd)) (q_scons (q_sif (PW.pt (q_wor (q_tcmp (dNe rfl hr.units) (q_callP rfl (C_widened.mono (by decide)) hr rfl (q_cons (q_var 3) (q_cons (q_var 4) (q_cons (q_cb (pe_callTy (cList rfl rfl) rfl T.n_list (by decide +kernel) (q_cons (q_var 14) (q_nil)))) (q_nil)))) (lenS (lenS (lenS len0)))) (q_tup (q_cons (q_var 10) (q_cons (q_var 11) (q_nil))))) (q_wor (q_tnot (q_tru rfl (q_callP rfl (C_is_within.mono (by decide)) hr rfl (q_cons (q_var 13) (q_cons (q_tup (q_cons (q_var 10) (q_cons (q_var 11) (q_nil)))) (q_nil))) (lenS (lenS len0))))) (q_wor1 (q_tcmp (dNe rfl hr.units) (q_callP rfl (C_widened.mono (by decide)) hr rfl (q_cons (q_tup (q_cons (q_var 10) (q_cons (q_var 11) (q_nil)))) (q_cons (q_var 4) (q_cons (q_cb (pe_callTy (cList rfl rfl) rfl T.n_list (by decide +kernel) (q_cons (q_var 14) (q_nil)))) (q_nil)))) (lenS (lenS (lenS len0)))) (q_tup (q_cons (q_var 10) (q_cons (q_var 11) (q_nil))))))))) (q_sone (q_ret (q_bl))) (q_snil)) (q_scons (q_asg (q_bin (dAdd rfl) (q_bin (dMul) (q_ix (dIx rfl hr.units) (q_lst (q_cons (q_int) (q_cons (q_un dNeg (q_int)) (q_cons (q_int) (q_cons (q_bin (dPow) (q_int) (q_int)) (q_nil)))))) (q_callP rfl (C__law_take.mono (by decide)) hr rfl (q_cons (q_var 1) (q_cons (q_int) (q_nil))) (lenS (lenS len0)))) (q_bin (dAdd rfl) (q_int) (q_callP rfl (C__law_take.mono (by decide)) hr rfl (q_cons (q_var 1) (q_cons (q_int) (q_nil))) (lenS (lenS len0))))) (q_callP rfl (C__law_take.mono (by decide)) hr rfl (q_cons (q_var 1) (q_cons (q_int) (q_nil))) (lenS (lenS len0)))) (q_gnm sc_law.nd)) (q_sone (q_sif (PW.pt (q_wor (q_tcmp (dNe rfl hr.units) (q_callP rfl (C_wrapped.mono (by decide)) hr rfl (q_cons (q_var 15) (q_nil)) (lenS len0)) (q_callP rfl (C__law_wrap.mono (by decide)) hr rfl (q_cons (q_var 15) (q_nil)) (lenS len0))) (q_wor1 (q_tcmp (dNe rfl hr.units) (q_callP rfl (C_wrapped.mono (by decide)) hr rfl (q_cons (q_ix (dIx rfl hr.units) (q_var 3) (q_int)) (q_nil)) (lenS len0)) (q_ix (dIx rfl hr.units) (q_var 3) (q_int)))))) (q_sone (q_ret (q_bl))) (q_snil))))))))))))) (q_sone (q_ret (q_bl))))
end
theorem all_mk {l : PySem.W.OpenLaw} {w : World} {K : PySem.W.Frag} {h : Heap} {mg : Str → Option Value} {fa : Addr} (ct : Str → Addr) (X : K.In h) (G : h.Ns mainGlobals mg) (hfa : mg "law" = some (.ref fa))
    {f_0 : Addr} {od0 an0 : Option Addr} {sl0 : Array (Option Value)} {oc0 kV0 dc0 pm0 cd0 ct0 : Value} {f_1 : Addr} {od1 an1 : Option Addr} {sl1 : Array (Option Value)} {oc1 kV1 dc1 pm1 cd1 ct1 : Value} {f_2 : Addr} {od2 an2 : Option Addr} {sl2 : Array (Option Value)} {oc2 kV2 dc2 pm2 cd2 ct2 : Value} {f_3 : Addr} {od3 an3 : Option Addr} {sl3 : Array (Option Value)} {oc3 kV3 dc3 pm3 cd3 ct3 : Value} {f_4 : Addr} {od4 an4 : Option Addr} {sl4 : Array (Option Value)} {oc4 kV4 dc4 pm4 cd4 ct4 : Value} {f_5 : Addr} {od5 an5 : Option Addr} {sl5 : Array (Option Value)} {oc5 kV5 dc5 pm5 cd5 ct5 : Value} {f_6 : Addr} {od6 an6 : Option Addr} {sl6 : Array (Option Value)} {oc6 kV6 dc6 pm6 cd6 ct6 : Value} {f_7 : Addr} {od7 an7 : Option Addr} {sl7 : Array (Option Value)} {oc7 kV7 dc7 pm7 cd7 ct7 : Value} {f_8 : Addr} {od8 an8 : Option Addr} {sl8 : Array (Option Value)} {oc8 kV8 dc8 pm8 cd8 ct8 : Value} {f_9 : Addr} {od9 an9 : Option Addr} {sl9 : Array (Option Value)} {oc9 kV9 dc9 pm9 cd9 ct9 : Value} {f_10 : Addr} {od10 an10 : Option Addr} {sl10 : Array (Option Value)} {oc10 kV10 dc10 pm10 cd10 ct10 : Value} {f_11 : Addr} {od11 an11 : Option Addr} {sl11 : Array (Option Value)} {oc11 kV11 dc11 pm11 cd11 ct11 : Value} {f_12 : Addr} {od12 an12 : Option Addr} {sl12 : Array (Option Value)} {oc12 kV12 dc12 pm12 cd12 ct12 : Value} {f_13 : Addr} {od13 an13 : Option Addr} {sl13 : Array (Option Value)} {oc13 kV13 dc13 pm13 cd13 ct13 : Value} {f_14 : Addr} {od14 an14 : Option Addr} {sl14 : Array (Option Value)} {oc14 kV14 dc14 pm14 cd14 ct14 : Value} {p_ALL : Addr} {odt_ALL : Option Addr} {its_ALL : Array Value} {nt_ALL : Nat} {slt_ALL : Array (Option Value)} {p_BOTH : Addr} {odt_BOTH : Option Addr} {its_BOTH : Array Value} {nt_BOTH : Nat} {slt_BOTH : Array (Option Value)} {u_HALF : Value}
    (a0 : PySem.W.nsIn K mainGlobals "wrapped" = some (some (.ref f_0)))
    (l0 : K.lookup f_0 = some ⟨oc0, od0, .func (PySem.W.fnOf "wrapped" "wrapped" (defArgs s_wrapped) (defBody s_wrapped) (defScope s_wrapped) .none kV0 dc0 pm0 an0 cd0 ct0), sl0⟩)
    (c0 : PySem.W.codeIn K cd0 "wrapped" = true)
    (k0 : PySem.W.keepIn K (.ref f_0) = true)
    (a1 : PySem.W.nsIn K mainGlobals "_law_wrap" = some (some (.ref f_1)))
    (l1 : K.lookup f_1 = some ⟨oc1, od1, .func (PySem.W.fnOf "_law_wrap" "_law_wrap" (defArgs s__law_wrap) (defBody s__law_wrap) (defScope s__law_wrap) .none kV1 dc1 pm1 an1 cd1 ct1), sl1⟩)
    (c1 : PySem.W.codeIn K cd1 "_law_wrap" = true)
    (k1 : PySem.W.keepIn K (.ref f_1) = true)
    (a2 : PySem.W.nsIn K mainGlobals "_law_take" = some (some (.ref f_2)))
    (l2 : K.lookup f_2 = some ⟨oc2, od2, .func (PySem.W.fnOf "_law_take" "_law_take" (defArgs s__law_take) (defBody s__law_take) (defScope s__law_take) .none kV2 dc2 pm2 an2 cd2 ct2), sl2⟩)
    (c2 : PySem.W.codeIn K cd2 "_law_take" = true)
    (k2 : PySem.W.keepIn K (.ref f_2) = true)
    (a3 : PySem.W.nsIn K mainGlobals "widened" = some (some (.ref f_3)))
    (l3 : K.lookup f_3 = some ⟨oc3, od3, .func (PySem.W.fnOf "widened" "widened" (defArgs s_widened) (defBody s_widened) (defScope s_widened) .none kV3 dc3 pm3 an3 cd3 ct3), sl3⟩)
    (c3 : PySem.W.codeIn K cd3 "widened" = true)
    (k3 : PySem.W.keepIn K (.ref f_3) = true)
    (a4 : PySem.W.nsIn K mainGlobals "is_within" = some (some (.ref f_4)))
    (l4 : K.lookup f_4 = some ⟨oc4, od4, .func (PySem.W.fnOf "is_within" "is_within" (defArgs s_is_within) (defBody s_is_within) (defScope s_is_within) .none kV4 dc4 pm4 an4 cd4 ct4), sl4⟩)
    (c4 : PySem.W.codeIn K cd4 "is_within" = true)
    (k4 : PySem.W.keepIn K (.ref f_4) = true)
    (a5 : PySem.W.nsIn K mainGlobals "joined" = some (some (.ref f_5)))
    (l5 : K.lookup f_5 = some ⟨oc5, od5, .func (PySem.W.fnOf "joined" "joined" (defArgs s_joined) (defBody s_joined) (defScope s_joined) .none kV5 dc5 pm5 an5 cd5 ct5), sl5⟩)
    (c5 : PySem.W.codeIn K cd5 "joined" = true)
    (k5 : PySem.W.keepIn K (.ref f_5) = true)
    (a6 : PySem.W.nsIn K mainGlobals "divided" = some (some (.ref f_6)))
    (l6 : K.lookup f_6 = some ⟨oc6, od6, .func (PySem.W.fnOf "divided" "divided" (defArgs s_divided) (defBody s_divided) (defScope s_divided) .none kV6 dc6 pm6 an6 cd6 ct6), sl6⟩)
    (c6 : PySem.W.codeIn K cd6 "divided" = true)
    (k6 : PySem.W.keepIn K (.ref f_6) = true)
    (a7 : PySem.W.nsIn K mainGlobals "div_range" = some (some (.ref f_7)))
    (l7 : K.lookup f_7 = some ⟨oc7, od7, .func (PySem.W.fnOf "div_range" "div_range" (defArgs s_div_range) (defBody s_div_range) (defScope s_div_range) .none kV7 dc7 pm7 an7 cd7 ct7), sl7⟩)
    (c7 : PySem.W.codeIn K cd7 "div_range" = true)
    (k7 : PySem.W.keepIn K (.ref f_7) = true)
    (a8 : PySem.W.nsIn K mainGlobals "kept" = some (some (.ref f_8)))
    (l8 : K.lookup f_8 = some ⟨oc8, od8, .func (PySem.W.fnOf "kept" "kept" (defArgs s_kept) (defBody s_kept) (defScope s_kept) .none kV8 dc8 pm8 an8 cd8 ct8), sl8⟩)
    (c8 : PySem.W.codeIn K cd8 "kept" = true)
    (k8 : PySem.W.keepIn K (.ref f_8) = true)
    (a9 : PySem.W.nsIn K mainGlobals "done_range" = some (some (.ref f_9)))
    (l9 : K.lookup f_9 = some ⟨oc9, od9, .func (PySem.W.fnOf "done_range" "done_range" (defArgs s_done_range) (defBody s_done_range) (defScope s_done_range) .none kV9 dc9 pm9 an9 cd9 ct9), sl9⟩)
    (c9 : PySem.W.codeIn K cd9 "done_range" = true)
    (k9 : PySem.W.keepIn K (.ref f_9) = true)
    (a10 : PySem.W.nsIn K mainGlobals "_law_exact" = some (some (.ref f_10)))
    (l10 : K.lookup f_10 = some ⟨oc10, od10, .func (PySem.W.fnOf "_law_exact" "_law_exact" (defArgs s__law_exact) (defBody s__law_exact) (defScope s__law_exact) .none kV10 dc10 pm10 an10 cd10 ct10), sl10⟩)
    (c10 : PySem.W.codeIn K cd10 "_law_exact" = true)
    (k10 : PySem.W.keepIn K (.ref f_10) = true)
    (a11 : PySem.W.nsIn K mainGlobals "done" = some (some (.ref f_11)))
    (l11 : K.lookup f_11 = some ⟨oc11, od11, .func (PySem.W.fnOf "done" "done" (defArgs s_done) (defBody s_done) (defScope s_done) .none kV11 dc11 pm11 an11 cd11 ct11), sl11⟩)
    (c11 : PySem.W.codeIn K cd11 "done" = true)
    (k11 : PySem.W.keepIn K (.ref f_11) = true)
    (a12 : PySem.W.nsIn K mainGlobals "_law_drawn_range" = some (some (.ref f_12)))
    (l12 : K.lookup f_12 = some ⟨oc12, od12, .func (PySem.W.fnOf "_law_drawn_range" "_law_drawn_range" (defArgs s__law_drawn_range) (defBody s__law_drawn_range) (defScope s__law_drawn_range) .none kV12 dc12 pm12 an12 cd12 ct12), sl12⟩)
    (c12 : PySem.W.codeIn K cd12 "_law_drawn_range" = true)
    (k12 : PySem.W.keepIn K (.ref f_12) = true)
    (a13 : PySem.W.nsIn K mainGlobals "_law_tape" = some (some (.ref f_13)))
    (l13 : K.lookup f_13 = some ⟨oc13, od13, .func (PySem.W.fnOf "_law_tape" "_law_tape" (defArgs s__law_tape) (defBody s__law_tape) (defScope s__law_tape) .none kV13 dc13 pm13 an13 cd13 ct13), sl13⟩)
    (c13 : PySem.W.codeIn K cd13 "_law_tape" = true)
    (k13 : PySem.W.keepIn K (.ref f_13) = true)
    (a14 : PySem.W.nsIn K mainGlobals "law" = some (some (.ref f_14)))
    (l14 : K.lookup f_14 = some ⟨oc14, od14, .func (PySem.W.fnOf "law" "law" (defArgs s_law) (defBody s_law) (defScope s_law) .none kV14 dc14 pm14 an14 cd14 ct14), sl14⟩)
    (c14 : PySem.W.codeIn K cd14 "law" = true)
    (k14 : PySem.W.keepIn K (.ref f_14) = true)
    (at_ALL : PySem.W.nsIn K mainGlobals "ALL" = some (some (.ref p_ALL)))
    (lt_ALL : K.lookup p_ALL = some ⟨.type "tuple", odt_ALL, .seq its_ALL nt_ALL, slt_ALL⟩)
    (et_ALL : absDs its_ALL.toList = some [.int (-2147483648), .int 2147483647])
    (st_ALL : its_ALL.size ≤ cap)
    (at_BOTH : PySem.W.nsIn K mainGlobals "BOTH" = some (some (.ref p_BOTH)))
    (lt_BOTH : K.lookup p_BOTH = some ⟨.type "tuple", odt_BOTH, .seq its_BOTH nt_BOTH, slt_BOTH⟩)
    (et_BOTH : absDs its_BOTH.toList = some [.int 0, .int 1])
    (st_BOTH : its_BOTH.size ≤ cap)
    (av_HALF : PySem.W.nsIn K mainGlobals "HALF" = some (some u_HALF))
    (ev_HALF : absD u_HALF = some (.int 2147483648))
    (z_abs : PySem.W.nsIn K mainGlobals "abs" = some none)
    (z_int : PySem.W.nsIn K mainGlobals "int" = some none)
    (z_len : PySem.W.nsIn K mainGlobals "len" = some none)
    (z_list : PySem.W.nsIn K mainGlobals "list" = some none)
    (z_max : PySem.W.nsIn K mainGlobals "max" = some none)
    (z_min : PySem.W.nsIn K mainGlobals "min" = some none)
    (z_range : PySem.W.nsIn K mainGlobals "range" = some none)
    (z_set : PySem.W.nsIn K mainGlobals "set" = some none)
    (z_sorted : PySem.W.nsIn K mainGlobals "sorted" = some none)
    : ∃ fd : FuncData, (∀ (s : Shared) (v : Value), BindsTo s fd ⟨[v], []⟩ [("script", v)]) ∧ ∀ base : Heap, K.In base → base.Ns mainGlobals mg → FnOk l.prog w K mg base CX0 5 fa fd ["script"] (spF ⟨K, ct⟩ 1 f_law) := by
  have e := hfa.symm.trans (PySem.W.mg_of X G a14)
  cases e
  have T : Txt ⟨K, ct⟩ mg := ⟨kp_tup (c := ⟨K, ct⟩) X G at_ALL lt_ALL et_ALL st_ALL, kp_tup (c := ⟨K, ct⟩) X G at_BOTH lt_BOTH et_BOTH st_BOTH, kp_val (c := ⟨K, ct⟩) X G av_HALF ev_HALF, PySem.W.mg_none_of X G z_abs, PySem.W.mg_none_of X G z_int, PySem.W.mg_none_of X G z_len, PySem.W.mg_none_of X G z_list, PySem.W.mg_none_of X G z_max, PySem.W.mg_none_of X G z_min, PySem.W.mg_none_of X G z_range, PySem.W.mg_none_of X G z_set, PySem.W.mg_none_of X G z_sorted⟩
  have F0 := fun_mk (st := s_wrapped) l0 c0 k0
  have B0 := F0.binds (ps := ["number"]) fun _ _ _ _ _ _ us hl => match us, hl with | [_], _ => rfl
  have F1 := fun_mk (st := s__law_wrap) l1 c1 k1
  have B1 := F1.binds (ps := ["n"]) fun _ _ _ _ _ _ us hl => match us, hl with | [_], _ => rfl
  have F2 := fun_mk (st := s__law_take) l2 c2 k2
  have B2 := F2.binds (ps := ["tape", "many"]) fun _ _ _ _ _ _ us hl => match us, hl with | [_, _], _ => rfl
  have F3 := fun_mk (st := s_widened) l3 c3 k3
  have B3 := F3.binds (ps := ["old", "new", "steps"]) fun _ _ _ _ _ _ us hl => match us, hl with | [_, _, _], _ => rfl
  have F4 := fun_mk (st := s_is_within) l4 c4 k4
  have B4 := F4.binds (ps := ["one", "two"]) fun _ _ _ _ _ _ us hl => match us, hl with | [_, _], _ => rfl
  have F5 := fun_mk (st := s_joined) l5 c5 k5
  have B5 := F5.binds (ps := ["one", "two"]) fun _ _ _ _ _ _ us hl => match us, hl with | [_, _], _ => rfl
  have F6 := fun_mk (st := s_divided) l6 c6 k6
  have B6 := F6.binds (ps := ["one", "two"]) fun _ _ _ _ _ _ us hl => match us, hl with | [_, _], _ => rfl
  have F7 := fun_mk (st := s_div_range) l7 c7 k7
  have B7 := F7.binds (ps := ["one", "two"]) fun _ _ _ _ _ _ us hl => match us, hl with | [_, _], _ => rfl
  have F8 := fun_mk (st := s_kept) l8 c8 k8
  have B8 := F8.binds (ps := ["low", "high"]) fun _ _ _ _ _ _ us hl => match us, hl with | [_, _], _ => rfl
  have F9 := fun_mk (st := s_done_range) l9 c9 k9
  have B9 := F9.binds (ps := ["name", "one", "two"]) fun _ _ _ _ _ _ us hl => match us, hl with | [_, _, _], _ => rfl
  have F10 := fun_mk (st := s__law_exact) l10 c10 k10
  have B10 := F10.binds (ps := ["name", "a", "b"]) fun _ _ _ _ _ _ us hl => match us, hl with | [_, _, _], _ => rfl
  have F11 := fun_mk (st := s_done) l11 c11 k11
  have B11 := F11.binds (ps := ["name", "one", "two"]) fun _ _ _ _ _ _ us hl => match us, hl with | [_, _, _], _ => rfl
  have F12 := fun_mk (st := s__law_drawn_range) l12 c12 k12
  have B12 := F12.binds (ps := ["tape"]) fun _ _ _ _ _ _ us hl => match us, hl with | [_], _ => rfl
  have F13 := fun_mk (st := s__law_tape) l13 c13 k13
  have B13 := F13.binds (ps := ["script"]) fun _ _ _ _ _ _ us hl => match us, hl with | [_], _ => rfl
  have F14 := fun_mk (st := s_law) l14 c14 k14
  refine ⟨PySem.W.fnOf "law" "law" (defArgs s_law) (defBody s_law) (defScope s_law) .none kV14 dc14 pm14 an14 cd14 ct14, fun s v => .of_eq rfl, fun base _ _ => ?_⟩
  have C_wrapped : Fp ⟨K, ct⟩ l.prog w mg base 1 "wrapped" ["number"] f_wrapped := ⟨_, _, d_wrapped (c := ⟨K, ct⟩) F0 T , PySem.W.mg_of X G a0, k0, B0⟩
  have C__law_wrap : Fp ⟨K, ct⟩ l.prog w mg base 1 "_law_wrap" ["n"] f__law_wrap := ⟨_, _, d__law_wrap (c := ⟨K, ct⟩) F1 T , PySem.W.mg_of X G a1, k1, B1⟩
  have C__law_take : Fp ⟨K, ct⟩ l.prog w mg base 1 "_law_take" ["tape", "many"] f__law_take := ⟨_, _, d__law_take (c := ⟨K, ct⟩) F2 T , PySem.W.mg_of X G a2, k2, B2⟩
  have C_widened : Fp ⟨K, ct⟩ l.prog w mg base 1 "widened" ["old", "new", "steps"] f_widened := ⟨_, _, d_widened (c := ⟨K, ct⟩) F3 T , PySem.W.mg_of X G a3, k3, B3⟩
  have C_is_within : Fp ⟨K, ct⟩ l.prog w mg base 1 "is_within" ["one", "two"] f_is_within := ⟨_, _, d_is_within (c := ⟨K, ct⟩) F4 T , PySem.W.mg_of X G a4, k4, B4⟩
  have C_joined : Fp ⟨K, ct⟩ l.prog w mg base 1 "joined" ["one", "two"] f_joined := ⟨_, _, d_joined (c := ⟨K, ct⟩) F5 T , PySem.W.mg_of X G a5, k5, B5⟩
  have C_divided : Fp ⟨K, ct⟩ l.prog w mg base 2 "divided" ["one", "two"] f_divided := ⟨_, _, d_divided (c := ⟨K, ct⟩) F6 T C_wrapped, PySem.W.mg_of X G a6, k6, B6⟩
  have C_div_range : Fp ⟨K, ct⟩ l.prog w mg base 3 "div_range" ["one", "two"] f_div_range := ⟨_, _, d_div_range (c := ⟨K, ct⟩) F7 T C_divided, PySem.W.mg_of X G a7, k7, B7⟩
  have C_kept : Fp ⟨K, ct⟩ l.prog w mg base 1 "kept" ["low", "high"] f_kept := ⟨_, _, d_kept (c := ⟨K, ct⟩) F8 T , PySem.W.mg_of X G a8, k8, B8⟩
  have C_done_range : Fp ⟨K, ct⟩ l.prog w mg base 4 "done_range" ["name", "one", "two"] f_done_range := ⟨_, _, d_done_range (c := ⟨K, ct⟩) F9 T C_div_range C_kept, PySem.W.mg_of X G a9, k9, B9⟩
  have C__law_exact : Fp ⟨K, ct⟩ l.prog w mg base 1 "_law_exact" ["name", "a", "b"] f__law_exact := ⟨_, _, d__law_exact (c := ⟨K, ct⟩) F10 T , PySem.W.mg_of X G a10, k10, B10⟩
  have C_done : Fp ⟨K, ct⟩ l.prog w mg base 3 "done" ["name", "one", "two"] f_done := ⟨_, _, d_done (c := ⟨K, ct⟩) F11 T C_divided C_wrapped, PySem.W.mg_of X G a11, k11, B11⟩
  have C__law_drawn_range : Fp ⟨K, ct⟩ l.prog w mg base 2 "_law_drawn_range" ["tape"] f__law_drawn_range := ⟨_, _, d__law_drawn_range (c := ⟨K, ct⟩) F12 T C__law_take, PySem.W.mg_of X G a12, k12, B12⟩
  have C__law_tape : Fp ⟨K, ct⟩ l.prog w mg base 1 "_law_tape" ["script"] f__law_tape := ⟨_, _, d__law_tape (c := ⟨K, ct⟩) F13 T , PySem.W.mg_of X G a13, k13, B13⟩
  exact d_law (c := ⟨K, ct⟩) F14 T C_wrapped C__law_wrap C__law_take C_widened C_is_within C_joined C_done_range C_divided C__law_exact C_done C__law_drawn_range C__law_tape
end K58
/-! M58: the plain law of k58: the ranges are the hulls. -/
namespace M58
def wr (n : Int) : Int := (n + 2147483648) % 4294967296 - 2147483648
def ab (n : Int) : Int := if n < 0 then -n else n
def qd (a b : Int) : Int := if decide (a < 0) == decide (b < 0) then (if b = 0 then 0 else ab a / ab b) else -(if b = 0 then 0 else ab a / ab b)
inductive Op where
  | add | sub | mul | div | less | same
def ex : Op → Int → Int → Int
  | .add, a, b => a + b
  | .sub, a, b => a - b
  | .mul, a, b => a * b
  | .div, a, b => qd a b
  | .less, a, b => if a < b then 1 else 0
  | .same, a, b => if a = b then 1 else 0
abbrev Rg := Int × Int
def rg (r : Rg) : List Int := (List.range (r.2 + 1 - r.1).toNat).map fun (k : Nat) => r.1 + (k : Int)
theorem mem_rg {r : Rg} {x : Int} : x ∈ rg r ↔ r.1 ≤ x ∧ x ≤ r.2 := by
  unfold rg
  rw [List.mem_map]
  constructor
  · rintro ⟨k, hk, rfl⟩
    rw [List.mem_range] at hk
    omega
  · rintro ⟨h1, h2⟩
    exact ⟨(x - r.1).toNat, by rw [List.mem_range]; omega, by omega⟩
def made (op : Op) (o t : Rg) : List Int := (rg o).flatMap fun a => (rg t).map fun b => ex op a b
theorem mem_made {op : Op} {o t : Rg} {x : Int} : x ∈ made op o t ↔ ∃ a b, o.1 ≤ a ∧ a ≤ o.2 ∧ t.1 ≤ b ∧ b ≤ t.2 ∧ ex op a b = x := by
  unfold made
  rw [List.mem_flatMap]
  constructor
  · rintro ⟨a, ha, hx⟩
    rw [List.mem_map] at hx
    obtain ⟨b, hb, rfl⟩ := hx
    obtain ⟨a1, a2⟩ := mem_rg.mp ha
    obtain ⟨b1, b2⟩ := mem_rg.mp hb
    exact ⟨a, b, a1, a2, b1, b2, rfl⟩
  · rintro ⟨a, b, a1, a2, b1, b2, rfl⟩
    exact ⟨a, mem_rg.mpr ⟨a1, a2⟩, List.mem_map.mpr ⟨b, mem_rg.mpr ⟨b1, b2⟩, rfl⟩⟩
def ok (r : Rg) : Prop := -2147483648 ≤ r.1 ∧ r.1 ≤ r.2 ∧ r.2 ≤ 2147483647
def Hull (l : List Int) (L H : Int) : Prop := (∀ x ∈ l, L ≤ x ∧ x ≤ H) ∧ L ∈ l ∧ H ∈ l
theorem Hull.min {l : List Int} {L H : Int} (h : Hull l L H) : FL.minL l = L := by
  obtain ⟨h1, h2, h3⟩ := h
  obtain ⟨a, b⟩ := FL.minL_mem l (List.ne_nil_of_mem h2)
  have := b L h2
  have := (h1 _ a).1
  omega
theorem Hull.max {l : List Int} {L H : Int} (h : Hull l L H) : FL.maxL l = H := by
  obtain ⟨h1, h2, h3⟩ := h
  obtain ⟨a, b⟩ := FL.maxL_mem l (List.ne_nil_of_mem h2)
  have := b H h3
  have := (h1 _ a).2
  omega
theorem hull_self {l : List Int} (h : l ≠ []) : Hull l (FL.minL l) (FL.maxL l) := by
  obtain ⟨a, b⟩ := FL.minL_mem l h
  obtain ⟨c, d⟩ := FL.maxL_mem l h
  exact ⟨fun x hx => ⟨b x hx, d x hx⟩, a, c⟩
def ALL : Rg := (-2147483648, 2147483647)
def kept (L H : Int) : Rg := if -2147483648 ≤ L ∧ H < 2147483648 then (L, H) else ALL
def corners (o t : Rg) : List Int := [o.1 * t.1, o.1 * t.2, o.2 * t.1, o.2 * t.2]
def ends (t : Rg) : List Int := [t.1, t.2, -1, 1].filter fun n => decide (t.1 ≤ n ∧ n ≤ t.2) && !decide (n = 0)
def divd (a b : Int) : Int := if b = 0 then 0 else wr (if decide (a < 0) == decide (b < 0) then ab a / ab b else -(ab a / ab b))
def dcor (o t : Rg) : List Int := (([o.1, o.2, 0].filter fun a => decide (o.1 ≤ a ∧ a ≤ o.2)).flatMap fun a => (ends t).map fun b => divd a b) ++ (if t.1 ≤ 0 ∧ 0 ≤ t.2 then [0] else [])
def dr : Op → Rg → Rg → Rg
  | .add, o, t => kept (o.1 + t.1) (o.2 + t.2)
  | .sub, o, t => kept (o.1 - t.2) (o.2 - t.1)
  | .mul, o, t => kept (FL.minL (corners o t)) (FL.maxL (corners o t))
  | .div, o, t => if o.1 = -2147483648 ∧ t.1 ≤ -1 ∧ -1 ≤ t.2 then ALL else (FL.minL (dcor o t), FL.maxL (dcor o t))
  | .less, o, t => if o.2 < t.1 then (1, 1) else if o.1 ≥ t.2 then (0, 0) else (0, 1)
  | .same, o, t => if o.1 = o.2 ∧ o.2 = t.1 ∧ t.1 = t.2 then (1, 1) else if o.2 < t.1 ∨ t.2 < o.1 then (0, 0) else (0, 1)
theorem wr_id {x : Int} (h1 : -2147483648 ≤ x) (h2 : x ≤ 2147483647) : wr x = x := by
  unfold wr
  rw [Int.emod_eq_of_lt (by omega) (by omega)]
  omega
/-! products -/
theorem mul_between {x l h b : Int} (h1 : l ≤ x) (h2 : x ≤ h) : (l * b ≤ x * b ∧ x * b ≤ h * b) ∨ (h * b ≤ x * b ∧ x * b ≤ l * b) := by
  by_cases hb : 0 ≤ b
  · exact .inl ⟨Int.mul_le_mul_of_nonneg_right h1 hb, Int.mul_le_mul_of_nonneg_right h2 hb⟩
  · exact .inr ⟨Int.mul_le_mul_of_nonpos_right h2 (by omega), Int.mul_le_mul_of_nonpos_right h1 (by omega)⟩
theorem mul_hull {o t : Rg} (ho : o.1 ≤ o.2) (ht : t.1 ≤ t.2) : Hull (made .mul o t) (FL.minL (corners o t)) (FL.maxL (corners o t)) := by
  have hc : Hull (corners o t) (FL.minL (corners o t)) (FL.maxL (corners o t)) := hull_self (by simp [corners])
  obtain ⟨c1, c2, c3⟩ := hc
  have sub : ∀ x ∈ corners o t, x ∈ made .mul o t := by
    intro x hx
    simp only [corners, List.mem_cons, List.not_mem_nil, or_false] at hx
    rw [mem_made]
    rcases hx with rfl | rfl | rfl | rfl
    · exact ⟨o.1, t.1, by omega, ho, by omega, ht, rfl⟩
    · exact ⟨o.1, t.2, by omega, ho, ht, by omega, rfl⟩
    · exact ⟨o.2, t.1, ho, by omega, by omega, ht, rfl⟩
    · exact ⟨o.2, t.2, ho, by omega, ht, by omega, rfl⟩
  refine ⟨fun x hx => ?_, sub _ c2, sub _ c3⟩
  obtain ⟨a, b, a1, a2, b1, b2, rfl⟩ := mem_made.mp hx
  have k1 := c1 (o.1 * t.1) (by simp [corners])
  have k2 := c1 (o.1 * t.2) (by simp [corners])
  have k3 := c1 (o.2 * t.1) (by simp [corners])
  have k4 := c1 (o.2 * t.2) (by simp [corners])
  show FL.minL (corners o t) ≤ a * b ∧ a * b ≤ FL.maxL (corners o t)
  generalize FL.minL (corners o t) = mn at *
  generalize FL.maxL (corners o t) = mx at *
  have e1 := mul_between (b := o.1) b1 b2
  have e2 := mul_between (b := o.2) b1 b2
  have e3 := mul_between (b := b) a1 a2
  rw [Int.mul_comm t.1 o.1, Int.mul_comm b o.1, Int.mul_comm t.2 o.1] at e1
  rw [Int.mul_comm t.1 o.2, Int.mul_comm b o.2, Int.mul_comm t.2 o.2] at e2
  omega
/-! quotients -/
theorem ab_nn (a : Int) : 0 ≤ ab a := by unfold ab; split <;> omega
theorem ab_pos {b : Int} (h : b ≠ 0) : 0 < ab b := by unfold ab; split <;> omega
theorem qd_pp {a b : Int} (ha : 0 ≤ a) (hb : 0 < b) : qd a b = a / b := by
  unfold qd ab
  simp [show ¬ a < 0 by omega, show ¬ b < 0 by omega, show b ≠ 0 by omega]
theorem qd_np {a b : Int} (ha : a < 0) (hb : 0 < b) : qd a b = -(-a / b) := by
  unfold qd ab
  simp [ha, show ¬ b < 0 by omega, show b ≠ 0 by omega]
theorem qd_pn {a b : Int} (ha : 0 ≤ a) (hb : b < 0) : qd a b = -(a / -b) := by
  unfold qd ab
  simp [show ¬ a < 0 by omega, hb, show b ≠ 0 by omega]
theorem qd_nn {a b : Int} (ha : a < 0) (hb : b < 0) : qd a b = -a / -b := by
  unfold qd ab
  simp [ha, hb, show b ≠ 0 by omega]
theorem qd_z (a : Int) : qd a 0 = 0 := by
  unfold qd
  simp
/-- on b > 0: rising in a -/
theorem qd_mono {a a' b : Int} (hb : 0 < b) (h : a ≤ a') : qd a b ≤ qd a' b := by
  by_cases h1 : 0 ≤ a
  · rw [qd_pp h1 hb, qd_pp (by omega) hb]
    exact Int.ediv_le_ediv hb h
  · rw [qd_np (by omega) hb]
    by_cases h2 : 0 ≤ a'
    · rw [qd_pp h2 hb]
      have := Int.ediv_nonneg (a := -a) (b := b) (by omega) (by omega)
      have := Int.ediv_nonneg (a := a') (b := b) (by omega) (by omega)
      omega
    · rw [qd_np (by omega) hb]
      have := Int.ediv_le_ediv hb (show -a' ≤ -a by omega)
      omega
theorem qd_flip {a b : Int} (hb : b < 0) : qd a b = - qd a (-b) := by
  by_cases h1 : 0 ≤ a
  · rw [qd_pn h1 hb, qd_pp h1 (by omega)]
  · rw [qd_nn (by omega) hb, qd_np (by omega) (by omega)]
    omega
/-- in b > 0: between its values at the ends -/
theorem qd_b {a b l h : Int} (hl : 0 < l) (h1 : l ≤ b) (h2 : b ≤ h) : (qd a l ≤ qd a b ∧ qd a b ≤ qd a h) ∨ (qd a h ≤ qd a b ∧ qd a b ≤ qd a l) := by
  have key : ∀ x y z : Int, 0 ≤ x → 0 < y → y ≤ z → x / z ≤ x / y := by
    intro x y z hx hy hz
    have q0 := Int.ediv_nonneg (a := x) (b := z) hx (by omega)
    have q1 : x / z * z ≤ x := Int.ediv_mul_le x (by omega)
    apply Int.le_ediv_of_mul_le hy
    exact Int.le_trans (Int.mul_le_mul_of_nonneg_left hz q0) q1
  by_cases ha : 0 ≤ a
  · rw [qd_pp ha hl, qd_pp ha (by omega), qd_pp ha (by omega)]
    exact .inr ⟨key _ _ _ ha (by omega) h2, key _ _ _ ha hl h1⟩
  · rw [qd_np (by omega) hl, qd_np (by omega) (by omega), qd_np (by omega) (by omega)]
    have k1 := key (-a) b h (by omega) (by omega) h2
    have k2 := key (-a) l b (by omega) hl h1
    exact .inl ⟨by omega, by omega⟩
theorem qd_size {a b : Int} (h1 : -2147483648 ≤ a) (h2 : a ≤ 2147483647) : -2147483648 ≤ qd a b ∧ qd a b ≤ 2147483648 ∧ (¬ (a = -2147483648 ∧ b = -1) → qd a b ≤ 2147483647) := by
  have key : ∀ x y : Int, 0 ≤ x → 0 < y → 0 ≤ x / y ∧ x / y ≤ x := fun x y hx hy => ⟨Int.ediv_nonneg hx (by omega), Int.ediv_le_self _ hx⟩
  by_cases hb : b = 0
  · rw [hb, qd_z]
    omega
  · by_cases hb2 : 0 < b
    · by_cases ha : 0 ≤ a
      · rw [qd_pp ha hb2]
        have := key a b ha hb2
        omega
      · rw [qd_np (by omega) hb2]
        have := key (-a) b (by omega) hb2
        omega
    · by_cases ha : 0 ≤ a
      · rw [qd_pn ha (by omega)]
        have := key a (-b) ha (by omega)
        omega
      · rw [qd_nn (by omega) (by omega)]
        have k := key (-a) (-b) (by omega) (by omega)
        refine ⟨by omega, by omega, fun hn => ?_⟩
        by_cases e : a = -2147483648
        · have hb3 : b ≤ -2 := by omega
          have : -a / -b ≤ -a / 2 := by
            have q0 := Int.ediv_nonneg (a := -a) (b := -b) (by omega) (by omega)
            have q1 : -a / -b * -b ≤ -a := Int.ediv_mul_le (-a) (by omega)
            apply Int.le_ediv_of_mul_le (by omega)
            exact Int.le_trans (Int.mul_le_mul_of_nonneg_left (show (2 : Int) ≤ -b by omega) q0) q1
          rw [e] at this ⊢
          omega
        · omega
theorem divd_qd {a b : Int} : divd a b = wr (qd a b) := by
  unfold divd qd
  by_cases hb : b = 0
  · subst hb
    rw [if_pos rfl]
    simp [wr]
  · simp only [if_neg hb]
/-! the hull of the quotients -/
theorem mem_ends {t : Rg} {n : Int} : n ∈ ends t ↔ (n = t.1 ∨ n = t.2 ∨ n = -1 ∨ n = 1) ∧ t.1 ≤ n ∧ n ≤ t.2 ∧ n ≠ 0 := by
  unfold ends
  rw [List.mem_filter]
  simp only [List.mem_cons, List.not_mem_nil, or_false, Bool.and_eq_true, decide_eq_true_eq, Bool.not_eq_true', decide_eq_false_iff_not]
  constructor
  · rintro ⟨h1, ⟨h2, h3⟩, h4⟩
    exact ⟨h1, h2, h3, h4⟩
  · rintro ⟨h1, h2, h3, h4⟩
    exact ⟨h1, ⟨h2, h3⟩, h4⟩
theorem mem_dcor {o t : Rg} {x : Int} : x ∈ dcor o t ↔ (∃ a b, (a = o.1 ∨ a = o.2 ∨ a = 0) ∧ o.1 ≤ a ∧ a ≤ o.2 ∧ b ∈ ends t ∧ divd a b = x) ∨ (t.1 ≤ 0 ∧ 0 ≤ t.2 ∧ x = 0) := by
  unfold dcor
  rw [List.mem_append, List.mem_flatMap]
  constructor
  · rintro (⟨a, ha, hx⟩ | h)
    · rw [List.mem_map] at hx
      obtain ⟨b, hb, e⟩ := hx
      rw [List.mem_filter] at ha
      simp only [List.mem_cons, List.not_mem_nil, or_false, decide_eq_true_eq] at ha
      exact .inl ⟨a, b, ha.1, ha.2.1, ha.2.2, hb, e⟩
    · split at h
      · rename_i q
        exact .inr ⟨q.1, q.2, List.mem_singleton.mp h⟩
      · simp at h
  · rintro (⟨a, b, h1, h2, h3, h4, h5⟩ | ⟨h1, h2, h3⟩)
    · refine .inl ⟨a, ?_, List.mem_map.mpr ⟨b, h4, h5⟩⟩
      rw [List.mem_filter]
      simp only [List.mem_cons, List.not_mem_nil, or_false, decide_eq_true_eq]
      exact ⟨h1, h2, h3⟩
    · right
      rw [if_pos ⟨h1, h2⟩]
      exact List.mem_singleton.mpr h3
/-- for a divisor that is not 0: two ends around it -/
theorem around {t : Rg} {b : Int} (h1 : t.1 ≤ b) (h2 : b ≤ t.2) (hb : b ≠ 0) (a : Int) : ∃ l h, l ∈ ends t ∧ h ∈ ends t ∧ qd a l ≤ qd a b ∧ qd a b ≤ qd a h := by
  by_cases hp : 0 < b
  · -- from max(t.1, 1) to t.2
    have hh : t.2 ∈ ends t := mem_ends.mpr ⟨.inr (.inl rfl), by omega, by omega, by omega⟩
    obtain ⟨l, hl, l1, l2⟩ : ∃ l, l ∈ ends t ∧ 0 < l ∧ l ≤ b := by
      by_cases q : 1 ≤ t.1
      · exact ⟨t.1, mem_ends.mpr ⟨.inl rfl, by omega, by omega, by omega⟩, by omega, h1⟩
      · exact ⟨1, mem_ends.mpr ⟨.inr (.inr (.inr rfl)), by omega, by omega, by omega⟩, by omega, by omega⟩
    rcases qd_b (a := a) l1 l2 h2 with ⟨x, y⟩ | ⟨x, y⟩
    · exact ⟨l, t.2, hl, hh, x, y⟩
    · exact ⟨t.2, l, hh, hl, x, y⟩
  · have hh : t.1 ∈ ends t := mem_ends.mpr ⟨.inl rfl, by omega, by omega, by omega⟩
    obtain ⟨l, hl, l1, l2⟩ : ∃ l, l ∈ ends t ∧ l < 0 ∧ b ≤ l := by
      by_cases q : t.2 ≤ -1
      · exact ⟨t.2, mem_ends.mpr ⟨.inr (.inl rfl), by omega, by omega, by omega⟩, by omega, h2⟩
      · exact ⟨-1, mem_ends.mpr ⟨.inr (.inr (.inl rfl)), by omega, by omega, by omega⟩, by omega, by omega⟩
    have e1 := qd_flip (a := a) (b := b) (by omega)
    have e2 := qd_flip (a := a) (b := l) l1
    have e3 := qd_flip (a := a) (b := t.1) (by omega)
    rcases qd_b (a := a) (show 0 < -l by omega) (show -l ≤ -b by omega) (show -b ≤ -t.1 by omega) with ⟨x, y⟩ | ⟨x, y⟩
    · exact ⟨t.1, l, hh, hl, by omega, by omega⟩
    · exact ⟨l, t.1, hl, hh, by omega, by omega⟩
theorem div_in {o t : Rg} (ho : ok o) (ht : ok t) (hn : ¬ (o.1 = -2147483648 ∧ t.1 ≤ -1 ∧ -1 ≤ t.2)) {a b : Int} (a1 : o.1 ≤ a) (a2 : a ≤ o.2) (b1 : t.1 ≤ b) (b2 : b ≤ t.2) : divd a b = qd a b := by
  obtain ⟨o1, o2, o3⟩ := ho
  have s := qd_size (a := a) (b := b) (by omega) (by omega)
  rw [divd_qd]
  exact wr_id s.1 (s.2.2 (by rintro ⟨x, y⟩; apply hn; omega))
theorem div_hull {o t : Rg} (ho : ok o) (ht : ok t) (hn : ¬ (o.1 = -2147483648 ∧ t.1 ≤ -1 ∧ -1 ≤ t.2)) : dcor o t ≠ [] ∧ Hull (made .div o t) (FL.minL (dcor o t)) (FL.maxL (dcor o t)) := by
  obtain ⟨o1, o2, o3⟩ := id ho
  obtain ⟨t1, t2, t3⟩ := id ht
  have ne : dcor o t ≠ [] := by
    by_cases z : t.1 ≤ 0 ∧ 0 ≤ t.2
    · exact List.ne_nil_of_mem (mem_dcor.mpr (.inr ⟨z.1, z.2, rfl⟩))
    · exact List.ne_nil_of_mem (mem_dcor.mpr (.inl ⟨o.1, t.1, .inl rfl, by omega, o2, mem_ends.mpr ⟨.inl rfl, by omega, t2, by omega⟩, rfl⟩))
  obtain ⟨c1, c2, c3⟩ := hull_self ne
  have sub : ∀ x ∈ dcor o t, x ∈ made .div o t := by
    intro x hx
    rw [mem_made]
    rcases mem_dcor.mp hx with ⟨a, b, h1, h2, h3, h4, h5⟩ | ⟨h1, h2, h3⟩
    · obtain ⟨e1, e2, e3, e4⟩ := mem_ends.mp h4
      exact ⟨a, b, h2, h3, e2, e3, by rw [← h5, div_in ho ht hn h2 h3 e2 e3]; rfl⟩
    · exact ⟨o.1, 0, by omega, o2, h1, h2, by rw [h3]; exact qd_z o.1⟩
  refine ⟨ne, fun x hx => ?_, sub _ c2, sub _ c3⟩
  obtain ⟨a, b, a1, a2, b1, b2, e⟩ := mem_made.mp hx
  have e : qd a b = x := e
  by_cases hb : b = 0
  · subst hb
    rw [qd_z] at e
    exact c1 x (mem_dcor.mpr (.inr ⟨b1, b2, e.symm⟩))
  · -- the dividend's ends
    have ca : ∀ (a' d : Int), (a' = o.1 ∨ a' = o.2) → d ∈ ends t → FL.minL (dcor o t) ≤ qd a' d ∧ qd a' d ≤ FL.maxL (dcor o t) := by
      intro a' d h hd
      obtain ⟨e1, e2, e3, e4⟩ := mem_ends.mp hd
      have i1 : o.1 ≤ a' ∧ a' ≤ o.2 := by omega
      have := c1 (divd a' d) (mem_dcor.mpr (.inl ⟨a', d, by omega, i1.1, i1.2, hd, rfl⟩))
      rw [div_in ho ht hn i1.1 i1.2 e2 e3] at this
      exact this
    have cb : ∀ a', (a' = o.1 ∨ a' = o.2) → FL.minL (dcor o t) ≤ qd a' b ∧ qd a' b ≤ FL.maxL (dcor o t) := by
      intro a' h
      obtain ⟨l, u, hl, hu, q1, q2⟩ := around b1 b2 hb a'
      have := ca a' l h hl
      have := ca a' u h hu
      omega
    have k1 := cb o.1 (.inl rfl)
    have k2 := cb o.2 (.inr rfl)
    rw [← e]
    by_cases hp : 0 < b
    · have m1 := qd_mono hp a1
      have m2 := qd_mono hp a2
      omega
    · have m1 := qd_mono (b := -b) (by omega) a1
      have m2 := qd_mono (b := -b) (by omega) a2
      have f1 := qd_flip (a := a) (b := b) (by omega)
      have f2 := qd_flip (a := o.1) (b := b) (by omega)
      have f3 := qd_flip (a := o.2) (b := b) (by omega)
      omega
/-- what the range of an operation is due to be -/
theorem dr_hull (op : Op) {o t : Rg} (ho : ok o) (ht : ok t) : ∃ L H, Hull (made op o t) L H ∧ dr op o t = kept L H := by
  obtain ⟨o1, o2, o3⟩ := id ho
  obtain ⟨t1, t2, t3⟩ := id ht
  cases op with
  | add =>
    refine ⟨o.1 + t.1, o.2 + t.2, ⟨fun x hx => ?_, mem_made.mpr ⟨o.1, t.1, by omega, by omega, by omega, by omega, rfl⟩, mem_made.mpr ⟨o.2, t.2, by omega, by omega, by omega, by omega, rfl⟩⟩, rfl⟩
    obtain ⟨a, b, a1, a2, b1, b2, e⟩ := mem_made.mp hx
    have e : a + b = x := e
    omega
  | sub =>
    refine ⟨o.1 - t.2, o.2 - t.1, ⟨fun x hx => ?_, mem_made.mpr ⟨o.1, t.2, by omega, by omega, by omega, by omega, rfl⟩, mem_made.mpr ⟨o.2, t.1, by omega, by omega, by omega, by omega, rfl⟩⟩, rfl⟩
    obtain ⟨a, b, a1, a2, b1, b2, e⟩ := mem_made.mp hx
    have e : a - b = x := e
    omega
  | mul => exact ⟨_, _, mul_hull o2 t2, rfl⟩
  | div =>
    by_cases hn : o.1 = -2147483648 ∧ t.1 ≤ -1 ∧ -1 ≤ t.2
    · have top : qd (-2147483648) (-1) = 2147483648 := by decide
      have mem : (2147483648 : Int) ∈ made .div o t := mem_made.mpr ⟨o.1, -1, by omega, o2, hn.2.1, hn.2.2, by show qd o.1 (-1) = _; rw [hn.1]; exact top⟩
      have hm := hull_self (List.ne_nil_of_mem mem)
      refine ⟨_, _, hm, ?_⟩
      have := hm.1 _ mem
      show (if o.1 = -2147483648 ∧ t.1 ≤ -1 ∧ -1 ≤ t.2 then ALL else _) = _
      rw [if_pos hn]
      unfold kept
      rw [if_neg (by omega)]
    · have hd := (div_hull ho ht hn).2
      refine ⟨_, _, hd, ?_⟩
      show (if o.1 = -2147483648 ∧ t.1 ≤ -1 ∧ -1 ≤ t.2 then ALL else _) = _
      rw [if_neg hn]
      have size : ∀ x ∈ made .div o t, -2147483648 ≤ x ∧ x ≤ 2147483647 := by
        intro x hx
        obtain ⟨a, b, a1, a2, b1, b2, e⟩ := mem_made.mp hx
        have e : qd a b = x := e
        have s := qd_size (a := a) (b := b) (by omega) (by omega)
        rw [← e]
        exact ⟨s.1, s.2.2 (by rintro ⟨x, y⟩; apply hn; omega)⟩
      have s1 := size _ hd.2.1
      have s2 := size _ hd.2.2
      unfold kept
      rw [if_pos (by omega)]
  | less =>
    have v : ∀ x ∈ made .less o t, x = 0 ∨ x = 1 := by
      intro x hx
      obtain ⟨a, b, a1, a2, b1, b2, e⟩ := mem_made.mp hx
      have e : (if a < b then 1 else 0) = x := e
      split at e <;> omega
    have at0 : o.2 ≥ t.1 → (0 : Int) ∈ made .less o t := fun h => mem_made.mpr ⟨o.2, t.1, by omega, by omega, by omega, by omega, by show (if o.2 < t.1 then 1 else 0) = 0; rw [if_neg (by omega)]⟩
    have at1 : o.1 < t.2 → (1 : Int) ∈ made .less o t := fun h => mem_made.mpr ⟨o.1, t.2, by omega, by omega, by omega, by omega, by show (if o.1 < t.2 then 1 else 0) = 1; rw [if_pos h]⟩
    by_cases h1 : o.2 < t.1
    · refine ⟨1, 1, ⟨fun x hx => ?_, at1 (by omega), at1 (by omega)⟩, ?_⟩
      · obtain ⟨a, b, a1, a2, b1, b2, e⟩ := mem_made.mp hx
        have e : (if a < b then 1 else 0) = x := e
        rw [if_pos (by omega)] at e
        omega
      · show (if o.2 < t.1 then _ else _) = _
        rw [if_pos h1]
        decide
    · by_cases h2 : o.1 ≥ t.2
      · refine ⟨0, 0, ⟨fun x hx => ?_, at0 (by omega), at0 (by omega)⟩, ?_⟩
        · obtain ⟨a, b, a1, a2, b1, b2, e⟩ := mem_made.mp hx
          have e : (if a < b then 1 else 0) = x := e
          rw [if_neg (by omega)] at e
          omega
        · show (if o.2 < t.1 then (1, 1) else if o.1 ≥ t.2 then (0, 0) else (0, 1)) = _
          rw [if_neg h1, if_pos h2]
          decide
      · refine ⟨0, 1, ⟨fun x hx => ?_, at0 (by omega), at1 (by omega)⟩, ?_⟩
        · have := v x hx
          omega
        · show (if o.2 < t.1 then (1, 1) else if o.1 ≥ t.2 then (0, 0) else (0, 1)) = _
          rw [if_neg h1, if_neg h2]
          decide
  | same =>
    have v : ∀ x ∈ made .same o t, x = 0 ∨ x = 1 := by
      intro x hx
      obtain ⟨a, b, a1, a2, b1, b2, e⟩ := mem_made.mp hx
      have e : (if a = b then 1 else 0) = x := e
      split at e <;> omega
    have at_ : ∀ a b, o.1 ≤ a → a ≤ o.2 → t.1 ≤ b → b ≤ t.2 → (if a = b then (1 : Int) else 0) ∈ made .same o t := fun a b h1 h2 h3 h4 => mem_made.mpr ⟨a, b, h1, h2, h3, h4, rfl⟩
    by_cases h1 : o.1 = o.2 ∧ o.2 = t.1 ∧ t.1 = t.2
    · have m1 := at_ o.1 t.1 (by omega) (by omega) (by omega) (by omega)
      rw [if_pos (by omega)] at m1
      refine ⟨1, 1, ⟨fun x hx => ?_, m1, m1⟩, ?_⟩
      · obtain ⟨a, b, a1, a2, b1, b2, e⟩ := mem_made.mp hx
        have e : (if a = b then 1 else 0) = x := e
        rw [if_pos (by omega)] at e
        omega
      · show (if o.1 = o.2 ∧ o.2 = t.1 ∧ t.1 = t.2 then (1, 1) else _) = _
        rw [if_pos h1]
        decide
    · by_cases h2 : o.2 < t.1 ∨ t.2 < o.1
      · have m0 := at_ o.1 t.1 (by omega) (by omega) (by omega) (by omega)
        rw [if_neg (by omega)] at m0
        refine ⟨0, 0, ⟨fun x hx => ?_, m0, m0⟩, ?_⟩
        · obtain ⟨a, b, a1, a2, b1, b2, e⟩ := mem_made.mp hx
          have e : (if a = b then 1 else 0) = x := e
          rw [if_neg (by omega)] at e
          omega
        · show (if o.1 = o.2 ∧ o.2 = t.1 ∧ t.1 = t.2 then (1, 1) else if o.2 < t.1 ∨ t.2 < o.1 then (0, 0) else (0, 1)) = _
          rw [if_neg h1, if_pos h2]
          decide
      · have m1 : (1 : Int) ∈ made .same o t := by
          by_cases q : o.1 ≤ t.1
          · have := at_ t.1 t.1 (by omega) (by omega) (by omega) (by omega)
            rwa [if_pos rfl] at this
          · have := at_ o.1 o.1 (by omega) (by omega) (by omega) (by omega)
            rwa [if_pos rfl] at this
        have m0 : (0 : Int) ∈ made .same o t := by
          by_cases q : o.1 = t.1
          · by_cases q2 : o.1 = o.2
            · have := at_ o.1 t.2 (by omega) (by omega) (by omega) (by omega)
              rwa [if_neg (by omega)] at this
            · have := at_ o.2 t.1 (by omega) (by omega) (by omega) (by omega)
              rwa [if_neg (by omega)] at this
          · have := at_ o.1 t.1 (by omega) (by omega) (by omega) (by omega)
            rwa [if_neg (by omega)] at this
        refine ⟨0, 1, ⟨fun x hx => ?_, m0, m1⟩, ?_⟩
        · have := v x hx
          omega
        · show (if o.1 = o.2 ∧ o.2 = t.1 ∧ t.1 = t.2 then (1, 1) else if o.2 < t.1 ∨ t.2 < o.1 then (0, 0) else (0, 1)) = _
          rw [if_neg h1, if_neg h2]
          decide
/-- due: the hull, or all -/
def due (op : Op) (o t : Rg) : Rg := kept (FL.minL (made op o t)) (FL.maxL (made op o t))
theorem dr_due (op : Op) {o t : Rg} (ho : ok o) (ht : ok t) : dr op o t = due op o t := by
  obtain ⟨L, H, h, e⟩ := dr_hull op ho ht
  rw [e]
  unfold due
  rw [h.min, h.max]
theorem made_ne (op : Op) {o t : Rg} (ho : ok o) (ht : ok t) : made op o t ≠ [] := by
  obtain ⟨L, H, h, e⟩ := dr_hull op ho ht
  exact List.ne_nil_of_mem h.2.1
theorem dr_swap {op : Op} (hs : op = .add ∨ op = .mul ∨ op = .same) {o t : Rg} (ho : ok o) (ht : ok t) : dr op t o = due op o t := by
  rw [dr_due op ht ho]
  have mm : ∀ x, x ∈ made op t o ↔ x ∈ made op o t := by
    have cm : ∀ a b, ex op a b = ex op b a := by
      intro a b
      rcases hs with rfl | rfl | rfl
      · exact Int.add_comm a b
      · exact Int.mul_comm a b
      · show (if a = b then (1 : Int) else 0) = if b = a then 1 else 0
        by_cases q : a = b
        · rw [if_pos q, if_pos q.symm]
        · rw [if_neg q, if_neg (fun z => q z.symm)]
    intro x
    rw [mem_made, mem_made]
    constructor
    · rintro ⟨a, b, h1, h2, h3, h4, e⟩
      exact ⟨b, a, h3, h4, h1, h2, by rw [← cm]; exact e⟩
    · rintro ⟨a, b, h1, h2, h3, h4, e⟩
      exact ⟨b, a, h3, h4, h1, h2, by rw [← cm]; exact e⟩
  have h1 := hull_self (made_ne op ho ht)
  have h2 : Hull (made op t o) (FL.minL (made op o t)) (FL.maxL (made op o t)) := ⟨fun x hx => h1.1 x ((mm x).mp hx), (mm _).mpr h1.2.1, (mm _).mpr h1.2.2⟩
  unfold due
  rw [h2.min, h2.max]
end M58
/-! FL18: values of and, strings, tuples; comprehensions of two clauses. -/
namespace FL
open PySem L2
theorem W_pure {r : Option (D × Sto)} {v : D} {S : Sto} (h : W r fun d S' => d = v ∧ S' = S) {Q : D → Sto → Prop} : W r Q ↔ Q v S := by
  obtain ⟨d, S', e, rfl, rfl⟩ := h
  rw [e, W_some]
section
variable {env : FL.Env} {S : Sto} {Q : D → Sto → Prop}
theorem w_eAnd (fa fb : FE) : W (eAnd fa fb env S) Q ↔ W (fa env S) fun x S1 => match tru x S1 with
    | some b => if b = true then W (fb env S1) Q else Q x S1
    | none => False := by
  unfold eAnd
  rw [W_th]
  have key : ∀ (x : D) (S1 : Sto), W (match tru x S1 with
      | some true => fb env S1
      | some false => some (x, S1)
      | none => none) Q ↔ match tru x S1 with
      | some b => if b = true then W (fb env S1) Q else Q x S1
      | none => False := by
    intro x S1
    cases tru x S1 with
    | none => simp
    | some b => cases b <;> simp
  constructor
  · rintro ⟨x, S1, e, h⟩
    exact ⟨x, S1, e, (key x S1).mp h⟩
  · rintro ⟨x, S1, e, h⟩
    exact ⟨x, S1, e, (key x S1).mpr h⟩
theorem w_tTru {fe : FE} {QT : Bool → Sto → Prop} : W (tTru fe env S) QT ↔ W (fe env S) fun d S1 => match tru d S1 with
    | some b => QT b S1
    | none => False := by
  unfold tTru
  rw [W_th]
  have key : ∀ (x : D) (S1 : Sto), W ((tru x S1).map fun b => (b, S1)) QT ↔ match tru x S1 with
      | some b => QT b S1
      | none => False := by
    intro x S1
    cases tru x S1 <;> simp
  constructor
  · rintro ⟨x, S1, e, h⟩
    exact ⟨x, S1, e, (key x S1).mp h⟩
  · rintro ⟨x, S1, e, h⟩
    exact ⟨x, S1, e, (key x S1).mpr h⟩
theorem tru_bl (b : Bool) (S : Sto) : tru (.bl b) S = some b := rfl
theorem w_addT {xs ys : List D} (h : xs.length + ys.length ≤ cap) : W (oAdd (.tup xs) (.tup ys) S) Q ↔ Q (.tup (xs ++ ys)) S := by
  unfold oAdd
  simp [h]
theorem sh_str {x : Str} (h : PyData.strOk x = true) : Sh (.str x) := ⟨by rw [PyData.canLay0]; exact h, by simp [PyData.depth]⟩
theorem w_eqStr {x y : Str} (hx : PyData.strOk x = true) (hy : PyData.strOk y = true) : W (oEq (.str x) (.str y) S) Q ↔ Q (.bl (x == y)) S := by
  rw [w_eqP (p := .str x) (q := .str y) rfl rfl (sh_str hx) (sh_str hy)]
  rw [PyData.eqv]
theorem w_pow {i j : Int} (h : (decide (0 ≤ j) && decide (j ≤ 1000) && decide (i.natAbs < 18446744073709551616)) = true) : W (oPow (.int i) (.int j) S) Q ↔ Q (.int (i ^ j.toNat)) S := by
  unfold oPow
  simp only [h, if_true, W_some]
theorem dPys_ints : ∀ ns : List Int, dPys (ns.map D.int) = ns.map PyData.int
  | [] => rfl
  | n :: ns => by
    show dPy (.int n) :: dPys (ns.map D.int) = _
    rw [dPys_ints ns]
    rfl
theorem nr_ints : ∀ ns : List Int, noRefs (ns.map D.int) = true
  | [] => rfl
  | n :: ns => by
    show (noRef (.int n) && noRefs (ns.map D.int)) = true
    rw [nr_ints ns]
    rfl
theorem toPy_ints {n : Nat} {ns : List Int} (h : getL S n = some (ns.map D.int)) : toPy S (.ref n) = some (.list (ns.map PyData.int)) := by rw [toPy_lst h (nr_ints ns), dPys_ints]
theorem d_int (i : Int) : (PyData.int i).canLay0 = true ∧ (PyData.int i).depth ≤ 10 := ⟨(sh_int i).1, Nat.le_trans (Nat.le_of_eq (show PyData.depth (.int i) = 0 by simp [PyData.depth])) (by decide)⟩
theorem sh_ints (ns : List Int) : Sh (.list (ns.map PyData.int)) := sh_list fun p hp => by
  obtain ⟨i, _, rfl⟩ := List.mem_map.mp hp
  exact d_int i
theorem sh_pair (i j : Int) : Sh (.tuple [.int i, .int j]) := sh_tuple fun p hp => by
  simp only [List.mem_cons, List.not_mem_nil, or_false] at hp
  rcases hp with rfl | rfl <;> exact d_int _
theorem w_neT {i j : Int} : W (oNe (.tup [.int i, .int j]) (.tup [.int i, .int j]) S) Q ↔ Q (.bl false) S := w_neS (p := .tuple [.int i, .int j]) rfl rfl (sh_pair i j)
/-- a comprehension that starts from a list -/
theorem lc_invA {it : ItD} {ds : List D} {g : FG} {tt : FT} {te : FE} {n : Nat} {env : FL.Env} (Inv : Nat → List D → Sto → Prop) (acc0 : List D)
    (hit : ∀ i acc S, Inv i acc S → S[n]? = some (.lst acc) → it.it S i = some ds[i]?) (hlen : ds.length ≤ it.len)
    (step : ∀ i d acc S, ds[i]? = some d → Inv i acc S → S[n]? = some (.lst acc) → W (g d env S) fun e1 S1 => W (tt e1 S1) fun k S2 =>
      if k = true then W (te e1 S2) fun y S3 => S3[n]? = some (.lst acc) ∧ acc.length < cap ∧ Inv (i + 1) (acc ++ [y]) (S3.set n (.lst (acc ++ [y]))) else S2[n]? = some (.lst acc) ∧ Inv (i + 1) acc S2)
    {S : Sto} (h0 : Inv 0 acc0 S) (hn : S[n]? = some (.lst acc0)) : ∃ S' acc, lcI it g tt te n env (it.len + 1) 0 S = some S' ∧ S'[n]? = some (.lst acc) ∧ Inv ds.length acc S' := by
  have key : ∀ (m i : Nat) (acc : List D) (S : Sto), ds.length < i + m → i ≤ ds.length → Inv i acc S → S[n]? = some (.lst acc) → ∃ S' acc', lcI it g tt te n env m i S = some S' ∧ S'[n]? = some (.lst acc') ∧ Inv ds.length acc' S' := by
    intro m
    induction m with
    | zero => intro i acc S h1 h2; omega
    | succ m ih =>
      intro i acc S h1 h2 hI hn
      unfold lcI
      rw [hit i acc S hI hn]
      by_cases hz : i < ds.length
      · rw [List.getElem?_eq_getElem hz]
        obtain ⟨e1, S1, q1, k, S2, q2, h⟩ := step i _ acc S (List.getElem?_eq_getElem hz) hI hn
        simp only [q1, th_some, q2]
        cases k with
        | true =>
          rw [if_pos rfl] at h ⊢
          obtain ⟨y, S3, q3, h1', h2', h3'⟩ := h
          simp only [q3, th_some, h1', if_pos h2']
          exact ih (i + 1) _ _ (by omega) (by omega) h3' (set_at h1')
        | false =>
          rw [if_neg Bool.false_ne_true] at h ⊢
          exact ih (i + 1) acc S2 (by omega) (by omega) h.2 h.1
      · have e : i = ds.length := by omega
        subst e
        rw [List.getElem?_eq_none (Nat.le_refl _)]
        exact ⟨S, acc, rfl, hn, hI⟩
  exact key _ 0 acc0 S (by omega) (Nat.zero_le _) h0 hn
theorem w_lc2m {fi : FI} {g : FG} {tt : FT} {fi1 : FI} {g1 : FG} {tt1 : FT} {te : FE} {vs vs1 : List Nat} {us ws : List D} (p : D → Bool) (v : D → D → D)
    (hi : W (fi env S) fun it S1 => Ap S S1 ∧ us.length ≤ it.len ∧ ∀ S2, Ap S1 S2 → ∀ i, it.it S2 i = some us[i]?)
    (hb : ∀ a ∈ us, ∀ S2, Ap S S2 → W (g a (wipeE env vs) S2) fun e1 S3 => W (tt e1 S3) fun k S4 => k = p a ∧ Ap S2 S4 ∧ (p a = true → W (fi1 e1 S4) fun it1 S5 => Ap S4 S5 ∧ ws.length ≤ it1.len ∧ (∀ S6, Ap S S6 → ∀ j, it1.it S6 j = some ws[j]?) ∧
      ∀ b ∈ ws, ∀ S6, Ap S S6 → W (g1 b (wipeE e1 vs1) S6) fun e2 S7 => W (tt1 e2 S7) fun k2 S8 => k2 = true ∧ Ap S6 S8 ∧ W (te e2 S8) fun y S9 => y = v a b ∧ Ap S8 S9))
    (hl : us.length * ws.length < cap)
    (hq : ∀ n S', Ap S S' → S.length ≤ n → S'[n]? = some (.lst ((us.filter p).flatMap fun a => ws.map (v a))) → Q (.ref n) S') : W (eLc2 fi g tt fi1 g1 tt1 te vs vs1 env S) Q := by
  unfold eLc2
  rw [W_th]
  obtain ⟨it, S1, e, a1, hlen, hit⟩ := hi
  refine ⟨it, S1, e, ?_⟩
  have key : ∀ (m i : Nat) (S' : Sto) (acc : List D), us.length < i + m → i ≤ us.length → Ap S1 S' → S'[S1.length]? = some (.lst acc) → acc = ((us.take i).filter p).flatMap (fun a => ws.map (v a)) → acc.length ≤ i * ws.length →
      ∃ S2, lc2I it g tt fi1 g1 tt1 te vs1 S1.length (wipeE env vs) m i S' = some S2 ∧ Ap S1 S2 ∧ S2[S1.length]? = some (.lst ((us.filter p).flatMap fun a => ws.map (v a))) := by
    intro m
    induction m with
    | zero => intro i S' acc h1 h2; omega
    | succ m ih =>
      intro i S' acc h1 h2 aS hn ea la
      unfold lc2I
      rw [hit S' aS i]
      by_cases hz : i < us.length
      · have hd := List.getElem?_eq_getElem hz
        rw [hd]
        obtain ⟨e1, S3, q1, k, S4, q2, rfl, a4, h⟩ := hb us[i] (List.getElem_mem hz) S' (a1.trans aS)
        simp only [q1, th_some, q2]
        have tk : us.take (i + 1) = us.take i ++ [us[i]] := by rw [List.take_add_one, hd]; rfl
        have mul1 : (i + 1) * ws.length = i * ws.length + ws.length := Nat.succ_mul i ws.length
        cases hp : p us[i] with
        | true =>
          rw [if_pos rfl]
          obtain ⟨it1, S5, q5, a5, l5, hit1, hb1⟩ := h hp
          simp only [q5, th_some]
          obtain ⟨S6, acc6, r1, r2, r3, r4⟩ := lc_invA (it := it1) (ds := ws) (g := g1) (tt := tt1) (te := te) (n := S1.length) (env := wipeE e1 vs1) (fun j ac S7 => Ap S1 S7 ∧ ac = acc ++ (ws.take j).map (v us[i])) acc
            (fun j ac S7 hI _ => hit1 S7 (a1.trans hI.1) j) l5 (fun j b ac S7 hbj hI hn7 => by
              obtain ⟨aI, eI⟩ := hI
              obtain ⟨e2, S8, t1, k2, S9, t2, rfl, a9, y, S10, t3, rfl, a10⟩ := hb1 b (List.mem_of_getElem? hbj) S7 (a1.trans aI)
              refine ⟨e2, S8, t1, true, S9, t2, iteT ⟨_, S10, t3, a10 _ _ (a9 _ _ hn7), ?_, (aI.trans (a9.trans a10)).set (Nat.le_refl _), ?_⟩⟩
              · have hj := (List.getElem?_eq_some_iff.mp hbj).1
                rw [eI, List.length_append, List.length_map, List.length_take]
                have : i * ws.length + ws.length ≤ us.length * ws.length := by
                  rw [← mul1]
                  exact Nat.mul_le_mul_right _ hz
                omega
              · rw [eI, List.take_add_one, hbj, List.map_append, List.append_assoc]
                rfl) ⟨aS.trans (a4.trans a5), by simp⟩ ((a4.trans a5) _ _ hn)
          simp only [r1]
          rw [List.take_length] at r4
          refine ih (i + 1) S6 acc6 (by omega) (by omega) r3 r2 ?_ ?_
          · rw [r4, tk, List.filter_append, List.flatMap_append, ea]
            simp [hp]
          · rw [r4, List.length_append, List.length_map]
            omega
        | false =>
          rw [if_neg Bool.false_ne_true]
          refine ih (i + 1) S4 acc (by omega) (by omega) (aS.trans a4) (a4 _ _ hn) ?_ (by omega)
          rw [tk, List.filter_append, List.flatMap_append, ea]
          simp [hp]
      · have e : i = us.length := by omega
        subst e
        rw [List.getElem?_eq_none (Nat.le_refl _)]
        refine ⟨S', rfl, aS, ?_⟩
        rw [hn, ea, List.take_length]
  obtain ⟨S2, r1, r2, r3⟩ := key (it.len + 1) 0 (S1 ++ [.lst []]) [] (by omega) (Nat.zero_le _) (Ap.app _ _) (new_at _ _) rfl (Nat.zero_le _)
  have := hq _ _ (a1.trans r2) a1.len r3
  simpa [r1] using this
end
end FL
/-! FL19: comprehensions over lists of numbers. -/
namespace FL
open PySem L2
section
variable {env : FL.Env} {S : Sto} {Q : D → Sto → Prop}
def onI (v : Int → Int) : D → D
  | .int x => .int (v x)
  | d => d
def onP (p : Int → Bool) : D → Bool
  | .int x => p x
  | _ => false
theorem filter_ints (p : Int → Bool) : ∀ ns : List Int, (ns.map D.int).filter (onP p) = (ns.filter p).map D.int
  | [] => rfl
  | n :: ns => by
    rw [List.map_cons, List.filter_cons, List.filter_cons, filter_ints p ns]
    show (if p n = true then _ else _) = _
    split <;> rfl
theorem map_onI (v : Int → Int) : ∀ ns : List Int, (ns.map D.int).map (onI v) = (ns.map v).map D.int
  | [] => rfl
  | n :: ns => by
    rw [List.map_cons, List.map_cons, List.map_cons, List.map_cons, map_onI v ns]
    rfl
theorem w_lci {fi : FI} {g : FG} {tt : FT} {te : FE} {vs : List Nat} {ns : List Int} (v : Int → Int) (p : Int → Bool)
    (hi : W (fi env S) fun it S1 => Ap S S1 ∧ ns.length ≤ it.len ∧ ∀ S2, Ap S1 S2 → ∀ i, it.it S2 i = some (ns.map D.int)[i]?)
    (hb : ∀ x ∈ ns, ∀ S2, Ap S S2 → W (g (.int x) (wipeE env vs) S2) fun e1 S3 => W (tt e1 S3) fun k S4 => k = p x ∧ Ap S2 S4 ∧ (p x = true → W (te e1 S4) fun y S5 => y = .int (v x) ∧ Ap S4 S5))
    (hl : ns.length ≤ cap)
    (hq : ∀ n S', Ap S S' → S.length ≤ n → S'[n]? = some (.lst (((ns.filter p).map v).map D.int)) → Q (.ref n) S') : W (eLc fi g tt te vs env S) Q := by
  refine w_lcm (ds := ns.map D.int) (onI v) (onP p) ?_ (fun d hd S2 a => ?_) (by simpa using hl) (fun n S' a l h => hq n S' a l ?_)
  · obtain ⟨it, S1, e, h1, h2, h3⟩ := hi
    exact ⟨it, S1, e, h1, by simpa using h2, h3⟩
  · obtain ⟨x, hx, rfl⟩ := List.mem_map.mp hd
    exact hb x hx S2 a
  · rw [h, filter_ints, map_onI]
theorem w_lc2i {fi : FI} {g : FG} {tt : FT} {fi1 : FI} {g1 : FG} {tt1 : FT} {te : FE} {vs vs1 : List Nat} {ns ms : List Int} (p : Int → Bool) (v : Int → Int → Int)
    (hi : W (fi env S) fun it S1 => Ap S S1 ∧ ns.length ≤ it.len ∧ ∀ S2, Ap S1 S2 → ∀ i, it.it S2 i = some (ns.map D.int)[i]?)
    (hb : ∀ a ∈ ns, ∀ S2, Ap S S2 → W (g (.int a) (wipeE env vs) S2) fun e1 S3 => W (tt e1 S3) fun k S4 => k = p a ∧ Ap S2 S4 ∧ (p a = true → W (fi1 e1 S4) fun it1 S5 => Ap S4 S5 ∧ ms.length ≤ it1.len ∧ (∀ S6, Ap S S6 → ∀ j, it1.it S6 j = some (ms.map D.int)[j]?) ∧
      ∀ b ∈ ms, ∀ S6, Ap S S6 → W (g1 (.int b) (wipeE e1 vs1) S6) fun e2 S7 => W (tt1 e2 S7) fun k2 S8 => k2 = true ∧ Ap S6 S8 ∧ W (te e2 S8) fun y S9 => y = .int (v a b) ∧ Ap S8 S9))
    (hl : ns.length * ms.length < cap)
    (hq : ∀ n S', Ap S S' → S.length ≤ n → S'[n]? = some (.lst (((ns.filter p).flatMap fun a => ms.map (v a)).map D.int)) → Q (.ref n) S') : W (eLc2 fi g tt fi1 g1 tt1 te vs vs1 env S) Q := by
  refine w_lc2m (us := ns.map D.int) (ws := ms.map D.int) (onP p) (fun a b => match a with | .int x => onI (v x) b | _ => .non) ?_ (fun d hd S2 a => ?_) (by simpa using hl) (fun n S' a l h => hq n S' a l ?_)
  · obtain ⟨it, S1, e, h1, h2, h3⟩ := hi
    exact ⟨it, S1, e, h1, by simpa using h2, h3⟩
  · obtain ⟨x, hx, rfl⟩ := List.mem_map.mp hd
    refine (hb x hx S2 a).mono fun e1 S3 h => h.mono fun k S4 ⟨h1, h2, h3⟩ => ⟨h1, h2, fun hp => (h3 hp).mono fun it1 S5 ⟨k1, k2, k3, k4⟩ => ⟨k1, by simpa using k2, k3, fun b hb S6 a6 => ?_⟩⟩
    obtain ⟨y, hy, rfl⟩ := List.mem_map.mp hb
    exact k4 y hy S6 a6
  · rw [h, filter_ints, List.flatMap_map, List.map_flatMap]
    have e : (fun a => (ms.map D.int).map (onI (v a))) = fun a => (ms.map (v a)).map D.int := funext fun a => map_onI (v a) ms
    exact congrArg (fun f => some (O.lst (List.flatMap f (ns.filter p)))) e
/-- a list of numbers that stays, as what is walked -/
theorem hit_lst {n : Nat} {ns : List Int} {S1 : Sto} (h : getL S1 n = some (ns.map D.int)) (k : Nat) : ∀ S2, Ap S1 S2 → ∀ i, (ItD.lst n k).it S2 i = some (ns.map D.int)[i]? := by
  intro S2 a i
  unfold ItD.lst
  simp [getL_ap h a]
end
end FL
/-! K58b: what the defs of k58 compute. -/
namespace K58
open PySem L2 FL M58
theorem take_is : f__law_take = f_take := rfl
theorem tape_is : f__law_tape = f_tape := rfl
def nm : Op → Str
  | .add => "add"
  | .sub => "sub"
  | .mul => "mul"
  | .div => "div"
  | .less => "less"
  | .same => "same"
def idx : Op → Nat
  | .add => 0
  | .sub => 1
  | .mul => 2
  | .div => 3
  | .less => 4
  | .same => 5
abbrev rD (r : Rg) : D := .tup [.int r.1, .int r.2]
def bd (a : Int) : Prop := -2147483648 ≤ a ∧ a ≤ 2147483647
section
variable {S : Sto} {Q : D → Sto → Prop} {tp tm : Nat}
theorem nm_ok : ∀ o : Op, PyData.strOk (nm o) = true := by intro o; cases o <;> decide +kernel
theorem nm_eq : ∀ o o' : Op, (nm o == nm o') = (idx o == idx o') := by intro o o'; cases o <;> cases o' <;> decide +kernel
theorem w_nm (o o' : Op) : W (oEq (.str (nm o)) (.str (nm o')) S) Q ↔ Q (.bl (idx o == idx o')) S := by rw [w_eqStr (nm_ok o) (nm_ok o'), nm_eq]
theorem w_n0 (o : Op) : W (oEq (.str (nm o)) (.str "add") S) Q ↔ Q (.bl (idx o == 0)) S := w_nm o .add
theorem w_n1 (o : Op) : W (oEq (.str (nm o)) (.str "sub") S) Q ↔ Q (.bl (idx o == 1)) S := w_nm o .sub
theorem w_n2 (o : Op) : W (oEq (.str (nm o)) (.str "mul") S) Q ↔ Q (.bl (idx o == 2)) S := w_nm o .mul
theorem w_n3 (o : Op) : W (oEq (.str (nm o)) (.str "div") S) Q ↔ Q (.bl (idx o == 3)) S := w_nm o .div
theorem w_n4 (o : Op) : W (oEq (.str (nm o)) (.str "less") S) Q ↔ Q (.bl (idx o == 4)) S := w_nm o .less
theorem w_ab (i : Int) : W (fAbs [.int i] S) Q ↔ Q (.int (ab i)) S := w_abs i
theorem wrapped_ok (n : Int) : W (f_wrapped [.int n] S) Q ↔ Q (.int (wr n)) S := by
  refine W_pure ?_
  refine w_fn rfl ?_
  show W (b_wrapped [some (.int n)] S) _
  unfold b_wrapped
  simp only [w_seq, w_asg, w_ret, w_retN, w_drop, w_brk, w_cnt, w_nil, w_sif, w_c, w_ev, w_bin, w_un, w_anil, w_acons, w_tup, w_lst, w_call, w_tB, w_tNot, w_tAnd, w_tOr, w_eIf, w_isN, w_notN, w_gnm, w_gnils, w_gcns, w_gtp2, w_gtp3, w_ixT0, w_ixT1, w_ixT2, w_ch, w_chL, w_chK, w_par2, w_par3, w_add, w_sub, w_neg, w_lt, w_le, w_gt, w_ge, w_abs, w_int, w_intb, w_max2, w_min2, w_pno, w_ppart, w_sl, w_bm, w_yes, w_eqI, w_neI, w_eqB, w_neB, QS_nx, QS_rt, QS_bk, QS_ct, QF_nx, QF_rt, QL_nx, QL_ct, QL_bk, QL_rt, wipeE, List.set_cons_succ, List.set_cons_zero, List.getElem?_cons_succ, List.getElem?_cons_zero, D.bl.injEq, D.int.injEq, exists_eq_left', exists_eq_left, w_eAnd, w_tTru, tru_bl, if_true, if_false, Bool.false_eq_true, w_mul (show okMul 2 2147483648 = true from by decide), w_mod (show (0 : Int) < 2 * 2147483648 by decide)]
  exact ⟨rfl, trivial⟩
theorem lwrap_ok (n : Int) : W (f__law_wrap [.int n] S) Q ↔ Q (.int (wr n)) S := by
  refine W_pure ?_
  refine w_fn rfl ?_
  show W (b__law_wrap [some (.int n)] S) _
  unfold b__law_wrap
  simp only [w_seq, w_asg, w_ret, w_retN, w_drop, w_brk, w_cnt, w_nil, w_sif, w_c, w_ev, w_bin, w_un, w_anil, w_acons, w_tup, w_lst, w_call, w_tB, w_tNot, w_tAnd, w_tOr, w_eIf, w_isN, w_notN, w_gnm, w_gnils, w_gcns, w_gtp2, w_gtp3, w_ixT0, w_ixT1, w_ixT2, w_ch, w_chL, w_chK, w_par2, w_par3, w_add, w_sub, w_neg, w_lt, w_le, w_gt, w_ge, w_abs, w_int, w_intb, w_max2, w_min2, w_pno, w_ppart, w_sl, w_bm, w_yes, w_eqI, w_neI, w_eqB, w_neB, QS_nx, QS_rt, QS_bk, QS_ct, QF_nx, QF_rt, QL_nx, QL_ct, QL_bk, QL_rt, wipeE, List.set_cons_succ, List.set_cons_zero, List.getElem?_cons_succ, List.getElem?_cons_zero, D.bl.injEq, D.int.injEq, exists_eq_left', exists_eq_left, w_eAnd, w_tTru, tru_bl, if_true, if_false, Bool.false_eq_true, w_mod (show (0 : Int) < 4294967296 by decide)]
  exact ⟨rfl, trivial⟩
theorem ab_small {b : Int} (h : bd b) : ab b < 18446744073709551616 := by
  obtain ⟨h1, h2⟩ := h
  unfold ab
  split <;> omega
theorem divided_ok {a b : Int} (hb : bd b) : W (f_divided [.int a, .int b] S) Q ↔ Q (.int (divd a b)) S := by
  refine W_pure ?_
  refine w_fn rfl ?_
  show W (b_divided [some (.int a), some (.int b), none] S) _
  unfold b_divided
  simp only [w_seq, w_asg, w_ret, w_retN, w_drop, w_brk, w_cnt, w_nil, w_sif, w_c, w_ev, w_bin, w_un, w_anil, w_acons, w_tup, w_lst, w_call, w_tB, w_tNot, w_tAnd, w_tOr, w_eIf, w_isN, w_notN, w_gnm, w_gnils, w_gcns, w_gtp2, w_gtp3, w_ixT0, w_ixT1, w_ixT2, w_ch, w_chL, w_chK, w_par2, w_par3, w_add, w_sub, w_neg, w_lt, w_le, w_gt, w_ge, w_abs, w_int, w_intb, w_max2, w_min2, w_pno, w_ppart, w_sl, w_bm, w_yes, w_eqI, w_neI, w_eqB, w_neB, QS_nx, QS_rt, QS_bk, QS_ct, QF_nx, QF_rt, QL_nx, QL_ct, QL_bk, QL_rt, wipeE, List.set_cons_succ, List.set_cons_zero, List.getElem?_cons_succ, List.getElem?_cons_zero, D.bl.injEq, D.int.injEq, exists_eq_left', exists_eq_left, w_eAnd, w_tTru, tru_bl, if_true, if_false, Bool.false_eq_true, decide_eq_true_eq]
  by_cases h : b = 0
  · rw [if_pos h]
    exact ⟨by unfold divd; rw [if_pos h], trivial⟩
  · rw [if_neg h, ← ab.eq_1 a, ← ab.eq_1 b, w_div (ab_pos h) (ab_small hb)]
    have e : divd a b = wr (if (decide (a < 0) == decide (b < 0)) = true then ab a / ab b else -(ab a / ab b)) := by unfold divd; rw [if_neg h]
    rw [e]
    cases (decide (a < 0) == decide (b < 0)) <;> simp only [w_seq, w_asg, w_ret, w_retN, w_drop, w_brk, w_cnt, w_nil, w_sif, w_c, w_ev, w_bin, w_un, w_anil, w_acons, w_tup, w_lst, w_call, w_tB, w_tNot, w_tAnd, w_tOr, w_eIf, w_isN, w_notN, w_gnm, w_gnils, w_gcns, w_gtp2, w_gtp3, w_ixT0, w_ixT1, w_ixT2, w_ch, w_chL, w_chK, w_par2, w_par3, w_add, w_sub, w_neg, w_lt, w_le, w_gt, w_ge, w_abs, w_int, w_intb, w_max2, w_min2, w_pno, w_ppart, w_sl, w_bm, w_yes, w_eqI, w_neI, w_eqB, w_neB, QS_nx, QS_rt, QS_bk, QS_ct, QF_nx, QF_rt, QL_nx, QL_ct, QL_bk, QL_rt, wipeE, List.set_cons_succ, List.set_cons_zero, List.getElem?_cons_succ, List.getElem?_cons_zero, D.bl.injEq, D.int.injEq, exists_eq_left', exists_eq_left, w_eAnd, w_tTru, tru_bl, if_true, if_false, Bool.false_eq_true, wrapped_ok] <;> exact ⟨trivial, trivial⟩
theorem exact_ok (o : Op) {a b : Int} (ha : bd a) (hb : bd b) : W (f__law_exact [.str (nm o), .int a, .int b] S) fun d S' => d = .int (ex o a b) ∧ Ap S S' := by
  obtain ⟨a1, a2⟩ := ha
  refine w_fn rfl ?_
  show W (b__law_exact [some (.str (nm o)), some (.int a), some (.int b), none] S) _
  unfold b__law_exact
  simp only [w_seq, w_asg, w_ret, w_retN, w_drop, w_brk, w_cnt, w_nil, w_sif, w_c, w_ev, w_bin, w_un, w_anil, w_acons, w_tup, w_lst, w_call, w_tB, w_tNot, w_tAnd, w_tOr, w_eIf, w_isN, w_notN, w_gnm, w_gnils, w_gcns, w_gtp2, w_gtp3, w_ixT0, w_ixT1, w_ixT2, w_ch, w_chL, w_chK, w_par2, w_par3, w_add, w_sub, w_neg, w_lt, w_le, w_gt, w_ge, w_abs, w_int, w_intb, w_max2, w_min2, w_pno, w_ppart, w_sl, w_bm, w_yes, w_eqI, w_neI, w_eqB, w_neB, QS_nx, QS_rt, QS_bk, QS_ct, QF_nx, QF_rt, QL_nx, QL_ct, QL_bk, QL_rt, wipeE, List.set_cons_succ, List.set_cons_zero, List.getElem?_cons_succ, List.getElem?_cons_zero, D.bl.injEq, D.int.injEq, exists_eq_left', exists_eq_left, w_eAnd, w_tTru, tru_bl, if_true, if_false, Bool.false_eq_true, w_n3, decide_eq_true_eq]
  have dict : idx o ≠ 3 → W (eDic (aPairs [(eC (.str "add"), eBin oAdd (eVar 1) (eVar 2)), (eC (.str "sub"), eBin oSub (eVar 1) (eVar 2)), (eC (.str "mul"), eBin oMul (eVar 1) (eVar 2)), (eC (.str "less"), eCall fInt (aCons (eBin oLt (eVar 1) (eVar 2)) (aNil))), (eC (.str "same"), eCall fInt (aCons (eBin oEq (eVar 1) (eVar 2)) (aNil)))]) [some (.str (nm o)), some (.int a), some (.int b), none] S) fun x S1 => W (oIx x (.str (nm o)) S1) fun d S' => d = .int (ex o a b) ∧ Ap S S' := by
    intro hne
    refine w_dic ?_
    unfold aPairs aPairs aPairs aPairs aPairs aPairs
    simp only [w_seq, w_asg, w_ret, w_retN, w_drop, w_brk, w_cnt, w_nil, w_sif, w_c, w_ev, w_bin, w_un, w_anil, w_acons, w_tup, w_lst, w_call, w_tB, w_tNot, w_tAnd, w_tOr, w_eIf, w_isN, w_notN, w_gnm, w_gnils, w_gcns, w_gtp2, w_gtp3, w_ixT0, w_ixT1, w_ixT2, w_ch, w_chL, w_chK, w_par2, w_par3, w_add, w_sub, w_neg, w_lt, w_le, w_gt, w_ge, w_abs, w_int, w_intb, w_max2, w_min2, w_pno, w_ppart, w_sl, w_bm, w_yes, w_eqI, w_neI, w_eqB, w_neB, QS_nx, QS_rt, QS_bk, QS_ct, QF_nx, QF_rt, QL_nx, QL_ct, QL_bk, QL_rt, wipeE, List.set_cons_succ, List.set_cons_zero, List.getElem?_cons_succ, List.getElem?_cons_zero, D.bl.injEq, D.int.injEq, exists_eq_left', exists_eq_left, w_eAnd, w_tTru, tru_bl, if_true, if_false, Bool.false_eq_true, w_mul (show okMul a b = true from okMul_l (by omega) (by omega)), decide_eq_true_eq]
    refine ⟨new_at _ _, _, rfl, (by show 5 ≤ 15; decide), ?_⟩
    have ap : Ap S ((S ++ [O.dic []]).set S.length (.dic (mergeG [] [(.inr "add", .int (a + b)), (.inr "sub", .int (a - b)), (.inr "mul", .int (a * b)), (.inr "less", .int (if a < b then 1 else 0)), (.inr "same", .int (if a = b then 1 else 0))]))) := (Ap.app S _).set (Nat.le_refl _)
    refine (w_ixDs (set_at (new_at _ _)) (d := .int (ex o a b)) ?_).mpr ⟨rfl, ap⟩
    cases o with
    | add => rfl
    | sub => rfl
    | mul => rfl
    | less => rfl
    | same => rfl
    | div => exact absurd rfl hne
  by_cases h3 : idx o = 3
  · have e : o = .div := by cases o <;> first | rfl | (exact absurd h3 (by decide))
    subst e
    have e3 : (idx Op.div == 3) = true := rfl
    simp only [e3, if_true]
    by_cases h : b = 0
    · rw [if_pos h]
      have ee : ex .div a b = if (decide (a < 0) == decide (b < 0)) = true then 0 else -0 := by
        show qd a b = _
        unfold qd
        rw [if_pos h]
      rw [ee]
      cases (decide (a < 0) == decide (b < 0)) <;> simp only [w_seq, w_asg, w_ret, w_retN, w_drop, w_brk, w_cnt, w_nil, w_sif, w_c, w_ev, w_bin, w_un, w_anil, w_acons, w_tup, w_lst, w_call, w_tB, w_tNot, w_tAnd, w_tOr, w_eIf, w_isN, w_notN, w_gnm, w_gnils, w_gcns, w_gtp2, w_gtp3, w_ixT0, w_ixT1, w_ixT2, w_ch, w_chL, w_chK, w_par2, w_par3, w_add, w_sub, w_neg, w_lt, w_le, w_gt, w_ge, w_abs, w_int, w_intb, w_max2, w_min2, w_pno, w_ppart, w_sl, w_bm, w_yes, w_eqI, w_neI, w_eqB, w_neB, QS_nx, QS_rt, QS_bk, QS_ct, QF_nx, QF_rt, QL_nx, QL_ct, QL_bk, QL_rt, wipeE, List.set_cons_succ, List.set_cons_zero, List.getElem?_cons_succ, List.getElem?_cons_zero, D.bl.injEq, D.int.injEq, exists_eq_left', exists_eq_left, w_eAnd, w_tTru, tru_bl, if_true, if_false, Bool.false_eq_true] <;> exact ⟨trivial, Ap.refl _⟩
    · rw [if_neg h, ← ab.eq_1 a, ← ab.eq_1 b, w_div (ab_pos h) (ab_small hb)]
      have ee : ex .div a b = if (decide (a < 0) == decide (b < 0)) = true then ab a / ab b else -(ab a / ab b) := by
        show qd a b = _
        unfold qd
        rw [if_neg h]
      rw [ee]
      cases (decide (a < 0) == decide (b < 0)) <;> simp only [w_seq, w_asg, w_ret, w_retN, w_drop, w_brk, w_cnt, w_nil, w_sif, w_c, w_ev, w_bin, w_un, w_anil, w_acons, w_tup, w_lst, w_call, w_tB, w_tNot, w_tAnd, w_tOr, w_eIf, w_isN, w_notN, w_gnm, w_gnils, w_gcns, w_gtp2, w_gtp3, w_ixT0, w_ixT1, w_ixT2, w_ch, w_chL, w_chK, w_par2, w_par3, w_add, w_sub, w_neg, w_lt, w_le, w_gt, w_ge, w_abs, w_int, w_intb, w_max2, w_min2, w_pno, w_ppart, w_sl, w_bm, w_yes, w_eqI, w_neI, w_eqB, w_neB, QS_nx, QS_rt, QS_bk, QS_ct, QF_nx, QF_rt, QL_nx, QL_ct, QL_bk, QL_rt, wipeE, List.set_cons_succ, List.set_cons_zero, List.getElem?_cons_succ, List.getElem?_cons_zero, D.bl.injEq, D.int.injEq, exists_eq_left', exists_eq_left, w_eAnd, w_tTru, tru_bl, if_true, if_false, Bool.false_eq_true] <;> exact ⟨trivial, Ap.refl _⟩
  · have e3 : (idx o == 3) = false := by simpa using h3
    simp only [e3, Bool.false_eq_true, if_false]
    exact dict h3
theorem bit_wr (p : Prop) [Decidable p] : wr (if p then 1 else 0) = if p then 1 else 0 := by
  split <;> decide
theorem done_ok (o : Op) {a b : Int} (ha : bd a) (hb : bd b) : W (f_done [.str (nm o), .int a, .int b] S) Q ↔ Q (.int (wr (ex o a b))) S := by
  obtain ⟨a1, a2⟩ := ha
  refine W_pure ?_
  refine w_fn rfl ?_
  show W (b_done [some (.str (nm o)), some (.int a), some (.int b)] S) _
  unfold b_done
  simp only [w_seq, w_asg, w_ret, w_retN, w_drop, w_brk, w_cnt, w_nil, w_sif, w_c, w_ev, w_bin, w_un, w_anil, w_acons, w_tup, w_lst, w_call, w_tB, w_tNot, w_tAnd, w_tOr, w_eIf, w_isN, w_notN, w_gnm, w_gnils, w_gcns, w_gtp2, w_gtp3, w_ixT0, w_ixT1, w_ixT2, w_ch, w_chL, w_chK, w_par2, w_par3, w_add, w_sub, w_neg, w_lt, w_le, w_gt, w_ge, w_abs, w_int, w_intb, w_max2, w_min2, w_pno, w_ppart, w_sl, w_bm, w_yes, w_eqI, w_neI, w_eqB, w_neB, QS_nx, QS_rt, QS_bk, QS_ct, QF_nx, QF_rt, QL_nx, QL_ct, QL_bk, QL_rt, wipeE, List.set_cons_succ, List.set_cons_zero, List.getElem?_cons_succ, List.getElem?_cons_zero, D.bl.injEq, D.int.injEq, exists_eq_left', exists_eq_left, w_eAnd, w_tTru, tru_bl, if_true, if_false, Bool.false_eq_true, w_n0, w_n1, w_n2, w_n3, w_n4]
  cases o with
  | add =>
    simp only [idx, Nat.reduceBEq, w_seq, w_asg, w_ret, w_retN, w_drop, w_brk, w_cnt, w_nil, w_sif, w_c, w_ev, w_bin, w_un, w_anil, w_acons, w_tup, w_lst, w_call, w_tB, w_tNot, w_tAnd, w_tOr, w_eIf, w_isN, w_notN, w_gnm, w_gnils, w_gcns, w_gtp2, w_gtp3, w_ixT0, w_ixT1, w_ixT2, w_ch, w_chL, w_chK, w_par2, w_par3, w_add, w_sub, w_neg, w_lt, w_le, w_gt, w_ge, w_abs, w_int, w_intb, w_max2, w_min2, w_pno, w_ppart, w_sl, w_bm, w_yes, w_eqI, w_neI, w_eqB, w_neB, QS_nx, QS_rt, QS_bk, QS_ct, QF_nx, QF_rt, QL_nx, QL_ct, QL_bk, QL_rt, wipeE, List.set_cons_succ, List.set_cons_zero, List.getElem?_cons_succ, List.getElem?_cons_zero, D.bl.injEq, D.int.injEq, exists_eq_left', exists_eq_left, w_eAnd, w_tTru, tru_bl, if_true, if_false, Bool.false_eq_true, wrapped_ok]
    exact ⟨rfl, trivial⟩
  | sub =>
    simp only [idx, Nat.reduceBEq, w_seq, w_asg, w_ret, w_retN, w_drop, w_brk, w_cnt, w_nil, w_sif, w_c, w_ev, w_bin, w_un, w_anil, w_acons, w_tup, w_lst, w_call, w_tB, w_tNot, w_tAnd, w_tOr, w_eIf, w_isN, w_notN, w_gnm, w_gnils, w_gcns, w_gtp2, w_gtp3, w_ixT0, w_ixT1, w_ixT2, w_ch, w_chL, w_chK, w_par2, w_par3, w_add, w_sub, w_neg, w_lt, w_le, w_gt, w_ge, w_abs, w_int, w_intb, w_max2, w_min2, w_pno, w_ppart, w_sl, w_bm, w_yes, w_eqI, w_neI, w_eqB, w_neB, QS_nx, QS_rt, QS_bk, QS_ct, QF_nx, QF_rt, QL_nx, QL_ct, QL_bk, QL_rt, wipeE, List.set_cons_succ, List.set_cons_zero, List.getElem?_cons_succ, List.getElem?_cons_zero, D.bl.injEq, D.int.injEq, exists_eq_left', exists_eq_left, w_eAnd, w_tTru, tru_bl, if_true, if_false, Bool.false_eq_true, wrapped_ok]
    exact ⟨rfl, trivial⟩
  | mul =>
    simp only [idx, Nat.reduceBEq, w_seq, w_asg, w_ret, w_retN, w_drop, w_brk, w_cnt, w_nil, w_sif, w_c, w_ev, w_bin, w_un, w_anil, w_acons, w_tup, w_lst, w_call, w_tB, w_tNot, w_tAnd, w_tOr, w_eIf, w_isN, w_notN, w_gnm, w_gnils, w_gcns, w_gtp2, w_gtp3, w_ixT0, w_ixT1, w_ixT2, w_ch, w_chL, w_chK, w_par2, w_par3, w_add, w_sub, w_neg, w_lt, w_le, w_gt, w_ge, w_abs, w_int, w_intb, w_max2, w_min2, w_pno, w_ppart, w_sl, w_bm, w_yes, w_eqI, w_neI, w_eqB, w_neB, QS_nx, QS_rt, QS_bk, QS_ct, QF_nx, QF_rt, QL_nx, QL_ct, QL_bk, QL_rt, wipeE, List.set_cons_succ, List.set_cons_zero, List.getElem?_cons_succ, List.getElem?_cons_zero, D.bl.injEq, D.int.injEq, exists_eq_left', exists_eq_left, w_eAnd, w_tTru, tru_bl, if_true, if_false, Bool.false_eq_true, wrapped_ok, w_mul (show okMul a b = true from okMul_l (by omega) (by omega))]
    exact ⟨rfl, trivial⟩
  | div =>
    simp only [idx, Nat.reduceBEq, w_seq, w_asg, w_ret, w_retN, w_drop, w_brk, w_cnt, w_nil, w_sif, w_c, w_ev, w_bin, w_un, w_anil, w_acons, w_tup, w_lst, w_call, w_tB, w_tNot, w_tAnd, w_tOr, w_eIf, w_isN, w_notN, w_gnm, w_gnils, w_gcns, w_gtp2, w_gtp3, w_ixT0, w_ixT1, w_ixT2, w_ch, w_chL, w_chK, w_par2, w_par3, w_add, w_sub, w_neg, w_lt, w_le, w_gt, w_ge, w_abs, w_int, w_intb, w_max2, w_min2, w_pno, w_ppart, w_sl, w_bm, w_yes, w_eqI, w_neI, w_eqB, w_neB, QS_nx, QS_rt, QS_bk, QS_ct, QF_nx, QF_rt, QL_nx, QL_ct, QL_bk, QL_rt, wipeE, List.set_cons_succ, List.set_cons_zero, List.getElem?_cons_succ, List.getElem?_cons_zero, D.bl.injEq, D.int.injEq, exists_eq_left', exists_eq_left, w_eAnd, w_tTru, tru_bl, if_true, if_false, Bool.false_eq_true, divided_ok hb]
    exact ⟨divd_qd, trivial⟩
  | less =>
    simp only [idx, Nat.reduceBEq, w_seq, w_asg, w_ret, w_retN, w_drop, w_brk, w_cnt, w_nil, w_sif, w_c, w_ev, w_bin, w_un, w_anil, w_acons, w_tup, w_lst, w_call, w_tB, w_tNot, w_tAnd, w_tOr, w_eIf, w_isN, w_notN, w_gnm, w_gnils, w_gcns, w_gtp2, w_gtp3, w_ixT0, w_ixT1, w_ixT2, w_ch, w_chL, w_chK, w_par2, w_par3, w_add, w_sub, w_neg, w_lt, w_le, w_gt, w_ge, w_abs, w_int, w_intb, w_max2, w_min2, w_pno, w_ppart, w_sl, w_bm, w_yes, w_eqI, w_neI, w_eqB, w_neB, QS_nx, QS_rt, QS_bk, QS_ct, QF_nx, QF_rt, QL_nx, QL_ct, QL_bk, QL_rt, wipeE, List.set_cons_succ, List.set_cons_zero, List.getElem?_cons_succ, List.getElem?_cons_zero, D.bl.injEq, D.int.injEq, exists_eq_left', exists_eq_left, w_eAnd, w_tTru, tru_bl, if_true, if_false, Bool.false_eq_true, decide_eq_true_eq]
    exact ⟨(bit_wr _).symm, trivial⟩
  | same =>
    simp only [idx, Nat.reduceBEq, w_seq, w_asg, w_ret, w_retN, w_drop, w_brk, w_cnt, w_nil, w_sif, w_c, w_ev, w_bin, w_un, w_anil, w_acons, w_tup, w_lst, w_call, w_tB, w_tNot, w_tAnd, w_tOr, w_eIf, w_isN, w_notN, w_gnm, w_gnils, w_gcns, w_gtp2, w_gtp3, w_ixT0, w_ixT1, w_ixT2, w_ch, w_chL, w_chK, w_par2, w_par3, w_add, w_sub, w_neg, w_lt, w_le, w_gt, w_ge, w_abs, w_int, w_intb, w_max2, w_min2, w_pno, w_ppart, w_sl, w_bm, w_yes, w_eqI, w_neI, w_eqB, w_neB, QS_nx, QS_rt, QS_bk, QS_ct, QF_nx, QF_rt, QL_nx, QL_ct, QL_bk, QL_rt, wipeE, List.set_cons_succ, List.set_cons_zero, List.getElem?_cons_succ, List.getElem?_cons_zero, D.bl.injEq, D.int.injEq, exists_eq_left', exists_eq_left, w_eAnd, w_tTru, tru_bl, if_true, if_false, Bool.false_eq_true, decide_eq_true_eq]
    exact ⟨(bit_wr _).symm, trivial⟩
theorem kept_ok (L H : Int) : W (f_kept [.int L, .int H] S) Q ↔ Q (rD (kept L H)) S := by
  refine W_pure ?_
  refine w_fn rfl ?_
  show W (b_kept [some (.int L), some (.int H)] S) _
  unfold b_kept
  simp only [w_seq, w_asg, w_ret, w_retN, w_drop, w_brk, w_cnt, w_nil, w_sif, w_c, w_ev, w_bin, w_un, w_anil, w_acons, w_tup, w_lst, w_call, w_tB, w_tNot, w_tAnd, w_tOr, w_eIf, w_isN, w_notN, w_gnm, w_gnils, w_gcns, w_gtp2, w_gtp3, w_ixT0, w_ixT1, w_ixT2, w_ch, w_chL, w_chK, w_par2, w_par3, w_add, w_sub, w_neg, w_lt, w_le, w_gt, w_ge, w_abs, w_int, w_intb, w_max2, w_min2, w_pno, w_ppart, w_sl, w_bm, w_yes, w_eqI, w_neI, w_eqB, w_neB, QS_nx, QS_rt, QS_bk, QS_ct, QF_nx, QF_rt, QL_nx, QL_ct, QL_bk, QL_rt, wipeE, List.set_cons_succ, List.set_cons_zero, List.getElem?_cons_succ, List.getElem?_cons_zero, D.bl.injEq, D.int.injEq, exists_eq_left', exists_eq_left, w_eAnd, w_tTru, tru_bl, if_true, if_false, Bool.false_eq_true, decide_eq_true_eq]
  unfold kept
  by_cases h1 : -2147483648 ≤ L
  · rw [if_pos h1]
    by_cases h2 : H < 2147483648
    · rw [if_pos h2, if_pos ⟨h1, h2⟩]
      exact ⟨(by show 2 ≤ 10000000; decide), rfl, trivial⟩
    · rw [if_neg h2, if_neg (fun z => h2 z.2)]
      exact ⟨rfl, trivial⟩
  · rw [if_neg h1, if_neg (fun z => h1 z.1)]
    exact ⟨rfl, trivial⟩
theorem joined_ok (o t : Rg) : W (f_joined [rD o, rD t] S) Q ↔ Q (rD (if t.1 < o.1 then t.1 else o.1, if t.2 > o.2 then t.2 else o.2)) S := by
  refine W_pure ?_
  refine w_fn rfl ?_
  show W (b_joined [some (rD o), some (rD t)] S) _
  unfold b_joined
  simp only [w_seq, w_asg, w_ret, w_retN, w_drop, w_brk, w_cnt, w_nil, w_sif, w_c, w_ev, w_bin, w_un, w_anil, w_acons, w_tup, w_lst, w_call, w_tB, w_tNot, w_tAnd, w_tOr, w_eIf, w_isN, w_notN, w_gnm, w_gnils, w_gcns, w_gtp2, w_gtp3, w_ixT0, w_ixT1, w_ixT2, w_ch, w_chL, w_chK, w_par2, w_par3, w_add, w_sub, w_neg, w_lt, w_le, w_gt, w_ge, w_abs, w_int, w_intb, w_max2, w_min2, w_pno, w_ppart, w_sl, w_bm, w_yes, w_eqI, w_neI, w_eqB, w_neB, QS_nx, QS_rt, QS_bk, QS_ct, QF_nx, QF_rt, QL_nx, QL_ct, QL_bk, QL_rt, wipeE, List.set_cons_succ, List.set_cons_zero, List.getElem?_cons_succ, List.getElem?_cons_zero, D.bl.injEq, D.int.injEq, exists_eq_left', exists_eq_left, w_eAnd, w_tTru, tru_bl, if_true, if_false, Bool.false_eq_true]
  exact ⟨(by show 2 ≤ 10000000; decide), trivial, trivial⟩
theorem within_ok (o t : Rg) : W (f_is_within [rD o, rD t] S) Q ↔ Q (.bl (decide (t.1 ≤ o.1) && decide (o.2 ≤ t.2))) S := by
  refine W_pure ?_
  refine w_fn rfl ?_
  show W (b_is_within [some (rD o), some (rD t)] S) _
  unfold b_is_within
  simp only [w_seq, w_asg, w_ret, w_retN, w_drop, w_brk, w_cnt, w_nil, w_sif, w_c, w_ev, w_bin, w_un, w_anil, w_acons, w_tup, w_lst, w_call, w_tB, w_tNot, w_tAnd, w_tOr, w_eIf, w_isN, w_notN, w_gnm, w_gnils, w_gcns, w_gtp2, w_gtp3, w_ixT0, w_ixT1, w_ixT2, w_ch, w_chL, w_chK, w_par2, w_par3, w_add, w_sub, w_neg, w_lt, w_le, w_gt, w_ge, w_abs, w_int, w_intb, w_max2, w_min2, w_pno, w_ppart, w_sl, w_bm, w_yes, w_eqI, w_neI, w_eqB, w_neB, QS_nx, QS_rt, QS_bk, QS_ct, QF_nx, QF_rt, QL_nx, QL_ct, QL_bk, QL_rt, wipeE, List.set_cons_succ, List.set_cons_zero, List.getElem?_cons_succ, List.getElem?_cons_zero, D.bl.injEq, D.int.injEq, exists_eq_left', exists_eq_left, w_eAnd, w_tTru, tru_bl, if_true, if_false, Bool.false_eq_true]
  cases h : decide (t.1 ≤ o.1) <;> simp
end
end K58
/-! K58c: ranges. -/
namespace K58
open PySem L2 FL M58
section
variable {S : Sto} {Q : D → Sto → Prop} {tp tm : Nat}
theorem bd_of {r : Rg} (h : ok r) {x : Int} (h1 : r.1 ≤ x) (h2 : x ≤ r.2) : bd x := ⟨by have := h.1; omega, by have := h.2.2; omega⟩
theorem div_range_ok {o t : Rg} (ho : ok o) (ht : ok t) : W (f_div_range [rD o, rD t] S) fun d S' => d = rD (dr .div o t) ∧ Ap S S' := by
  obtain ⟨o1, o2, o3⟩ := id ho
  obtain ⟨t1, t2, t3⟩ := id ht
  refine w_fn rfl ?_
  show W (b_div_range [some (rD o), some (rD t), none, none, none, none, none] S) _
  unfold b_div_range
  simp only [w_seq, w_asg, w_ret, w_retN, w_drop, w_brk, w_cnt, w_nil, w_sif, w_c, w_ev, w_bin, w_un, w_anil, w_acons, w_tup, w_lst, w_call, w_tB, w_tNot, w_tAnd, w_tOr, w_eIf, w_isN, w_notN, w_gnm, w_gnils, w_gcns, w_gtp2, w_gtp3, w_ixT0, w_ixT1, w_ixT2, w_ch, w_chL, w_chK, w_par2, w_par3, w_add, w_sub, w_neg, w_lt, w_le, w_gt, w_ge, w_abs, w_int, w_intb, w_max2, w_min2, w_pno, w_ppart, w_sl, w_bm, w_yes, w_eqI, w_neI, w_eqB, w_neB, QS_nx, QS_rt, QS_bk, QS_ct, QF_nx, QF_rt, QL_nx, QL_ct, QL_bk, QL_rt, wipeE, List.set_cons_succ, List.set_cons_zero, List.getElem?_cons_succ, List.getElem?_cons_zero, D.bl.injEq, D.int.injEq, exists_eq_left', exists_eq_left, w_eAnd, w_tTru, tru_bl, if_true, if_false, Bool.false_eq_true]
  refine w_lci (ns := [t.1, t.2, -1, 1]) id (fun n => decide (t.1 ≤ n ∧ n ≤ t.2) && !decide (n = 0)) ?_ ?_ (by show 4 ≤ 10000000; decide) fun m1 S1 a1 l1 g1 => ?_
  · refine w_iseqT ?_
    simp only [w_seq, w_asg, w_ret, w_retN, w_drop, w_brk, w_cnt, w_nil, w_sif, w_c, w_ev, w_bin, w_un, w_anil, w_acons, w_tup, w_lst, w_call, w_tB, w_tNot, w_tAnd, w_tOr, w_eIf, w_isN, w_notN, w_gnm, w_gnils, w_gcns, w_gtp2, w_gtp3, w_ixT0, w_ixT1, w_ixT2, w_ch, w_chL, w_chK, w_par2, w_par3, w_add, w_sub, w_neg, w_lt, w_le, w_gt, w_ge, w_abs, w_int, w_intb, w_max2, w_min2, w_pno, w_ppart, w_sl, w_bm, w_yes, w_eqI, w_neI, w_eqB, w_neB, QS_nx, QS_rt, QS_bk, QS_ct, QF_nx, QF_rt, QL_nx, QL_ct, QL_bk, QL_rt, wipeE, List.set_cons_succ, List.set_cons_zero, List.getElem?_cons_succ, List.getElem?_cons_zero, D.bl.injEq, D.int.injEq, exists_eq_left', exists_eq_left, w_eAnd, w_tTru, tru_bl, if_true, if_false, Bool.false_eq_true]
    exact ⟨(by show 4 ≤ 10000000; decide), _, rfl, Ap.refl _, Nat.le_refl _, fun S2 a i => rfl⟩
  · intro x hx S2 a
    simp only [w_seq, w_asg, w_ret, w_retN, w_drop, w_brk, w_cnt, w_nil, w_sif, w_c, w_ev, w_bin, w_un, w_anil, w_acons, w_tup, w_lst, w_call, w_tB, w_tNot, w_tAnd, w_tOr, w_eIf, w_isN, w_notN, w_gnm, w_gnils, w_gcns, w_gtp2, w_gtp3, w_ixT0, w_ixT1, w_ixT2, w_ch, w_chL, w_chK, w_par2, w_par3, w_add, w_sub, w_neg, w_lt, w_le, w_gt, w_ge, w_abs, w_int, w_intb, w_max2, w_min2, w_pno, w_ppart, w_sl, w_bm, w_yes, w_eqI, w_neI, w_eqB, w_neB, QS_nx, QS_rt, QS_bk, QS_ct, QF_nx, QF_rt, QL_nx, QL_ct, QL_bk, QL_rt, wipeE, List.set_cons_succ, List.set_cons_zero, List.getElem?_cons_succ, List.getElem?_cons_zero, D.bl.injEq, D.int.injEq, exists_eq_left', exists_eq_left, w_eAnd, w_tTru, tru_bl, if_true, if_false, Bool.false_eq_true, decide_eq_true_eq]
    by_cases h1 : t.1 ≤ x
    · by_cases h2 : x ≤ t.2
      · by_cases h3 : x = 0
        · simp [h1, h2, h3, Ap.refl]
        · simp [h1, h2, h3, Ap.refl]
      · simp [h1, h2, Ap.refl]
    · simp [h1, Ap.refl]
  have g1 : S1[m1]? = some (.lst ((ends t).map D.int)) := by
    rw [g1, List.map_id]
    rfl
  have le : (ends t).length ≤ 4 := by
    unfold ends
    exact Nat.le_trans (List.length_filter_le _ _) (by show 4 ≤ 4; exact Nat.le_refl _)
  refine w_lc2i (ns := [o.1, o.2, 0]) (ms := ends t) (fun a => decide (o.1 ≤ a ∧ a ≤ o.2)) divd ?_ ?_ (by show 3 * (ends t).length < 10000000; omega) fun m2 S2 a2 l2 g2 => ?_
  · refine w_iseqT ?_
    simp only [w_seq, w_asg, w_ret, w_retN, w_drop, w_brk, w_cnt, w_nil, w_sif, w_c, w_ev, w_bin, w_un, w_anil, w_acons, w_tup, w_lst, w_call, w_tB, w_tNot, w_tAnd, w_tOr, w_eIf, w_isN, w_notN, w_gnm, w_gnils, w_gcns, w_gtp2, w_gtp3, w_ixT0, w_ixT1, w_ixT2, w_ch, w_chL, w_chK, w_par2, w_par3, w_add, w_sub, w_neg, w_lt, w_le, w_gt, w_ge, w_abs, w_int, w_intb, w_max2, w_min2, w_pno, w_ppart, w_sl, w_bm, w_yes, w_eqI, w_neI, w_eqB, w_neB, QS_nx, QS_rt, QS_bk, QS_ct, QF_nx, QF_rt, QL_nx, QL_ct, QL_bk, QL_rt, wipeE, List.set_cons_succ, List.set_cons_zero, List.getElem?_cons_succ, List.getElem?_cons_zero, D.bl.injEq, D.int.injEq, exists_eq_left', exists_eq_left, w_eAnd, w_tTru, tru_bl, if_true, if_false, Bool.false_eq_true]
    refine ⟨(by show 1 ≤ 10000000; decide), ?_⟩
    rw [w_addT (by show 2 + 1 ≤ 10000000; decide)]
    exact ⟨_, rfl, Ap.refl _, Nat.le_refl _, fun S2 a i => rfl⟩
  · intro x hx S3 a3
    simp only [w_seq, w_asg, w_ret, w_retN, w_drop, w_brk, w_cnt, w_nil, w_sif, w_c, w_ev, w_bin, w_un, w_anil, w_acons, w_tup, w_lst, w_call, w_tB, w_tNot, w_tAnd, w_tOr, w_eIf, w_isN, w_notN, w_gnm, w_gnils, w_gcns, w_gtp2, w_gtp3, w_ixT0, w_ixT1, w_ixT2, w_ch, w_chL, w_chK, w_par2, w_par3, w_add, w_sub, w_neg, w_lt, w_le, w_gt, w_ge, w_abs, w_int, w_intb, w_max2, w_min2, w_pno, w_ppart, w_sl, w_bm, w_yes, w_eqI, w_neI, w_eqB, w_neB, QS_nx, QS_rt, QS_bk, QS_ct, QF_nx, QF_rt, QL_nx, QL_ct, QL_bk, QL_rt, wipeE, List.set_cons_succ, List.set_cons_zero, List.getElem?_cons_succ, List.getElem?_cons_zero, D.bl.injEq, D.int.injEq, exists_eq_left', exists_eq_left, w_eAnd, w_tTru, tru_bl, if_true, if_false, Bool.false_eq_true, decide_eq_true_eq]
    by_cases h1 : o.1 ≤ x
    · by_cases h2 : x ≤ o.2
      · simp only [h1, h2, if_true, decide_true, and_self]
        refine ⟨trivial, Ap.refl _, fun _ => ?_⟩
        refine w_iseqL ?_
        simp only [w_seq, w_asg, w_ret, w_retN, w_drop, w_brk, w_cnt, w_nil, w_sif, w_c, w_ev, w_bin, w_un, w_anil, w_acons, w_tup, w_lst, w_call, w_tB, w_tNot, w_tAnd, w_tOr, w_eIf, w_isN, w_notN, w_gnm, w_gnils, w_gcns, w_gtp2, w_gtp3, w_ixT0, w_ixT1, w_ixT2, w_ch, w_chL, w_chK, w_par2, w_par3, w_add, w_sub, w_neg, w_lt, w_le, w_gt, w_ge, w_abs, w_int, w_intb, w_max2, w_min2, w_pno, w_ppart, w_sl, w_bm, w_yes, w_eqI, w_neI, w_eqB, w_neB, QS_nx, QS_rt, QS_bk, QS_ct, QF_nx, QF_rt, QL_nx, QL_ct, QL_bk, QL_rt, wipeE, List.set_cons_succ, List.set_cons_zero, List.getElem?_cons_succ, List.getElem?_cons_zero, D.bl.injEq, D.int.injEq, exists_eq_left', exists_eq_left, w_eAnd, w_tTru, tru_bl, if_true, if_false, Bool.false_eq_true]
        have gl := getL_of (a3 _ _ g1)
        refine ⟨m1, _, rfl, gl, Ap.refl _, by simp [ItD.lst], fun S6 a6 => hit_lst (getL_of g1) _ S6 a6, fun y hy S6 a6 => ?_⟩
        obtain ⟨e1, e2, e3, e4⟩ := mem_ends.mp hy
        simp only [w_seq, w_asg, w_ret, w_retN, w_drop, w_brk, w_cnt, w_nil, w_sif, w_c, w_ev, w_bin, w_un, w_anil, w_acons, w_tup, w_lst, w_call, w_tB, w_tNot, w_tAnd, w_tOr, w_eIf, w_isN, w_notN, w_gnm, w_gnils, w_gcns, w_gtp2, w_gtp3, w_ixT0, w_ixT1, w_ixT2, w_ch, w_chL, w_chK, w_par2, w_par3, w_add, w_sub, w_neg, w_lt, w_le, w_gt, w_ge, w_abs, w_int, w_intb, w_max2, w_min2, w_pno, w_ppart, w_sl, w_bm, w_yes, w_eqI, w_neI, w_eqB, w_neB, QS_nx, QS_rt, QS_bk, QS_ct, QF_nx, QF_rt, QL_nx, QL_ct, QL_bk, QL_rt, wipeE, List.set_cons_succ, List.set_cons_zero, List.getElem?_cons_succ, List.getElem?_cons_zero, D.bl.injEq, D.int.injEq, exists_eq_left', exists_eq_left, w_eAnd, w_tTru, tru_bl, if_true, if_false, Bool.false_eq_true, divided_ok (bd_of ht e2 e3)]
        exact ⟨trivial, Ap.refl _, trivial, Ap.refl _⟩
      · simp [h1, h2, Ap.refl]
    · simp [h1, Ap.refl]
  simp only [w_seq, w_asg, w_ret, w_retN, w_drop, w_brk, w_cnt, w_nil, w_sif, w_c, w_ev, w_bin, w_un, w_anil, w_acons, w_tup, w_lst, w_call, w_tB, w_tNot, w_tAnd, w_tOr, w_eIf, w_isN, w_notN, w_gnm, w_gnils, w_gcns, w_gtp2, w_gtp3, w_ixT0, w_ixT1, w_ixT2, w_ch, w_chL, w_chK, w_par2, w_par3, w_add, w_sub, w_neg, w_lt, w_le, w_gt, w_ge, w_abs, w_int, w_intb, w_max2, w_min2, w_pno, w_ppart, w_sl, w_bm, w_yes, w_eqI, w_neI, w_eqB, w_neB, QS_nx, QS_rt, QS_bk, QS_ct, QF_nx, QF_rt, QL_nx, QL_ct, QL_bk, QL_rt, wipeE, List.set_cons_succ, List.set_cons_zero, List.getElem?_cons_succ, List.getElem?_cons_zero, D.bl.injEq, D.int.injEq, exists_eq_left', exists_eq_left, w_eAnd, w_tTru, tru_bl, if_true, if_false, Bool.false_eq_true, decide_eq_true_eq]
  -- corners.append(0)
  have fin : ∀ S3 : Sto, Ap S S3 → S3[m2]? = some (.lst ((dcor o t).map D.int)) → W (sSeq (sIf (tAnd (tB (eBin oEq (eBin oIx (eVar 0) (eC (.int 0))) (eUn oNeg (eC k_HALF)))) (tB (eCh (eBin oIx (eVar 1) (eC (.int 0))) (chK oLe (eUn oNeg (eC (.int 1))) (chL oLe (eBin oIx (eVar 1) (eC (.int 1)))))))) (sRet (eC k_ALL)) (sNil)) (sRet (eTup (aCons (eCall fMin (aCons (eVar 3) (aNil))) (aCons (eCall fMax (aCons (eVar 3) (aNil))) (aNil))))) [some (rD o), some (rD t), some (.ref m1), some (.ref m2), none, none, none] S3) (QF fun d S' => d = rD (dr .div o t) ∧ Ap S S') := by
    intro S3 a3 g3
    simp only [w_seq, w_asg, w_ret, w_retN, w_drop, w_brk, w_cnt, w_nil, w_sif, w_c, w_ev, w_bin, w_un, w_anil, w_acons, w_tup, w_lst, w_call, w_tB, w_tNot, w_tAnd, w_tOr, w_eIf, w_isN, w_notN, w_gnm, w_gnils, w_gcns, w_gtp2, w_gtp3, w_ixT0, w_ixT1, w_ixT2, w_ch, w_chL, w_chK, w_par2, w_par3, w_add, w_sub, w_neg, w_lt, w_le, w_gt, w_ge, w_abs, w_int, w_intb, w_max2, w_min2, w_pno, w_ppart, w_sl, w_bm, w_yes, w_eqI, w_neI, w_eqB, w_neB, QS_nx, QS_rt, QS_bk, QS_ct, QF_nx, QF_rt, QL_nx, QL_ct, QL_bk, QL_rt, wipeE, List.set_cons_succ, List.set_cons_zero, List.getElem?_cons_succ, List.getElem?_cons_zero, D.bl.injEq, D.int.injEq, exists_eq_left', exists_eq_left, w_eAnd, w_tTru, tru_bl, if_true, if_false, Bool.false_eq_true, decide_eq_true_eq]
    have dre : dr .div o t = if o.1 = -2147483648 ∧ t.1 ≤ -1 ∧ -1 ≤ t.2 then ALL else (FL.minL (dcor o t), FL.maxL (dcor o t)) := rfl
    have no : ¬ (o.1 = -2147483648 ∧ t.1 ≤ -1 ∧ -1 ≤ t.2) → W (fMin [.ref m2] S3) fun x S1 => W (fMax [.ref m2] S1) fun x_1 S1 => [x, x_1].length ≤ cap ∧ D.tup [x, x_1] = rD (dr .div o t) ∧ Ap S S1 := by
      intro hn
      have ne := (div_hull ho ht hn).1
      rw [w_min1 (getL_of g3) (intsD_map _) ne, w_max1 (getL_of g3) (intsD_map _) ne, dre, if_neg hn]
      exact ⟨(by show 2 ≤ 10000000; decide), rfl, a3⟩
    by_cases h1 : o.1 = -2147483648
    · rw [if_pos h1]
      by_cases h2 : t.1 ≤ -1
      · rw [if_pos h2]
        by_cases h3 : -1 ≤ t.2
        · rw [if_pos h3, dre, if_pos ⟨h1, h2, h3⟩]
          exact ⟨rfl, a3⟩
        · rw [if_neg h3]
          exact no fun z => h3 z.2.2
      · rw [if_neg h2]
        exact no fun z => h2 z.2.1
    · rw [if_neg h1]
      exact no fun z => h1 z.1
  simp only [w_seq, w_asg, w_ret, w_retN, w_drop, w_brk, w_cnt, w_nil, w_sif, w_c, w_ev, w_bin, w_un, w_anil, w_acons, w_tup, w_lst, w_call, w_tB, w_tNot, w_tAnd, w_tOr, w_eIf, w_isN, w_notN, w_gnm, w_gnils, w_gcns, w_gtp2, w_gtp3, w_ixT0, w_ixT1, w_ixT2, w_ch, w_chL, w_chK, w_par2, w_par3, w_add, w_sub, w_neg, w_lt, w_le, w_gt, w_ge, w_abs, w_int, w_intb, w_max2, w_min2, w_pno, w_ppart, w_sl, w_bm, w_yes, w_eqI, w_neI, w_eqB, w_neB, QS_nx, QS_rt, QS_bk, QS_ct, QF_nx, QF_rt, QL_nx, QL_ct, QL_bk, QL_rt, wipeE, List.set_cons_succ, List.set_cons_zero, List.getElem?_cons_succ, List.getElem?_cons_zero, D.bl.injEq, D.int.injEq, exists_eq_left', exists_eq_left, w_eAnd, w_tTru, tru_bl, if_true, if_false, Bool.false_eq_true, decide_eq_true_eq] at fin
  by_cases z : t.1 ≤ 0 ∧ 0 ≤ t.2
  · rw [if_pos z.1, if_pos z.2]
    refine ⟨tyL g2, ?_⟩
    have len : (dcor o t).length ≤ 100 := by
      unfold dcor
      rw [List.length_append, List.length_flatMap]
      have : ∀ l : List Int, l.length ≤ 3 → (l.map fun a => ((ends t).map fun b => divd a b).length).sum ≤ 12 := by
        intro l hl
        match l, hl with
        | [], _ => simp
        | [_], _ => simp; omega
        | [_, _], _ => simp; omega
        | [_, _, _], _ => simp; omega
      have h3 := this _ (List.length_filter_le (fun a => decide (o.1 ≤ a ∧ a ≤ o.2)) [o.1, o.2, 0])
      have h4 : (if t.1 ≤ 0 ∧ 0 ≤ t.2 then [(0 : Int)] else []).length ≤ 1 := by split <;> simp
      omega
    have ed : dcor o t = (([o.1, o.2, 0].filter fun a => decide (o.1 ≤ a ∧ a ≤ o.2)).flatMap fun a => (ends t).map (divd a)) ++ [0] := by
      unfold dcor
      rw [if_pos z]
    rw [w_app g2 (by
      rw [List.length_map]
      rw [ed, List.length_append] at len
      unfold cap
      omega)]
    refine fin _ ((a1.trans a2).set (by have := a1.len; omega)) ?_
    rw [set_at g2, ed, List.map_append]
    rfl
  · have ed : dcor o t = (([o.1, o.2, 0].filter fun a => decide (o.1 ≤ a ∧ a ≤ o.2)).flatMap fun a => (ends t).map (divd a)) := by
      unfold dcor
      rw [if_neg z, List.append_nil]
    have go := fin S2 (a1.trans a2) (by rw [g2, ed])
    by_cases z1 : t.1 ≤ 0
    · rw [if_pos z1, if_neg (fun q => z ⟨z1, q⟩)]
      exact go
    · rw [if_neg z1]
      exact go
end
end K58
/-! K58d: done_range, widened, a drawn range. -/
namespace K58
open PySem L2 FL M58
section
variable {S : Sto} {Q : D → Sto → Prop} {tp tm : Nat}
theorem done_range_ok (op : Op) {o t : Rg} (ho : ok o) (ht : ok t) : W (f_done_range [.str (nm op), rD o, rD t] S) fun d S' => d = rD (dr op o t) ∧ Ap S S' := by
  obtain ⟨o1, o2, o3⟩ := id ho
  obtain ⟨t1, t2, t3⟩ := id ht
  refine w_fn rfl ?_
  show W (b_done_range [some (.str (nm op)), some (rD o), some (rD t), none, none, none] S) _
  unfold b_done_range
  simp only [w_seq, w_asg, w_ret, w_retN, w_drop, w_brk, w_cnt, w_nil, w_sif, w_c, w_ev, w_bin, w_un, w_anil, w_acons, w_tup, w_lst, w_call, w_tB, w_tNot, w_tAnd, w_tOr, w_eIf, w_isN, w_notN, w_gnm, w_gnils, w_gcns, w_gtp2, w_gtp3, w_ixT0, w_ixT1, w_ixT2, w_ch, w_chL, w_chK, w_par2, w_par3, w_add, w_sub, w_neg, w_lt, w_le, w_gt, w_ge, w_abs, w_int, w_intb, w_max2, w_min2, w_pno, w_ppart, w_sl, w_bm, w_yes, w_eqI, w_neI, w_eqB, w_neB, QS_nx, QS_rt, QS_bk, QS_ct, QF_nx, QF_rt, QL_nx, QL_ct, QL_bk, QL_rt, wipeE, List.set_cons_succ, List.set_cons_zero, List.getElem?_cons_succ, List.getElem?_cons_zero, D.bl.injEq, D.int.injEq, exists_eq_left', exists_eq_left, w_eAnd, w_tTru, tru_bl, if_true, if_false, Bool.false_eq_true, w_n0, w_n1, w_n2, w_n3, w_n4, decide_eq_true_eq]
  cases op with
  | add =>
    simp only [idx, Nat.reduceBEq, w_seq, w_asg, w_ret, w_retN, w_drop, w_brk, w_cnt, w_nil, w_sif, w_c, w_ev, w_bin, w_un, w_anil, w_acons, w_tup, w_lst, w_call, w_tB, w_tNot, w_tAnd, w_tOr, w_eIf, w_isN, w_notN, w_gnm, w_gnils, w_gcns, w_gtp2, w_gtp3, w_ixT0, w_ixT1, w_ixT2, w_ch, w_chL, w_chK, w_par2, w_par3, w_add, w_sub, w_neg, w_lt, w_le, w_gt, w_ge, w_abs, w_int, w_intb, w_max2, w_min2, w_pno, w_ppart, w_sl, w_bm, w_yes, w_eqI, w_neI, w_eqB, w_neB, QS_nx, QS_rt, QS_bk, QS_ct, QF_nx, QF_rt, QL_nx, QL_ct, QL_bk, QL_rt, wipeE, List.set_cons_succ, List.set_cons_zero, List.getElem?_cons_succ, List.getElem?_cons_zero, D.bl.injEq, D.int.injEq, exists_eq_left', exists_eq_left, w_eAnd, w_tTru, tru_bl, if_true, if_false, Bool.false_eq_true, kept_ok]
    exact ⟨rfl, Ap.refl _⟩
  | sub =>
    simp only [idx, Nat.reduceBEq, w_seq, w_asg, w_ret, w_retN, w_drop, w_brk, w_cnt, w_nil, w_sif, w_c, w_ev, w_bin, w_un, w_anil, w_acons, w_tup, w_lst, w_call, w_tB, w_tNot, w_tAnd, w_tOr, w_eIf, w_isN, w_notN, w_gnm, w_gnils, w_gcns, w_gtp2, w_gtp3, w_ixT0, w_ixT1, w_ixT2, w_ch, w_chL, w_chK, w_par2, w_par3, w_add, w_sub, w_neg, w_lt, w_le, w_gt, w_ge, w_abs, w_int, w_intb, w_max2, w_min2, w_pno, w_ppart, w_sl, w_bm, w_yes, w_eqI, w_neI, w_eqB, w_neB, QS_nx, QS_rt, QS_bk, QS_ct, QF_nx, QF_rt, QL_nx, QL_ct, QL_bk, QL_rt, wipeE, List.set_cons_succ, List.set_cons_zero, List.getElem?_cons_succ, List.getElem?_cons_zero, D.bl.injEq, D.int.injEq, exists_eq_left', exists_eq_left, w_eAnd, w_tTru, tru_bl, if_true, if_false, Bool.false_eq_true, kept_ok]
    exact ⟨rfl, Ap.refl _⟩
  | mul =>
    simp only [idx, Nat.reduceBEq, w_seq, w_asg, w_ret, w_retN, w_drop, w_brk, w_cnt, w_nil, w_sif, w_c, w_ev, w_bin, w_un, w_anil, w_acons, w_tup, w_lst, w_call, w_tB, w_tNot, w_tAnd, w_tOr, w_eIf, w_isN, w_notN, w_gnm, w_gnils, w_gcns, w_gtp2, w_gtp3, w_ixT0, w_ixT1, w_ixT2, w_ch, w_chL, w_chK, w_par2, w_par3, w_add, w_sub, w_neg, w_lt, w_le, w_gt, w_ge, w_abs, w_int, w_intb, w_max2, w_min2, w_pno, w_ppart, w_sl, w_bm, w_yes, w_eqI, w_neI, w_eqB, w_neB, QS_nx, QS_rt, QS_bk, QS_ct, QF_nx, QF_rt, QL_nx, QL_ct, QL_bk, QL_rt, wipeE, List.set_cons_succ, List.set_cons_zero, List.getElem?_cons_succ, List.getElem?_cons_zero, D.bl.injEq, D.int.injEq, exists_eq_left', exists_eq_left, w_eAnd, w_tTru, tru_bl, if_true, if_false, Bool.false_eq_true, kept_ok]
    refine w_lc2i (ns := [o.1, o.2]) (ms := [t.1, t.2]) (fun _ => true) (fun a b => a * b) ?_ ?_ (by show 2 * 2 < 10000000; decide) fun m2 S2 a2 l2 g2 => ?_
    · refine w_iseqT ?_
      simp only [w_seq, w_asg, w_ret, w_retN, w_drop, w_brk, w_cnt, w_nil, w_sif, w_c, w_ev, w_bin, w_un, w_anil, w_acons, w_tup, w_lst, w_call, w_tB, w_tNot, w_tAnd, w_tOr, w_eIf, w_isN, w_notN, w_gnm, w_gnils, w_gcns, w_gtp2, w_gtp3, w_ixT0, w_ixT1, w_ixT2, w_ch, w_chL, w_chK, w_par2, w_par3, w_add, w_sub, w_neg, w_lt, w_le, w_gt, w_ge, w_abs, w_int, w_intb, w_max2, w_min2, w_pno, w_ppart, w_sl, w_bm, w_yes, w_eqI, w_neI, w_eqB, w_neB, QS_nx, QS_rt, QS_bk, QS_ct, QF_nx, QF_rt, QL_nx, QL_ct, QL_bk, QL_rt, wipeE, List.set_cons_succ, List.set_cons_zero, List.getElem?_cons_succ, List.getElem?_cons_zero, D.bl.injEq, D.int.injEq, exists_eq_left', exists_eq_left, w_eAnd, w_tTru, tru_bl, if_true, if_false, Bool.false_eq_true]
      exact ⟨_, rfl, Ap.refl _, Nat.le_refl _, fun S2 a i => rfl⟩
    · intro x hx S3 a3
      have bx : bd x := by
        simp only [List.mem_cons, List.not_mem_nil, or_false] at hx
        rcases hx with rfl | rfl
        · exact bd_of ho (Int.le_refl _) o2
        · exact bd_of ho o2 (Int.le_refl _)
      obtain ⟨x1, x2⟩ := bx
      simp only [w_seq, w_asg, w_ret, w_retN, w_drop, w_brk, w_cnt, w_nil, w_sif, w_c, w_ev, w_bin, w_un, w_anil, w_acons, w_tup, w_lst, w_call, w_tB, w_tNot, w_tAnd, w_tOr, w_eIf, w_isN, w_notN, w_gnm, w_gnils, w_gcns, w_gtp2, w_gtp3, w_ixT0, w_ixT1, w_ixT2, w_ch, w_chL, w_chK, w_par2, w_par3, w_add, w_sub, w_neg, w_lt, w_le, w_gt, w_ge, w_abs, w_int, w_intb, w_max2, w_min2, w_pno, w_ppart, w_sl, w_bm, w_yes, w_eqI, w_neI, w_eqB, w_neB, QS_nx, QS_rt, QS_bk, QS_ct, QF_nx, QF_rt, QL_nx, QL_ct, QL_bk, QL_rt, wipeE, List.set_cons_succ, List.set_cons_zero, List.getElem?_cons_succ, List.getElem?_cons_zero, D.bl.injEq, D.int.injEq, exists_eq_left', exists_eq_left, w_eAnd, w_tTru, tru_bl, if_true, if_false, Bool.false_eq_true]
      refine ⟨trivial, Ap.refl _, fun _ => ?_⟩
      refine w_iseqT ?_
      simp only [w_seq, w_asg, w_ret, w_retN, w_drop, w_brk, w_cnt, w_nil, w_sif, w_c, w_ev, w_bin, w_un, w_anil, w_acons, w_tup, w_lst, w_call, w_tB, w_tNot, w_tAnd, w_tOr, w_eIf, w_isN, w_notN, w_gnm, w_gnils, w_gcns, w_gtp2, w_gtp3, w_ixT0, w_ixT1, w_ixT2, w_ch, w_chL, w_chK, w_par2, w_par3, w_add, w_sub, w_neg, w_lt, w_le, w_gt, w_ge, w_abs, w_int, w_intb, w_max2, w_min2, w_pno, w_ppart, w_sl, w_bm, w_yes, w_eqI, w_neI, w_eqB, w_neB, QS_nx, QS_rt, QS_bk, QS_ct, QF_nx, QF_rt, QL_nx, QL_ct, QL_bk, QL_rt, wipeE, List.set_cons_succ, List.set_cons_zero, List.getElem?_cons_succ, List.getElem?_cons_zero, D.bl.injEq, D.int.injEq, exists_eq_left', exists_eq_left, w_eAnd, w_tTru, tru_bl, if_true, if_false, Bool.false_eq_true]
      refine ⟨_, rfl, Ap.refl _, Nat.le_refl _, fun S2 a i => rfl, fun y hy S6 a6 => ?_⟩
      simp only [w_seq, w_asg, w_ret, w_retN, w_drop, w_brk, w_cnt, w_nil, w_sif, w_c, w_ev, w_bin, w_un, w_anil, w_acons, w_tup, w_lst, w_call, w_tB, w_tNot, w_tAnd, w_tOr, w_eIf, w_isN, w_notN, w_gnm, w_gnils, w_gcns, w_gtp2, w_gtp3, w_ixT0, w_ixT1, w_ixT2, w_ch, w_chL, w_chK, w_par2, w_par3, w_add, w_sub, w_neg, w_lt, w_le, w_gt, w_ge, w_abs, w_int, w_intb, w_max2, w_min2, w_pno, w_ppart, w_sl, w_bm, w_yes, w_eqI, w_neI, w_eqB, w_neB, QS_nx, QS_rt, QS_bk, QS_ct, QF_nx, QF_rt, QL_nx, QL_ct, QL_bk, QL_rt, wipeE, List.set_cons_succ, List.set_cons_zero, List.getElem?_cons_succ, List.getElem?_cons_zero, D.bl.injEq, D.int.injEq, exists_eq_left', exists_eq_left, w_eAnd, w_tTru, tru_bl, if_true, if_false, Bool.false_eq_true, w_mul (show okMul x y = true from okMul_l (by omega) (by omega))]
      exact ⟨trivial, Ap.refl _, trivial, Ap.refl _⟩
    have g2 : S2[m2]? = some (.lst ((corners o t).map D.int)) := g2
    have ne : corners o t ≠ [] := by simp [corners]
    simp only [w_min1 (getL_of g2) (intsD_map _) ne, w_max1 (getL_of g2) (intsD_map _) ne, kept_ok]
    exact ⟨rfl, a2⟩
  | div =>
    simp only [idx, Nat.reduceBEq, w_seq, w_asg, w_ret, w_retN, w_drop, w_brk, w_cnt, w_nil, w_sif, w_c, w_ev, w_bin, w_un, w_anil, w_acons, w_tup, w_lst, w_call, w_tB, w_tNot, w_tAnd, w_tOr, w_eIf, w_isN, w_notN, w_gnm, w_gnils, w_gcns, w_gtp2, w_gtp3, w_ixT0, w_ixT1, w_ixT2, w_ch, w_chL, w_chK, w_par2, w_par3, w_add, w_sub, w_neg, w_lt, w_le, w_gt, w_ge, w_abs, w_int, w_intb, w_max2, w_min2, w_pno, w_ppart, w_sl, w_bm, w_yes, w_eqI, w_neI, w_eqB, w_neB, QS_nx, QS_rt, QS_bk, QS_ct, QF_nx, QF_rt, QL_nx, QL_ct, QL_bk, QL_rt, wipeE, List.set_cons_succ, List.set_cons_zero, List.getElem?_cons_succ, List.getElem?_cons_zero, D.bl.injEq, D.int.injEq, exists_eq_left', exists_eq_left, w_eAnd, w_tTru, tru_bl, if_true, if_false, Bool.false_eq_true]
    exact div_range_ok ho ht
  | less =>
    have e : dr .less o t = if o.2 < t.1 then (1, 1) else if o.1 ≥ t.2 then (0, 0) else (0, 1) := rfl
    simp only [idx, Nat.reduceBEq, w_seq, w_asg, w_ret, w_retN, w_drop, w_brk, w_cnt, w_nil, w_sif, w_c, w_ev, w_bin, w_un, w_anil, w_acons, w_tup, w_lst, w_call, w_tB, w_tNot, w_tAnd, w_tOr, w_eIf, w_isN, w_notN, w_gnm, w_gnils, w_gcns, w_gtp2, w_gtp3, w_ixT0, w_ixT1, w_ixT2, w_ch, w_chL, w_chK, w_par2, w_par3, w_add, w_sub, w_neg, w_lt, w_le, w_gt, w_ge, w_abs, w_int, w_intb, w_max2, w_min2, w_pno, w_ppart, w_sl, w_bm, w_yes, w_eqI, w_neI, w_eqB, w_neB, QS_nx, QS_rt, QS_bk, QS_ct, QF_nx, QF_rt, QL_nx, QL_ct, QL_bk, QL_rt, wipeE, List.set_cons_succ, List.set_cons_zero, List.getElem?_cons_succ, List.getElem?_cons_zero, D.bl.injEq, D.int.injEq, exists_eq_left', exists_eq_left, w_eAnd, w_tTru, tru_bl, if_true, if_false, Bool.false_eq_true]
    rw [e]
    by_cases h1 : o.2 < t.1
    · simp only [if_pos h1]
      exact ⟨(by show 2 ≤ 10000000; decide), trivial, Ap.refl _⟩
    · simp only [if_neg h1]
      by_cases h2 : t.2 ≤ o.1
      · simp only [ge_iff_le, if_pos h2]
        exact ⟨(by show 2 ≤ 10000000; decide), trivial, Ap.refl _⟩
      · simp only [ge_iff_le, if_neg h2]
        exact ⟨trivial, Ap.refl _⟩
  | same =>
    have e : dr .same o t = if o.1 = o.2 ∧ o.2 = t.1 ∧ t.1 = t.2 then (1, 1) else if o.2 < t.1 ∨ t.2 < o.1 then (0, 0) else (0, 1) := rfl
    simp only [idx, Nat.reduceBEq, w_seq, w_asg, w_ret, w_retN, w_drop, w_brk, w_cnt, w_nil, w_sif, w_c, w_ev, w_bin, w_un, w_anil, w_acons, w_tup, w_lst, w_call, w_tB, w_tNot, w_tAnd, w_tOr, w_eIf, w_isN, w_notN, w_gnm, w_gnils, w_gcns, w_gtp2, w_gtp3, w_ixT0, w_ixT1, w_ixT2, w_ch, w_chL, w_chK, w_par2, w_par3, w_add, w_sub, w_neg, w_lt, w_le, w_gt, w_ge, w_abs, w_int, w_intb, w_max2, w_min2, w_pno, w_ppart, w_sl, w_bm, w_yes, w_eqI, w_neI, w_eqB, w_neB, QS_nx, QS_rt, QS_bk, QS_ct, QF_nx, QF_rt, QL_nx, QL_ct, QL_bk, QL_rt, wipeE, List.set_cons_succ, List.set_cons_zero, List.getElem?_cons_succ, List.getElem?_cons_zero, D.bl.injEq, D.int.injEq, exists_eq_left', exists_eq_left, w_eAnd, w_tTru, tru_bl, if_true, if_false, Bool.false_eq_true]
    rw [e]
    have rest : ¬ (o.1 = o.2 ∧ o.2 = t.1 ∧ t.1 = t.2) → (if o.2 < t.1 then [D.int 0, D.int 0].length ≤ cap ∧ D.tup [D.int 0, D.int 0] = rD (if o.1 = o.2 ∧ o.2 = t.1 ∧ t.1 = t.2 then (1, 1) else if o.2 < t.1 ∨ t.2 < o.1 then (0, 0) else (0, 1)) ∧ Ap S S else if t.2 < o.1 then [D.int 0, D.int 0].length ≤ cap ∧ D.tup [D.int 0, D.int 0] = rD (if o.1 = o.2 ∧ o.2 = t.1 ∧ t.1 = t.2 then (1, 1) else if o.2 < t.1 ∨ t.2 < o.1 then (0, 0) else (0, 1)) ∧ Ap S S else k_BOTH = rD (if o.1 = o.2 ∧ o.2 = t.1 ∧ t.1 = t.2 then (1, 1) else if o.2 < t.1 ∨ t.2 < o.1 then (0, 0) else (0, 1)) ∧ Ap S S) := by
      intro hn
      rw [if_neg hn]
      by_cases q1 : o.2 < t.1
      · rw [if_pos q1, if_pos (.inl q1)]
        exact ⟨(by show 2 ≤ 10000000; decide), rfl, Ap.refl _⟩
      · rw [if_neg q1]
        by_cases q2 : t.2 < o.1
        · rw [if_pos q2, if_pos (.inr q2)]
          exact ⟨(by show 2 ≤ 10000000; decide), rfl, Ap.refl _⟩
        · rw [if_neg q2, if_neg (by omega)]
          exact ⟨rfl, Ap.refl _⟩
    by_cases h1 : o.1 = o.2
    · rw [if_pos h1]
      by_cases h2 : o.2 = t.1
      · rw [if_pos h2]
        by_cases h3 : t.1 = t.2
        · rw [if_pos h3, if_pos ⟨h1, h2, h3⟩]
          exact ⟨(by show 2 ≤ 10000000; decide), rfl, Ap.refl _⟩
        · rw [if_neg h3]
          exact rest fun z => h3 z.2.2
      · rw [if_neg h2]
        exact rest fun z => h2 z.2.1
    · rw [if_neg h1]
      exact rest fun z => h1 z.1
def wd (o t : Rg) (st : List Int) : Rg := (if t.1 ≥ o.1 then o.1 else maxL (st.filter (fun x => decide (x ≤ t.1)) ++ [-2147483648]), if t.2 ≤ o.2 then o.2 else minL (st.filter (fun x => decide (x ≥ t.2)) ++ [2147483647]))
theorem widened_ok {n : Nat} {o t : Rg} {st : List Int} (hn : getL S n = some (st.map D.int)) (hl : st.length ≤ 1000) : W (f_widened [rD o, rD t, .ref n] S) fun d S' => d = rD (wd o t st) ∧ Ap S S' := by
  refine w_fn rfl ?_
  show W (b_widened [some (rD o), some (rD t), some (.ref n), none, none, none] S) _
  unfold b_widened
  simp only [w_seq, w_asg, w_ret, w_retN, w_drop, w_brk, w_cnt, w_nil, w_sif, w_c, w_ev, w_bin, w_un, w_anil, w_acons, w_tup, w_lst, w_call, w_tB, w_tNot, w_tAnd, w_tOr, w_eIf, w_isN, w_notN, w_gnm, w_gnils, w_gcns, w_gtp2, w_gtp3, w_ixT0, w_ixT1, w_ixT2, w_ch, w_chL, w_chK, w_par2, w_par3, w_add, w_sub, w_neg, w_lt, w_le, w_gt, w_ge, w_abs, w_int, w_intb, w_max2, w_min2, w_pno, w_ppart, w_sl, w_bm, w_yes, w_eqI, w_neI, w_eqB, w_neB, QS_nx, QS_rt, QS_bk, QS_ct, QF_nx, QF_rt, QL_nx, QL_ct, QL_bk, QL_rt, wipeE, List.set_cons_succ, List.set_cons_zero, List.getElem?_cons_succ, List.getElem?_cons_zero, D.bl.injEq, D.int.injEq, exists_eq_left', exists_eq_left, w_eAnd, w_tTru, tru_bl, if_true, if_false, Bool.false_eq_true, ge_iff_le, decide_eq_true_eq]
  have high : ∀ (S1 : Sto) (lo : Int), Ap S S1 → lo = (wd o t st).1 → W (sSeq (sAsg (eIf (tB (eBin oLe (eBin oIx (eVar 1) (eC (.int 1))) (eBin oIx (eVar 0) (eC (.int 1))))) (eBin oIx (eVar 0) (eC (.int 1))) (eCall fMin (aCons (eBin oAdd (eLc (iSeq (eVar 2)) (gNm 5) (tB (eBin oGe (eVar 5) (eBin oIx (eVar 1) (eC (.int 1))))) (eVar 5) [5]) (eLst (aCons (eBin oSub (eC k_HALF) (eC (.int 1))) (aNil)))) (aNil)))) (gNm 4)) (sRet (eTup (aCons (eVar 3) (aCons (eVar 4) (aNil))))) [some (rD o), some (rD t), some (.ref n), some (.int lo), none, none] S1) (QF fun d S' => d = rD (wd o t st) ∧ Ap S S') := by
    intro S1 lo a1 elo
    subst elo
    simp only [w_seq, w_asg, w_ret, w_retN, w_drop, w_brk, w_cnt, w_nil, w_sif, w_c, w_ev, w_bin, w_un, w_anil, w_acons, w_tup, w_lst, w_call, w_tB, w_tNot, w_tAnd, w_tOr, w_eIf, w_isN, w_notN, w_gnm, w_gnils, w_gcns, w_gtp2, w_gtp3, w_ixT0, w_ixT1, w_ixT2, w_ch, w_chL, w_chK, w_par2, w_par3, w_add, w_sub, w_neg, w_lt, w_le, w_gt, w_ge, w_abs, w_int, w_intb, w_max2, w_min2, w_pno, w_ppart, w_sl, w_bm, w_yes, w_eqI, w_neI, w_eqB, w_neB, QS_nx, QS_rt, QS_bk, QS_ct, QF_nx, QF_rt, QL_nx, QL_ct, QL_bk, QL_rt, wipeE, List.set_cons_succ, List.set_cons_zero, List.getElem?_cons_succ, List.getElem?_cons_zero, D.bl.injEq, D.int.injEq, exists_eq_left', exists_eq_left, w_eAnd, w_tTru, tru_bl, if_true, if_false, Bool.false_eq_true, ge_iff_le, decide_eq_true_eq]
    have e2 : (wd o t st).2 = if t.2 ≤ o.2 then o.2 else minL (st.filter (fun x => decide (x ≥ t.2)) ++ [2147483647]) := rfl
    by_cases h1 : t.2 ≤ o.2
    · rw [if_pos h1] at e2 ⊢
      exact ⟨(by show 2 ≤ 10000000; decide), by rw [rD, e2], a1⟩
    · rw [if_neg h1] at e2 ⊢
      refine w_lci (ns := st) id (fun x => decide (x ≥ t.2)) ?_ ?_ (by simp [cap]; omega) fun m2 S2 a2 l2 g2 => ?_
      · refine w_iseqL ?_
        simp only [w_seq, w_asg, w_ret, w_retN, w_drop, w_brk, w_cnt, w_nil, w_sif, w_c, w_ev, w_bin, w_un, w_anil, w_acons, w_tup, w_lst, w_call, w_tB, w_tNot, w_tAnd, w_tOr, w_eIf, w_isN, w_notN, w_gnm, w_gnils, w_gcns, w_gtp2, w_gtp3, w_ixT0, w_ixT1, w_ixT2, w_ch, w_chL, w_chK, w_par2, w_par3, w_add, w_sub, w_neg, w_lt, w_le, w_gt, w_ge, w_abs, w_int, w_intb, w_max2, w_min2, w_pno, w_ppart, w_sl, w_bm, w_yes, w_eqI, w_neI, w_eqB, w_neB, QS_nx, QS_rt, QS_bk, QS_ct, QF_nx, QF_rt, QL_nx, QL_ct, QL_bk, QL_rt, wipeE, List.set_cons_succ, List.set_cons_zero, List.getElem?_cons_succ, List.getElem?_cons_zero, D.bl.injEq, D.int.injEq, exists_eq_left', exists_eq_left, w_eAnd, w_tTru, tru_bl, if_true, if_false, Bool.false_eq_true]
        exact ⟨n, _, rfl, getL_ap hn a1, Ap.refl _, by simp [ItD.lst], hit_lst (getL_ap hn a1) _⟩
      · intro x hx S3 a3
        simp only [w_seq, w_asg, w_ret, w_retN, w_drop, w_brk, w_cnt, w_nil, w_sif, w_c, w_ev, w_bin, w_un, w_anil, w_acons, w_tup, w_lst, w_call, w_tB, w_tNot, w_tAnd, w_tOr, w_eIf, w_isN, w_notN, w_gnm, w_gnils, w_gcns, w_gtp2, w_gtp3, w_ixT0, w_ixT1, w_ixT2, w_ch, w_chL, w_chK, w_par2, w_par3, w_add, w_sub, w_neg, w_lt, w_le, w_gt, w_ge, w_abs, w_int, w_intb, w_max2, w_min2, w_pno, w_ppart, w_sl, w_bm, w_yes, w_eqI, w_neI, w_eqB, w_neB, QS_nx, QS_rt, QS_bk, QS_ct, QF_nx, QF_rt, QL_nx, QL_ct, QL_bk, QL_rt, wipeE, List.set_cons_succ, List.set_cons_zero, List.getElem?_cons_succ, List.getElem?_cons_zero, D.bl.injEq, D.int.injEq, exists_eq_left', exists_eq_left, w_eAnd, w_tTru, tru_bl, if_true, if_false, Bool.false_eq_true, ge_iff_le]
        exact ⟨trivial, Ap.refl _, fun _ => ⟨rfl, Ap.refl _⟩⟩
      rw [List.map_id] at g2
      refine ⟨(by show 1 ≤ 10000000; decide), W_new fun m3 S3 e3 a3 g3 l3 => ?_⟩
      have fl := List.length_filter_le (fun x => decide (x ≥ t.2)) st
      rw [w_cat (a3 _ _ g2) g3 (by rw [List.length_map]; show _ + 1 ≤ 10000000; omega)]
      refine W_new fun m4 S4 e4 a4 g4 l4 => ?_
      have g4 : S4[m4]? = some (.lst ((st.filter (fun x => decide (x ≥ t.2)) ++ [2147483647]).map D.int)) := by rw [g4, List.map_append]; rfl
      rw [w_min1 (getL_of g4) (intsD_map _) (by simp)]
      exact ⟨(by show 2 ≤ 10000000; decide), by rw [rD, e2], a1.trans (a2.trans (a3.trans a4))⟩
  simp only [w_seq, w_asg, w_ret, w_retN, w_drop, w_brk, w_cnt, w_nil, w_sif, w_c, w_ev, w_bin, w_un, w_anil, w_acons, w_tup, w_lst, w_call, w_tB, w_tNot, w_tAnd, w_tOr, w_eIf, w_isN, w_notN, w_gnm, w_gnils, w_gcns, w_gtp2, w_gtp3, w_ixT0, w_ixT1, w_ixT2, w_ch, w_chL, w_chK, w_par2, w_par3, w_add, w_sub, w_neg, w_lt, w_le, w_gt, w_ge, w_abs, w_int, w_intb, w_max2, w_min2, w_pno, w_ppart, w_sl, w_bm, w_yes, w_eqI, w_neI, w_eqB, w_neB, QS_nx, QS_rt, QS_bk, QS_ct, QF_nx, QF_rt, QL_nx, QL_ct, QL_bk, QL_rt, wipeE, List.set_cons_succ, List.set_cons_zero, List.getElem?_cons_succ, List.getElem?_cons_zero, D.bl.injEq, D.int.injEq, exists_eq_left', exists_eq_left, w_eAnd, w_tTru, tru_bl, if_true, if_false, Bool.false_eq_true, ge_iff_le, decide_eq_true_eq] at high
  have e1 : (wd o t st).1 = if t.1 ≥ o.1 then o.1 else maxL (st.filter (fun x => decide (x ≤ t.1)) ++ [-2147483648]) := rfl
  by_cases h1 : o.1 ≤ t.1
  · rw [if_pos h1]
    rw [if_pos h1] at e1
    exact high S _ (Ap.refl _) e1.symm
  · rw [if_neg h1]
    rw [if_neg h1] at e1
    refine w_lci (ns := st) id (fun x => decide (x ≤ t.1)) ?_ ?_ (by simp [cap]; omega) fun m2 S2 a2 l2 g2 => ?_
    · refine w_iseqL ?_
      simp only [w_seq, w_asg, w_ret, w_retN, w_drop, w_brk, w_cnt, w_nil, w_sif, w_c, w_ev, w_bin, w_un, w_anil, w_acons, w_tup, w_lst, w_call, w_tB, w_tNot, w_tAnd, w_tOr, w_eIf, w_isN, w_notN, w_gnm, w_gnils, w_gcns, w_gtp2, w_gtp3, w_ixT0, w_ixT1, w_ixT2, w_ch, w_chL, w_chK, w_par2, w_par3, w_add, w_sub, w_neg, w_lt, w_le, w_gt, w_ge, w_abs, w_int, w_intb, w_max2, w_min2, w_pno, w_ppart, w_sl, w_bm, w_yes, w_eqI, w_neI, w_eqB, w_neB, QS_nx, QS_rt, QS_bk, QS_ct, QF_nx, QF_rt, QL_nx, QL_ct, QL_bk, QL_rt, wipeE, List.set_cons_succ, List.set_cons_zero, List.getElem?_cons_succ, List.getElem?_cons_zero, D.bl.injEq, D.int.injEq, exists_eq_left', exists_eq_left, w_eAnd, w_tTru, tru_bl, if_true, if_false, Bool.false_eq_true]
      exact ⟨n, _, rfl, hn, Ap.refl _, by simp [ItD.lst], hit_lst hn _⟩
    · intro x hx S3 a3
      simp only [w_seq, w_asg, w_ret, w_retN, w_drop, w_brk, w_cnt, w_nil, w_sif, w_c, w_ev, w_bin, w_un, w_anil, w_acons, w_tup, w_lst, w_call, w_tB, w_tNot, w_tAnd, w_tOr, w_eIf, w_isN, w_notN, w_gnm, w_gnils, w_gcns, w_gtp2, w_gtp3, w_ixT0, w_ixT1, w_ixT2, w_ch, w_chL, w_chK, w_par2, w_par3, w_add, w_sub, w_neg, w_lt, w_le, w_gt, w_ge, w_abs, w_int, w_intb, w_max2, w_min2, w_pno, w_ppart, w_sl, w_bm, w_yes, w_eqI, w_neI, w_eqB, w_neB, QS_nx, QS_rt, QS_bk, QS_ct, QF_nx, QF_rt, QL_nx, QL_ct, QL_bk, QL_rt, wipeE, List.set_cons_succ, List.set_cons_zero, List.getElem?_cons_succ, List.getElem?_cons_zero, D.bl.injEq, D.int.injEq, exists_eq_left', exists_eq_left, w_eAnd, w_tTru, tru_bl, if_true, if_false, Bool.false_eq_true]
      exact ⟨trivial, Ap.refl _, fun _ => ⟨rfl, Ap.refl _⟩⟩
    rw [List.map_id] at g2
    refine ⟨(by show 1 ≤ 10000000; decide), W_new fun m3 S3 e3 a3 g3 l3 => ?_⟩
    have fl := List.length_filter_le (fun x => decide (x ≤ t.1)) st
    rw [w_cat (a3 _ _ g2) g3 (by rw [List.length_map]; show _ + 1 ≤ 10000000; omega)]
    refine W_new fun m4 S4 e4 a4 g4 l4 => ?_
    have g4 : S4[m4]? = some (.lst ((st.filter (fun x => decide (x ≤ t.1)) ++ [-2147483648]).map D.int)) := by rw [g4, List.map_append]; rfl
    rw [w_max1 (getL_of g4) (intsD_map _) (by simp)]
    exact high S4 _ (a2.trans (a3.trans a4)) e1.symm
theorem W_take {k : Int} (hT : Tape S tp tm) (hk : 0 < k) (hk2 : k < 18446744073709551616) (h : ∀ (r : Int) (S' : Sto), 0 ≤ r → r < k → Kn tp S S' → Tape S' tp tm → S'.length = S.length → Q (.int r) S') : W (f__law_take [.ref tp, .int k] S) Q := by
  refine (take_ok hT hk hk2).mono ?_
  rintro d S' ⟨r, rfl, h1, h2, h3, h4, h5⟩
  exact h r S' h1 h2 h3 h4 h5
theorem drawn_range_ok (hT : Tape S tp tm) : W (f__law_drawn_range [.ref tp] S) fun d S' => (∃ r, d = rD r ∧ ok r ∧ r.2 ≤ r.1 + 8) ∧ Tape S' tp tm := by
  refine w_fn rfl ?_
  show W (b__law_drawn_range [some (.ref tp), none] S) _
  unfold b__law_drawn_range
  simp only [w_seq, w_asg, w_ret, w_retN, w_drop, w_brk, w_cnt, w_nil, w_sif, w_c, w_ev, w_bin, w_un, w_anil, w_acons, w_tup, w_lst, w_call, w_tB, w_tNot, w_tAnd, w_tOr, w_eIf, w_isN, w_notN, w_gnm, w_gnils, w_gcns, w_gtp2, w_gtp3, w_ixT0, w_ixT1, w_ixT2, w_ch, w_chL, w_chK, w_par2, w_par3, w_add, w_sub, w_neg, w_lt, w_le, w_gt, w_ge, w_abs, w_int, w_intb, w_max2, w_min2, w_pno, w_ppart, w_sl, w_bm, w_yes, w_eqI, w_neI, w_eqB, w_neB, QS_nx, QS_rt, QS_bk, QS_ct, QF_nx, QF_rt, QL_nx, QL_ct, QL_bk, QL_rt, wipeE, List.set_cons_succ, List.set_cons_zero, List.getElem?_cons_succ, List.getElem?_cons_zero, D.bl.injEq, D.int.injEq, exists_eq_left', exists_eq_left, w_eAnd, w_tTru, tru_bl, if_true, if_false, Bool.false_eq_true]
  refine W_take hT (by decide) (by decide) fun x1 S1 p1 q1 k1 T1 l1 => ?_
  simp only [w_seq, w_asg, w_ret, w_retN, w_drop, w_brk, w_cnt, w_nil, w_sif, w_c, w_ev, w_bin, w_un, w_anil, w_acons, w_tup, w_lst, w_call, w_tB, w_tNot, w_tAnd, w_tOr, w_eIf, w_isN, w_notN, w_gnm, w_gnils, w_gcns, w_gtp2, w_gtp3, w_ixT0, w_ixT1, w_ixT2, w_ch, w_chL, w_chK, w_par2, w_par3, w_add, w_sub, w_neg, w_lt, w_le, w_gt, w_ge, w_abs, w_int, w_intb, w_max2, w_min2, w_pno, w_ppart, w_sl, w_bm, w_yes, w_eqI, w_neI, w_eqB, w_neB, QS_nx, QS_rt, QS_bk, QS_ct, QF_nx, QF_rt, QL_nx, QL_ct, QL_bk, QL_rt, wipeE, List.set_cons_succ, List.set_cons_zero, List.getElem?_cons_succ, List.getElem?_cons_zero, D.bl.injEq, D.int.injEq, exists_eq_left', exists_eq_left, w_eAnd, w_tTru, tru_bl, if_true, if_false, Bool.false_eq_true]
  refine W_take T1 (by decide) (by decide) fun x2 S2 p2 q2 k2 T2 l2 => ?_
  simp only [w_seq, w_asg, w_ret, w_retN, w_drop, w_brk, w_cnt, w_nil, w_sif, w_c, w_ev, w_bin, w_un, w_anil, w_acons, w_tup, w_lst, w_call, w_tB, w_tNot, w_tAnd, w_tOr, w_eIf, w_isN, w_notN, w_gnm, w_gnils, w_gcns, w_gtp2, w_gtp3, w_ixT0, w_ixT1, w_ixT2, w_ch, w_chL, w_chK, w_par2, w_par3, w_add, w_sub, w_neg, w_lt, w_le, w_gt, w_ge, w_abs, w_int, w_intb, w_max2, w_min2, w_pno, w_ppart, w_sl, w_bm, w_yes, w_eqI, w_neI, w_eqB, w_neB, QS_nx, QS_rt, QS_bk, QS_ct, QF_nx, QF_rt, QL_nx, QL_ct, QL_bk, QL_rt, wipeE, List.set_cons_succ, List.set_cons_zero, List.getElem?_cons_succ, List.getElem?_cons_zero, D.bl.injEq, D.int.injEq, exists_eq_left', exists_eq_left, w_eAnd, w_tTru, tru_bl, if_true, if_false, Bool.false_eq_true]
  refine W_take T2 (by decide) (by decide) fun x3 S3 p3 q3 k3 T3 l3 => ?_
  simp only [w_seq, w_asg, w_ret, w_retN, w_drop, w_brk, w_cnt, w_nil, w_sif, w_c, w_ev, w_bin, w_un, w_anil, w_acons, w_tup, w_lst, w_call, w_tB, w_tNot, w_tAnd, w_tOr, w_eIf, w_isN, w_notN, w_gnm, w_gnils, w_gcns, w_gtp2, w_gtp3, w_ixT0, w_ixT1, w_ixT2, w_ch, w_chL, w_chK, w_par2, w_par3, w_add, w_sub, w_neg, w_lt, w_le, w_gt, w_ge, w_abs, w_int, w_intb, w_max2, w_min2, w_pno, w_ppart, w_sl, w_bm, w_yes, w_eqI, w_neI, w_eqB, w_neB, QS_nx, QS_rt, QS_bk, QS_ct, QF_nx, QF_rt, QL_nx, QL_ct, QL_bk, QL_rt, wipeE, List.set_cons_succ, List.set_cons_zero, List.getElem?_cons_succ, List.getElem?_cons_zero, D.bl.injEq, D.int.injEq, exists_eq_left', exists_eq_left, w_eAnd, w_tTru, tru_bl, if_true, if_false, Bool.false_eq_true]
  refine W_take T3 (by decide) (by decide) fun x4 S4 p4 q4 k4 T4 l4 => ?_
  simp only [w_seq, w_asg, w_ret, w_retN, w_drop, w_brk, w_cnt, w_nil, w_sif, w_c, w_ev, w_bin, w_un, w_anil, w_acons, w_tup, w_lst, w_call, w_tB, w_tNot, w_tAnd, w_tOr, w_eIf, w_isN, w_notN, w_gnm, w_gnils, w_gcns, w_gtp2, w_gtp3, w_ixT0, w_ixT1, w_ixT2, w_ch, w_chL, w_chK, w_par2, w_par3, w_add, w_sub, w_neg, w_lt, w_le, w_gt, w_ge, w_abs, w_int, w_intb, w_max2, w_min2, w_pno, w_ppart, w_sl, w_bm, w_yes, w_eqI, w_neI, w_eqB, w_neB, QS_nx, QS_rt, QS_bk, QS_ct, QF_nx, QF_rt, QL_nx, QL_ct, QL_bk, QL_rt, wipeE, List.set_cons_succ, List.set_cons_zero, List.getElem?_cons_succ, List.getElem?_cons_zero, D.bl.injEq, D.int.injEq, exists_eq_left', exists_eq_left, w_eAnd, w_tTru, tru_bl, if_true, if_false, Bool.false_eq_true]
  refine W_take T4 (by decide) (by decide) fun x5 S5 p5 q5 k5 T5 l5 => ?_
  simp only [w_seq, w_asg, w_ret, w_retN, w_drop, w_brk, w_cnt, w_nil, w_sif, w_c, w_ev, w_bin, w_un, w_anil, w_acons, w_tup, w_lst, w_call, w_tB, w_tNot, w_tAnd, w_tOr, w_eIf, w_isN, w_notN, w_gnm, w_gnils, w_gcns, w_gtp2, w_gtp3, w_ixT0, w_ixT1, w_ixT2, w_ch, w_chL, w_chK, w_par2, w_par3, w_add, w_sub, w_neg, w_lt, w_le, w_gt, w_ge, w_abs, w_int, w_intb, w_max2, w_min2, w_pno, w_ppart, w_sl, w_bm, w_yes, w_eqI, w_neI, w_eqB, w_neB, QS_nx, QS_rt, QS_bk, QS_ct, QF_nx, QF_rt, QL_nx, QL_ct, QL_bk, QL_rt, wipeE, List.set_cons_succ, List.set_cons_zero, List.getElem?_cons_succ, List.getElem?_cons_zero, D.bl.injEq, D.int.injEq, exists_eq_left', exists_eq_left, w_eAnd, w_tTru, tru_bl, if_true, if_false, Bool.false_eq_true]
  refine W_take T5 (by decide) (by decide) fun x6 S6 p6 q6 k6 T6 l6 => ?_
  simp only [w_seq, w_asg, w_ret, w_retN, w_drop, w_brk, w_cnt, w_nil, w_sif, w_c, w_ev, w_bin, w_un, w_anil, w_acons, w_tup, w_lst, w_call, w_tB, w_tNot, w_tAnd, w_tOr, w_eIf, w_isN, w_notN, w_gnm, w_gnils, w_gcns, w_gtp2, w_gtp3, w_ixT0, w_ixT1, w_ixT2, w_ch, w_chL, w_chK, w_par2, w_par3, w_add, w_sub, w_neg, w_lt, w_le, w_gt, w_ge, w_abs, w_int, w_intb, w_max2, w_min2, w_pno, w_ppart, w_sl, w_bm, w_yes, w_eqI, w_neI, w_eqB, w_neB, QS_nx, QS_rt, QS_bk, QS_ct, QF_nx, QF_rt, QL_nx, QL_ct, QL_bk, QL_rt, wipeE, List.set_cons_succ, List.set_cons_zero, List.getElem?_cons_succ, List.getElem?_cons_zero, D.bl.injEq, D.int.injEq, exists_eq_left', exists_eq_left, w_eAnd, w_tTru, tru_bl, if_true, if_false, Bool.false_eq_true]
  refine ⟨(by show 6 ≤ 10000000; decide), W_new fun m7 S7 _ a7 g7 l7 => ?_⟩
  refine W_take (T6.ap a7) (by decide) (by decide) fun x8 S8 p8 q8 k8 T8 l8 => ?_
  have g8 := k8 m7 _ (T6.ap a7 |>.ne g7) g7
  refine w_ixr (getL_of g8) p8 q8 fun d hd => ?_
  obtain ⟨b, rfl, b1, b2⟩ : ∃ b, d = .int b ∧ -2147483648 ≤ b ∧ b ≤ 2147483647 := by
    simp only [List.mem_cons, List.mem_singleton, List.not_mem_nil, or_false] at hd
    rcases hd with rfl | rfl | rfl | rfl | rfl | rfl <;> exact ⟨_, rfl, by omega, by omega⟩
  refine W_take T8 (by decide) (by decide) fun x9 S9 p9 q9 k9 T9 l9 => ?_
  simp only [w_seq, w_asg, w_ret, w_retN, w_drop, w_brk, w_cnt, w_nil, w_sif, w_c, w_ev, w_bin, w_un, w_anil, w_acons, w_tup, w_lst, w_call, w_tB, w_tNot, w_tAnd, w_tOr, w_eIf, w_isN, w_notN, w_gnm, w_gnils, w_gcns, w_gtp2, w_gtp3, w_ixT0, w_ixT1, w_ixT2, w_ch, w_chL, w_chK, w_par2, w_par3, w_add, w_sub, w_neg, w_lt, w_le, w_gt, w_ge, w_abs, w_int, w_intb, w_max2, w_min2, w_pno, w_ppart, w_sl, w_bm, w_yes, w_eqI, w_neI, w_eqB, w_neB, QS_nx, QS_rt, QS_bk, QS_ct, QF_nx, QF_rt, QL_nx, QL_ct, QL_bk, QL_rt, wipeE, List.set_cons_succ, List.set_cons_zero, List.getElem?_cons_succ, List.getElem?_cons_zero, D.bl.injEq, D.int.injEq, exists_eq_left', exists_eq_left, w_eAnd, w_tTru, tru_bl, if_true, if_false, Bool.false_eq_true]
  refine ⟨(by show 2 ≤ 10000000; decide), ⟨(b, if b + x9 < 2147483647 then b + x9 else 2147483647), rfl, ⟨b1, ?_, ?_⟩, ?_⟩, T9⟩
  · show b ≤ if b + x9 < 2147483647 then b + x9 else 2147483647
    split <;> omega
  · show (if b + x9 < 2147483647 then b + x9 else 2147483647) ≤ 2147483647
    split <;> omega
  · show (if b + x9 < 2147483647 then b + x9 else 2147483647) ≤ b + 8
    split <;> omega
end
end K58
/-! K58e: one name of the law. -/
namespace K58
open PySem L2 FL M58
section
variable {S : Sto} {tp tm : Nat}
def b_nest : FS := sFor (iRng2 (aCons (eBin oIx (eVar 3) (eC (.int 0))) (aCons (eBin oAdd (eBin oIx (eVar 3) (eC (.int 1))) (eC (.int 1))) (aNil)))) (gNm 8) (sFor (iRng2 (aCons (eBin oIx (eVar 4) (eC (.int 0))) (aCons (eBin oAdd (eBin oIx (eVar 4) (eC (.int 1))) (eC (.int 1))) (aNil)))) (gNm 9) (sSeq (sDrop (eBm "list" mAppend (eVar 6) (aCons (eCall f__law_exact (aCons (eVar 5) (aCons (eVar 8) (aCons (eVar 9) (aNil))))) (aNil)))) (sDrop (eBm "list" mAppend (eVar 7) (aCons (eCall f_done (aCons (eVar 5) (aCons (eVar 8) (aCons (eVar 9) (aNil))))) (aNil))))))
def b_name : FS := sSeq (sPar [6, 7] (aCons (eLst (aNil)) (aCons (eLst (aNil)) (aNil)))) (sSeq (sFor (iRng2 (aCons (eBin oIx (eVar 3) (eC (.int 0))) (aCons (eBin oAdd (eBin oIx (eVar 3) (eC (.int 1))) (eC (.int 1))) (aNil)))) (gNm 8) (sFor (iRng2 (aCons (eBin oIx (eVar 4) (eC (.int 0))) (aCons (eBin oAdd (eBin oIx (eVar 4) (eC (.int 1))) (eC (.int 1))) (aNil)))) (gNm 9) (sSeq (sDrop (eBm "list" mAppend (eVar 6) (aCons (eCall f__law_exact (aCons (eVar 5) (aCons (eVar 8) (aCons (eVar 9) (aNil))))) (aNil)))) (sDrop (eBm "list" mAppend (eVar 7) (aCons (eCall f_done (aCons (eVar 5) (aCons (eVar 8) (aCons (eVar 9) (aNil))))) (aNil))))))) (sSeq (sIf (tOr (tB (eBin oNe (eVar 7) (eLc (iSeq (eVar 6)) (gNm 16) (tYs) (eCall f__law_wrap (aCons (eVar 16) (aNil))) [16]))) (tAnd (tB (eBin oEq (eVar 5) (eC (.str "div")))) (tB (eBin oNe (eCall f_divided (aCons (eBin oIx (eVar 3) (eC (.int 0))) (aCons (eBin oIx (eVar 4) (eC (.int 1))) (aNil)))) (eCall f__law_wrap (aCons (eCall f__law_exact (aCons (eC (.str "div")) (aCons (eBin oIx (eVar 3) (eC (.int 0))) (aCons (eBin oIx (eVar 4) (eC (.int 1))) (aNil))))) (aNil))))))) (sRet (eC (.bl false))) (sNil)) (sSeq (sPar [10, 11] (aCons (eCall fMin (aCons (eVar 6) (aNil))) (aCons (eCall fMax (aCons (eVar 6) (aNil))) (aNil)))) (sSeq (sAsg (eIf (tAnd (tB (eBin oLe (eUn oNeg (eC (.int 2147483648))) (eVar 10))) (tB (eBin oLe (eVar 11) (eC (.int 2147483647))))) (eTup (aCons (eVar 10) (aCons (eVar 11) (aNil)))) (eTup (aCons (eUn oNeg (eC (.int 2147483648))) (aCons (eC (.int 2147483647)) (aNil))))) (gNm 12)) (sIf (tOr (tB (eBin oNe (eCall f_done_range (aCons (eVar 5) (aCons (eVar 3) (aCons (eVar 4) (aNil))))) (eVar 12))) (tAnd (tB (eBin oIn (eVar 5) (eTup (aCons (eC (.str "add")) (aCons (eC (.str "mul")) (aCons (eC (.str "same")) (aNil))))))) (tB (eBin oNe (eCall f_done_range (aCons (eVar 5) (aCons (eVar 4) (aCons (eVar 3) (aNil))))) (eVar 12))))) (sRet (eC (.bl false))) (sNil))))))
abbrev eR (tp : Nat) (y2 : Option D) (o t : Rg) (op : Op) (y6 y7 y8 y9 yA yB yC yD yE yF : Option D) : FL.Env := [some (.ref 0), some (.ref tp), y2, some (rD o), some (rD t), some (.str (nm op)), y6, y7, y8, y9, yA, yB, yC, yD, yE, yF, none, none, none]
def cnt (r : Rg) : Nat := (r.2 + 1 - r.1).toNat
theorem rg_len (r : Rg) : (rg r).length = cnt r := by simp [rg, cnt]
theorem rg_at (r : Rg) {k : Nat} (h : k < cnt r) : (rg r)[k]? = some (r.1 + (k : Int)) := by
  unfold cnt at h
  unfold rg
  rw [List.getElem?_map, List.getElem?_range h]
  rfl
def pre (op : Op) (o t : Rg) (k : Nat) : List Int := ((rg o).take k).flatMap fun a => (rg t).map fun b => ex op a b
theorem pre_all (op : Op) (o t : Rg) : pre op o t (cnt o) = made op o t := by
  unfold pre made
  rw [← rg_len, List.take_length]
theorem pre_succ (op : Op) (o t : Rg) {k : Nat} (h : k < cnt o) : pre op o t (k + 1) = pre op o t k ++ (rg t).map fun b => ex op (o.1 + (k : Int)) b := by
  unfold pre
  rw [List.take_add_one, rg_at o h, List.flatMap_append]
  simp
theorem pre_len (op : Op) (o t : Rg) : ∀ k, (pre op o t k).length ≤ k * cnt t := by
  intro k
  unfold pre
  rw [List.length_flatMap]
  have : ∀ l : List Int, (l.map fun a => ((rg t).map fun b => ex op a b).length).sum = l.length * cnt t := by
    intro l
    induction l with
    | nil => simp
    | cons x l ih =>
      rw [List.map_cons, List.sum_cons, ih, List.length_map, rg_len, List.length_cons, Nat.succ_mul, Nat.add_comm]
  rw [this]
  exact Nat.mul_le_mul_right _ (by rw [List.length_take]; omega)
theorem cnt_le {r : Rg} (h : ok r) (h8 : r.2 ≤ r.1 + 8) : cnt r ≤ 9 := by
  unfold cnt
  omega
theorem nest_ok (op : Op) {o t : Rg} (ho : ok o) (ht : ok t) (o8 : o.2 ≤ o.1 + 8) (t8 : t.2 ≤ t.1 + 8) {m1 m2 : Nat} {y2 y8 y9 yA yB yC yD yE yF : Option D} {Q : Out → Sto → Prop} {S0 : Sto} (a0 : Ap S0 S) (l1 : S0.length ≤ m1) (l2 : S0.length ≤ m2) (ne : m1 ≠ m2) (g1 : S[m1]? = some (.lst [])) (g2 : S[m2]? = some (.lst []))
    (hQ : ∀ (y8 y9 : Option D) (S' : Sto), Ap S0 S' → S'[m1]? = some (.lst ((made op o t).map D.int)) → S'[m2]? = some (.lst (((made op o t).map wr).map D.int)) → Q (.nx (eR tp y2 o t op (some (.ref m1)) (some (.ref m2)) y8 y9 yA yB yC yD yE yF)) S') :
    W (b_nest (eR tp y2 o t op (some (.ref m1)) (some (.ref m2)) y8 y9 yA yB yC yD yE yF) S) Q := by
  have co := cnt_le ho o8
  have ct := cnt_le ht t8
  obtain ⟨o1, o2, o3⟩ := id ho
  obtain ⟨t1, t2, t3⟩ := id ht
  unfold b_nest eR
  rw [w_for]
  refine w_rng2 ?_
  simp only [w_seq, w_asg, w_ret, w_retN, w_drop, w_brk, w_cnt, w_nil, w_sif, w_c, w_ev, w_bin, w_un, w_anil, w_acons, w_tup, w_lst, w_call, w_tB, w_tNot, w_tAnd, w_tOr, w_eIf, w_isN, w_notN, w_gnm, w_gnils, w_gcns, w_gtp2, w_gtp3, w_ixT0, w_ixT1, w_ixT2, w_ch, w_chL, w_chK, w_par2, w_par3, w_add, w_sub, w_neg, w_lt, w_le, w_gt, w_ge, w_abs, w_int, w_intb, w_max2, w_min2, w_pno, w_ppart, w_sl, w_bm, w_yes, w_eqI, w_neI, w_eqB, w_neB, QS_nx, QS_rt, QS_bk, QS_ct, QF_nx, QF_rt, QL_nx, QL_ct, QL_bk, QL_rt, wipeE, List.set_cons_succ, List.set_cons_zero, List.getElem?_cons_succ, List.getElem?_cons_zero, D.bl.injEq, D.int.injEq, exists_eq_left', exists_eq_left, w_eAnd, w_tTru, tru_bl, if_true, if_false, Bool.false_eq_true]
  refine ⟨_, _, rfl, by omega, by omega, by omega, by omega, ?_⟩
  show W (forI (.fix (rngD o.1 (cnt o))) _ _ _ 0 _ S) Q
  refine for_rng (lo := o.1) (n := cnt o) (fun k env S' => Ap S0 S' ∧ S'[m1]? = some (.lst ((pre op o t k).map D.int)) ∧ S'[m2]? = some (.lst (((pre op o t k).map wr).map D.int)) ∧ ∃ y8 y9, env = eR tp y2 o t op (some (.ref m1)) (some (.ref m2)) y8 y9 yA yB yC yD yE yF) ?_ ?_ ⟨a0, g1, g2, _, _, rfl⟩
  · rintro k env S1 hk ⟨a1, h1, h2, y8, y9, rfl⟩
    have hk2 : o.1 + (k : Int) ≤ o.2 := by unfold cnt at hk; omega
    unfold eR
    simp only [w_seq, w_asg, w_ret, w_retN, w_drop, w_brk, w_cnt, w_nil, w_sif, w_c, w_ev, w_bin, w_un, w_anil, w_acons, w_tup, w_lst, w_call, w_tB, w_tNot, w_tAnd, w_tOr, w_eIf, w_isN, w_notN, w_gnm, w_gnils, w_gcns, w_gtp2, w_gtp3, w_ixT0, w_ixT1, w_ixT2, w_ch, w_chL, w_chK, w_par2, w_par3, w_add, w_sub, w_neg, w_lt, w_le, w_gt, w_ge, w_abs, w_int, w_intb, w_max2, w_min2, w_pno, w_ppart, w_sl, w_bm, w_yes, w_eqI, w_neI, w_eqB, w_neB, QS_nx, QS_rt, QS_bk, QS_ct, QF_nx, QF_rt, QL_nx, QL_ct, QL_bk, QL_rt, wipeE, List.set_cons_succ, List.set_cons_zero, List.getElem?_cons_succ, List.getElem?_cons_zero, D.bl.injEq, D.int.injEq, exists_eq_left', exists_eq_left, w_eAnd, w_tTru, tru_bl, if_true, if_false, Bool.false_eq_true]
    rw [w_for]
    refine w_rng2 ?_
    simp only [w_seq, w_asg, w_ret, w_retN, w_drop, w_brk, w_cnt, w_nil, w_sif, w_c, w_ev, w_bin, w_un, w_anil, w_acons, w_tup, w_lst, w_call, w_tB, w_tNot, w_tAnd, w_tOr, w_eIf, w_isN, w_notN, w_gnm, w_gnils, w_gcns, w_gtp2, w_gtp3, w_ixT0, w_ixT1, w_ixT2, w_ch, w_chL, w_chK, w_par2, w_par3, w_add, w_sub, w_neg, w_lt, w_le, w_gt, w_ge, w_abs, w_int, w_intb, w_max2, w_min2, w_pno, w_ppart, w_sl, w_bm, w_yes, w_eqI, w_neI, w_eqB, w_neB, QS_nx, QS_rt, QS_bk, QS_ct, QF_nx, QF_rt, QL_nx, QL_ct, QL_bk, QL_rt, wipeE, List.set_cons_succ, List.set_cons_zero, List.getElem?_cons_succ, List.getElem?_cons_zero, D.bl.injEq, D.int.injEq, exists_eq_left', exists_eq_left, w_eAnd, w_tTru, tru_bl, if_true, if_false, Bool.false_eq_true]
    refine ⟨_, _, rfl, by omega, by omega, by omega, by omega, ?_⟩
    show W (forI (.fix (rngD t.1 (cnt t))) _ _ _ 0 _ S1) _
    refine for_rng (lo := t.1) (n := cnt t) (fun j env S' => Ap S0 S' ∧ S'[m1]? = some (.lst ((pre op o t k ++ ((rg t).take j).map fun b => ex op (o.1 + (k : Int)) b).map D.int)) ∧ S'[m2]? = some (.lst (((pre op o t k ++ ((rg t).take j).map fun b => ex op (o.1 + (k : Int)) b).map wr).map D.int)) ∧ ∃ y9, env = eR tp y2 o t op (some (.ref m1)) (some (.ref m2)) (some (.int (o.1 + (k : Int)))) y9 yA yB yC yD yE yF) ?_ ?_ ⟨a1, by simpa using h1, by simpa using h2, _, rfl⟩
    · rintro j env S2 hj ⟨a2, q1, q2, y9, rfl⟩
      have hj2 : t.1 + (j : Int) ≤ t.2 := by unfold cnt at hj; omega
      have ba : bd (o.1 + (k : Int)) := bd_of ho (by omega) hk2
      have bb : bd (t.1 + (j : Int)) := bd_of ht (by omega) hj2
      have len : (pre op o t k ++ ((rg t).take j).map fun b => ex op (o.1 + (k : Int)) b).length ≤ 100 := by
        rw [List.length_append, List.length_map, List.length_take]
        have := pre_len op o t k
        have : k * cnt t ≤ 8 * 9 := Nat.mul_le_mul (by omega) ct
        omega
      have nx : (pre op o t k ++ ((rg t).take (j + 1)).map fun b => ex op (o.1 + (k : Int)) b) = (pre op o t k ++ ((rg t).take j).map fun b => ex op (o.1 + (k : Int)) b) ++ [ex op (o.1 + (k : Int)) (t.1 + (j : Int))] := by
        rw [List.take_add_one, rg_at t hj, List.map_append, List.append_assoc]
        rfl
      unfold eR
      simp only [w_seq, w_asg, w_ret, w_retN, w_drop, w_brk, w_cnt, w_nil, w_sif, w_c, w_ev, w_bin, w_un, w_anil, w_acons, w_tup, w_lst, w_call, w_tB, w_tNot, w_tAnd, w_tOr, w_eIf, w_isN, w_notN, w_gnm, w_gnils, w_gcns, w_gtp2, w_gtp3, w_ixT0, w_ixT1, w_ixT2, w_ch, w_chL, w_chK, w_par2, w_par3, w_add, w_sub, w_neg, w_lt, w_le, w_gt, w_ge, w_abs, w_int, w_intb, w_max2, w_min2, w_pno, w_ppart, w_sl, w_bm, w_yes, w_eqI, w_neI, w_eqB, w_neB, QS_nx, QS_rt, QS_bk, QS_ct, QF_nx, QF_rt, QL_nx, QL_ct, QL_bk, QL_rt, wipeE, List.set_cons_succ, List.set_cons_zero, List.getElem?_cons_succ, List.getElem?_cons_zero, D.bl.injEq, D.int.injEq, exists_eq_left', exists_eq_left, w_eAnd, w_tTru, tru_bl, if_true, if_false, Bool.false_eq_true]
      refine ⟨tyL q1, ?_⟩
      refine (exact_ok op ba bb).mono ?_
      rintro d S3 ⟨rfl, a3⟩
      have q1 := a3 _ _ q1
      have q2 := a3 _ _ q2
      rw [w_app q1 (by rw [List.length_map]; unfold cap; omega)]
      have q2' : (S3.set m1 (.lst ((pre op o t k ++ ((rg t).take j).map fun b => ex op (o.1 + (k : Int)) b).map D.int ++ [D.int (ex op (o.1 + (k : Int)) (t.1 + (j : Int)))])))[m2]? = some (.lst (((pre op o t k ++ ((rg t).take j).map fun b => ex op (o.1 + (k : Int)) b).map wr).map D.int)) := by
        rw [List.getElem?_set_ne ne]
        exact q2
      refine ⟨tyL q2', ?_⟩
      rw [done_ok op ba bb, w_app q2' (by rw [List.length_map, List.length_map]; unfold cap; omega)]
      refine ⟨((a2.trans a3).set (by omega)).set (by omega), ?_, ?_, _, rfl⟩
      · rw [List.getElem?_set_ne ne.symm, set_at q1, nx]
        simp only [List.map_append, List.map_cons, List.map_nil]
      · rw [set_at q2', nx]
        simp only [List.map_append, List.map_cons, List.map_nil]
    · rintro env S2 ⟨a2, q1, q2, y9, rfl⟩
      rw [← rg_len, List.take_length] at q1 q2
      rw [QL_nx]
      exact ⟨a2, by rw [pre_succ op o t hk]; exact q1, by rw [pre_succ op o t hk]; exact q2, _, _, rfl⟩
  · rintro env S1 ⟨a1, h1, h2, y8, y9, rfl⟩
    rw [pre_all] at h1 h2
    exact hQ _ _ _ a1 h1 h2
def inn (op : Op) : Bool := idx op == 0 || idx op == 2 || idx op == 5
theorem w_inn (op : Op) {Q : D → Sto → Prop} : W (oIn (.str (nm op)) (.tup [.str "add", .str "mul", .str "same"]) S) Q ↔ Q (.bl (inn op)) S := by
  have e : oIn (.str (nm op)) (.tup [.str "add", .str "mul", .str "same"]) S = some (.bl (inn op), S) := by cases op <;> rfl
  rw [e, W_some]
theorem name_ok (op : Op) {o t : Rg} (ho : ok o) (ht : ok t) (o8 : o.2 ≤ o.1 + 8) (t8 : t.2 ≤ t.1 + 8) {y2 y6 y7 y8 y9 yA yB yC yD yE yF : Option D} {Q : Out → Sto → Prop}
    (hQ : ∀ (y6 y7 y8 y9 yA yB yC : Option D) (S' : Sto), Ap S S' → Q (.nx (eR tp y2 o t op y6 y7 y8 y9 yA yB yC yD yE yF)) S') :
    W (b_name (eR tp y2 o t op y6 y7 y8 y9 yA yB yC yD yE yF) S) Q := by
  obtain ⟨o1, o2, o3⟩ := id ho
  obtain ⟨t1, t2, t3⟩ := id ht
  have mn := made_ne op ho ht
  have ml : (made op o t).length ≤ 81 := by
    rw [← pre_all]
    have := pre_len op o t (cnt o)
    have : cnt o * cnt t ≤ 9 * 9 := Nat.mul_le_mul (cnt_le ho o8) (cnt_le ht t8)
    omega
  unfold b_name eR
  rw [w_seq, w_par2]
  simp only [w_acons, w_anil, w_lst]
  refine ⟨by decide, W_new fun m1 S1 e1 a1 g1 l1 => ⟨by decide, W_new fun m2 S2 e2 a2 g2 l2 => ?_⟩⟩
  simp only [QS_nx, List.set_cons_succ, List.set_cons_zero]
  rw [w_seq]
  refine nest_ok op ho ht o8 t8 (S0 := S) (a1.trans a2) (by omega) (by omega) (by omega) (a2 _ _ g1) g2 fun y8 y9 S3 a3 h1 h2 => ?_
  simp only [w_seq, w_asg, w_ret, w_retN, w_drop, w_brk, w_cnt, w_nil, w_sif, w_c, w_ev, w_bin, w_un, w_anil, w_acons, w_tup, w_lst, w_call, w_tB, w_tNot, w_tAnd, w_tOr, w_eIf, w_isN, w_notN, w_gnm, w_gnils, w_gcns, w_gtp2, w_gtp3, w_ixT0, w_ixT1, w_ixT2, w_ch, w_chL, w_chK, w_par2, w_par3, w_add, w_sub, w_neg, w_lt, w_le, w_gt, w_ge, w_abs, w_int, w_intb, w_max2, w_min2, w_pno, w_ppart, w_sl, w_bm, w_yes, w_eqI, w_neI, w_eqB, w_neB, QS_nx, QS_rt, QS_bk, QS_ct, QF_nx, QF_rt, QL_nx, QL_ct, QL_bk, QL_rt, wipeE, List.set_cons_succ, List.set_cons_zero, List.getElem?_cons_succ, List.getElem?_cons_zero, D.bl.injEq, D.int.injEq, exists_eq_left', exists_eq_left, w_eAnd, w_tTru, tru_bl, if_true, if_false, Bool.false_eq_true, w_n3]
  -- words != [wrap(n) for n in made]
  refine w_lci (ns := made op o t) wr (fun _ => true) ?_ ?_ (by unfold cap; omega) fun m4 S4 a4 l4 g4 => ?_
  · refine w_iseqL ?_
    simp only [w_seq, w_asg, w_ret, w_retN, w_drop, w_brk, w_cnt, w_nil, w_sif, w_c, w_ev, w_bin, w_un, w_anil, w_acons, w_tup, w_lst, w_call, w_tB, w_tNot, w_tAnd, w_tOr, w_eIf, w_isN, w_notN, w_gnm, w_gnils, w_gcns, w_gtp2, w_gtp3, w_ixT0, w_ixT1, w_ixT2, w_ch, w_chL, w_chK, w_par2, w_par3, w_add, w_sub, w_neg, w_lt, w_le, w_gt, w_ge, w_abs, w_int, w_intb, w_max2, w_min2, w_pno, w_ppart, w_sl, w_bm, w_yes, w_eqI, w_neI, w_eqB, w_neB, QS_nx, QS_rt, QS_bk, QS_ct, QF_nx, QF_rt, QL_nx, QL_ct, QL_bk, QL_rt, wipeE, List.set_cons_succ, List.set_cons_zero, List.getElem?_cons_succ, List.getElem?_cons_zero, D.bl.injEq, D.int.injEq, exists_eq_left', exists_eq_left, w_eAnd, w_tTru, tru_bl, if_true, if_false, Bool.false_eq_true]
    exact ⟨m1, _, rfl, getL_of h1, Ap.refl _, by simp [ItD.lst], hit_lst (getL_of h1) _⟩
  · intro x hx S5 a5
    simp only [w_seq, w_asg, w_ret, w_retN, w_drop, w_brk, w_cnt, w_nil, w_sif, w_c, w_ev, w_bin, w_un, w_anil, w_acons, w_tup, w_lst, w_call, w_tB, w_tNot, w_tAnd, w_tOr, w_eIf, w_isN, w_notN, w_gnm, w_gnils, w_gcns, w_gtp2, w_gtp3, w_ixT0, w_ixT1, w_ixT2, w_ch, w_chL, w_chK, w_par2, w_par3, w_add, w_sub, w_neg, w_lt, w_le, w_gt, w_ge, w_abs, w_int, w_intb, w_max2, w_min2, w_pno, w_ppart, w_sl, w_bm, w_yes, w_eqI, w_neI, w_eqB, w_neB, QS_nx, QS_rt, QS_bk, QS_ct, QF_nx, QF_rt, QL_nx, QL_ct, QL_bk, QL_rt, wipeE, List.set_cons_succ, List.set_cons_zero, List.getElem?_cons_succ, List.getElem?_cons_zero, D.bl.injEq, D.int.injEq, exists_eq_left', exists_eq_left, w_eAnd, w_tTru, tru_bl, if_true, if_false, Bool.false_eq_true, lwrap_ok]
    exact ⟨trivial, Ap.refl _, fun _ => ⟨trivial, Ap.refl _⟩⟩
  rw [filter_yes] at g4
  rw [w_neS (toPy_ints (getL_of (a4 _ _ h2))) (toPy_ints (getL_of g4)) (sh_ints _)]
  have h14 := a4 _ _ h1
  simp only [w_seq, w_asg, w_ret, w_retN, w_drop, w_brk, w_cnt, w_nil, w_sif, w_c, w_ev, w_bin, w_un, w_anil, w_acons, w_tup, w_lst, w_call, w_tB, w_tNot, w_tAnd, w_tOr, w_eIf, w_isN, w_notN, w_gnm, w_gnils, w_gcns, w_gtp2, w_gtp3, w_ixT0, w_ixT1, w_ixT2, w_ch, w_chL, w_chK, w_par2, w_par3, w_add, w_sub, w_neg, w_lt, w_le, w_gt, w_ge, w_abs, w_int, w_intb, w_max2, w_min2, w_pno, w_ppart, w_sl, w_bm, w_yes, w_eqI, w_neI, w_eqB, w_neB, QS_nx, QS_rt, QS_bk, QS_ct, QF_nx, QF_rt, QL_nx, QL_ct, QL_bk, QL_rt, wipeE, List.set_cons_succ, List.set_cons_zero, List.getElem?_cons_succ, List.getElem?_cons_zero, D.bl.injEq, D.int.injEq, exists_eq_left', exists_eq_left, w_eAnd, w_tTru, tru_bl, if_true, if_false, Bool.false_eq_true]
  -- the end: low, high, due, done_range
  have fin : ∀ S5 : Sto, Ap S S5 → S5[m1]? = some (.lst ((made op o t).map D.int)) → W ((sSeq (sPar [10, 11] (aCons (eCall fMin (aCons (eVar 6) (aNil))) (aCons (eCall fMax (aCons (eVar 6) (aNil))) (aNil)))) (sSeq (sAsg (eIf (tAnd (tB (eBin oLe (eUn oNeg (eC (.int 2147483648))) (eVar 10))) (tB (eBin oLe (eVar 11) (eC (.int 2147483647))))) (eTup (aCons (eVar 10) (aCons (eVar 11) (aNil)))) (eTup (aCons (eUn oNeg (eC (.int 2147483648))) (aCons (eC (.int 2147483647)) (aNil))))) (gNm 12)) (sIf (tOr (tB (eBin oNe (eCall f_done_range (aCons (eVar 5) (aCons (eVar 3) (aCons (eVar 4) (aNil))))) (eVar 12))) (tAnd (tB (eBin oIn (eVar 5) (eTup (aCons (eC (.str "add")) (aCons (eC (.str "mul")) (aCons (eC (.str "same")) (aNil))))))) (tB (eBin oNe (eCall f_done_range (aCons (eVar 5) (aCons (eVar 4) (aCons (eVar 3) (aNil))))) (eVar 12))))) (sRet (eC (.bl false))) (sNil)))) (eR tp y2 o t op (some (.ref m1)) (some (.ref m2)) y8 y9 yA yB yC yD yE yF) S5) Q := by
    intro S5 a5 h5
    unfold eR
    simp only [w_seq, w_asg, w_ret, w_retN, w_drop, w_brk, w_cnt, w_nil, w_sif, w_c, w_ev, w_bin, w_un, w_anil, w_acons, w_tup, w_lst, w_call, w_tB, w_tNot, w_tAnd, w_tOr, w_eIf, w_isN, w_notN, w_gnm, w_gnils, w_gcns, w_gtp2, w_gtp3, w_ixT0, w_ixT1, w_ixT2, w_ch, w_chL, w_chK, w_par2, w_par3, w_add, w_sub, w_neg, w_lt, w_le, w_gt, w_ge, w_abs, w_int, w_intb, w_max2, w_min2, w_pno, w_ppart, w_sl, w_bm, w_yes, w_eqI, w_neI, w_eqB, w_neB, QS_nx, QS_rt, QS_bk, QS_ct, QF_nx, QF_rt, QL_nx, QL_ct, QL_bk, QL_rt, wipeE, List.set_cons_succ, List.set_cons_zero, List.getElem?_cons_succ, List.getElem?_cons_zero, D.bl.injEq, D.int.injEq, exists_eq_left', exists_eq_left, w_eAnd, w_tTru, tru_bl, if_true, if_false, Bool.false_eq_true, w_min1 (getL_of h5) (intsD_map _) mn, w_max1 (getL_of h5) (intsD_map _) mn, decide_eq_true_eq]
    have due_eq : due op o t = if -2147483648 ≤ minL (made op o t) ∧ maxL (made op o t) < 2147483648 then (minL (made op o t), maxL (made op o t)) else ALL := rfl
    have last : ∀ L H : Int, (L, H) = due op o t → W (f_done_range [.str (nm op), rD o, rD t] S5) fun x S1 => W (oNe x (.tup [.int L, .int H]) S1) fun d S1 => ∃ b, d = .bl b ∧ if b = true then Q (.rt (.bl false)) S1 else [D.str "add", D.str "mul", D.str "same"].length ≤ cap ∧ W (oIn (.str (nm op)) (.tup [.str "add", .str "mul", .str "same"]) S1) fun d S1 => ∃ b, d = .bl b ∧ if b = true then W (f_done_range [.str (nm op), rD t, rD o] S1) fun x S1 => W (oNe x (.tup [.int L, .int H]) S1) fun d S1 => ∃ b, d = .bl b ∧ if b = true then Q (.rt (.bl false)) S1 else Q (.nx (eR tp y2 o t op (some (.ref m1)) (some (.ref m2)) y8 y9 (some (.int (minL (made op o t)))) (some (.int (maxL (made op o t)))) (some (.tup [.int L, .int H])) yD yE yF)) S1 else Q (.nx (eR tp y2 o t op (some (.ref m1)) (some (.ref m2)) y8 y9 (some (.int (minL (made op o t)))) (some (.int (maxL (made op o t)))) (some (.tup [.int L, .int H])) yD yE yF)) S1 := by
      intro L H e
      refine (done_range_ok op ho ht).mono ?_
      rintro d S6 ⟨rfl, a6⟩
      rw [dr_due op ho ht, ← e, w_neT]
      refine ⟨_, rfl, ?_⟩
      rw [if_neg Bool.false_ne_true, w_inn]
      refine ⟨(by show 3 ≤ 10000000; decide), _, rfl, ?_⟩
      cases hin : inn op with
      | false =>
        rw [if_neg Bool.false_ne_true]
        exact hQ _ _ _ _ _ _ _ _ (a5.trans a6)
      | true =>
        rw [if_pos rfl]
        have hs : op = .add ∨ op = .mul ∨ op = .same := by
          cases op <;> first | exact .inl rfl | exact .inr (.inl rfl) | exact .inr (.inr rfl) | cases hin
        refine (done_range_ok op ht ho).mono ?_
        rintro d S7 ⟨rfl, a7⟩
        rw [dr_swap hs ho ht, ← e, w_neT]
        refine ⟨_, rfl, ?_⟩
        rw [if_neg Bool.false_ne_true]
        exact hQ _ _ _ _ _ _ _ _ (a5.trans (a6.trans a7))
    by_cases c1 : -2147483648 ≤ minL (made op o t)
    · rw [if_pos c1]
      by_cases c2 : maxL (made op o t) ≤ 2147483647
      · rw [if_pos c2]
        refine ⟨(by show 2 ≤ 10000000; decide), ?_⟩
        have := last (minL (made op o t)) (maxL (made op o t)) (by rw [due_eq, if_pos ⟨c1, by omega⟩])
        exact this
      · rw [if_neg c2]
        refine ⟨(by show 2 ≤ 10000000; decide), ?_⟩
        have := last (-2147483648) 2147483647 (by rw [due_eq, if_neg (by omega)]; rfl)
        exact this
    · rw [if_neg c1]
      refine ⟨(by show 2 ≤ 10000000; decide), ?_⟩
      have := last (-2147483648) 2147483647 (by rw [due_eq, if_neg (by omega)]; rfl)
      exact this
  unfold eR at fin
  simp only [w_seq, w_asg, w_ret, w_retN, w_drop, w_brk, w_cnt, w_nil, w_sif, w_c, w_ev, w_bin, w_un, w_anil, w_acons, w_tup, w_lst, w_call, w_tB, w_tNot, w_tAnd, w_tOr, w_eIf, w_isN, w_notN, w_gnm, w_gnils, w_gcns, w_gtp2, w_gtp3, w_ixT0, w_ixT1, w_ixT2, w_ch, w_chL, w_chK, w_par2, w_par3, w_add, w_sub, w_neg, w_lt, w_le, w_gt, w_ge, w_abs, w_int, w_intb, w_max2, w_min2, w_pno, w_ppart, w_sl, w_bm, w_yes, w_eqI, w_neI, w_eqB, w_neB, QS_nx, QS_rt, QS_bk, QS_ct, QF_nx, QF_rt, QL_nx, QL_ct, QL_bk, QL_rt, wipeE, List.set_cons_succ, List.set_cons_zero, List.getElem?_cons_succ, List.getElem?_cons_zero, D.bl.injEq, D.int.injEq, exists_eq_left', exists_eq_left, w_eAnd, w_tTru, tru_bl, if_true, if_false, Bool.false_eq_true] at fin
  cases h3 : (idx op == 3) with
  | false =>
    simp only [Bool.false_eq_true, if_false]
    exact fin S4 (a3.trans a4) h14
  | true =>
    simp only [if_true]
    rw [divided_ok (bd_of ht t2 (Int.le_refl _))]
    refine (exact_ok .div (bd_of ho (Int.le_refl _) o2) (bd_of ht t2 (Int.le_refl _))).mono ?_
    rintro d S5 ⟨rfl, a5⟩
    have e : divd o.1 t.2 = wr (ex .div o.1 t.2) := divd_qd
    rw [lwrap_ok, e]
    simp only [w_seq, w_asg, w_ret, w_retN, w_drop, w_brk, w_cnt, w_nil, w_sif, w_c, w_ev, w_bin, w_un, w_anil, w_acons, w_tup, w_lst, w_call, w_tB, w_tNot, w_tAnd, w_tOr, w_eIf, w_isN, w_notN, w_gnm, w_gnils, w_gcns, w_gtp2, w_gtp3, w_ixT0, w_ixT1, w_ixT2, w_ch, w_chL, w_chK, w_par2, w_par3, w_add, w_sub, w_neg, w_lt, w_le, w_gt, w_ge, w_abs, w_int, w_intb, w_max2, w_min2, w_pno, w_ppart, w_sl, w_bm, w_yes, w_eqI, w_neI, w_eqB, w_neB, QS_nx, QS_rt, QS_bk, QS_ct, QF_nx, QF_rt, QL_nx, QL_ct, QL_bk, QL_rt, wipeE, List.set_cons_succ, List.set_cons_zero, List.getElem?_cons_succ, List.getElem?_cons_zero, D.bl.injEq, D.int.injEq, exists_eq_left', exists_eq_left, w_eAnd, w_tTru, tru_bl, if_true, if_false, Bool.false_eq_true, decide_true, Bool.not_true]
    exact fin S5 (a3.trans (a4.trans a5)) (a5 _ _ h14)
end
end K58
/-! K58f: the rest of a turn, the law. -/
namespace K58
open PySem L2 FL M58
def b_end : FS := (sSeq (sIf (tOr (tB (eBin oNe (eCall f_widened (aCons (eVar 3) (aCons (eVar 4) (aCons (eCall fList (aCons (eVar 14) (aNil))) (aNil))))) (eTup (aCons (eVar 10) (aCons (eVar 11) (aNil)))))) (tOr (tNot (tTru (eCall f_is_within (aCons (eVar 13) (aCons (eTup (aCons (eVar 10) (aCons (eVar 11) (aNil)))) (aNil)))))) (tB (eBin oNe (eCall f_widened (aCons (eTup (aCons (eVar 10) (aCons (eVar 11) (aNil)))) (aCons (eVar 4) (aCons (eCall fList (aCons (eVar 14) (aNil))) (aNil))))) (eTup (aCons (eVar 10) (aCons (eVar 11) (aNil)))))))) (sRet (eC (.bl false))) (sNil)) (sSeq (sAsg (eBin oAdd (eBin oMul (eBin oIx (eLst (aCons (eC (.int 2147483648)) (aCons (eUn oNeg (eC (.int 2147483649))) (aCons (eC (.int 4294967296)) (aCons (eBin oPow (eC (.int 10)) (eC (.int 18))) (aNil)))))) (eCall f__law_take (aCons (eVar 1) (aCons (eC (.int 4)) (aNil))))) (eBin oAdd (eC (.int 1)) (eCall f__law_take (aCons (eVar 1) (aCons (eC (.int 5)) (aNil)))))) (eCall f__law_take (aCons (eVar 1) (aCons (eC (.int 9)) (aNil))))) (gNm 15)) (sIf (tOr (tB (eBin oNe (eCall f_wrapped (aCons (eVar 15) (aNil))) (eCall f__law_wrap (aCons (eVar 15) (aNil))))) (tB (eBin oNe (eCall f_wrapped (aCons (eBin oIx (eVar 3) (eC (.int 0))) (aNil))) (eBin oIx (eVar 3) (eC (.int 0)))))) (sRet (eC (.bl false))) (sNil))))
def b_high : FS := sSeq (sAsg (eIf (tB (eBin oLe (eBin oIx (eVar 4) (eC (.int 1))) (eBin oIx (eVar 3) (eC (.int 1))))) (eBin oIx (eVar 3) (eC (.int 1))) (eCall fMin (aCons (eBin oAdd (eLc (iSeq (eVar 14)) (gNm 18) (tB (eBin oGe (eVar 18) (eBin oIx (eVar 4) (eC (.int 1))))) (eVar 18) [18]) (eLst (aCons (eC (.int 2147483647)) (aNil)))) (aNil)))) (gNm 11)) b_end
def b_low : FS := sSeq (sAsg (eIf (tB (eBin oGe (eBin oIx (eVar 4) (eC (.int 0))) (eBin oIx (eVar 3) (eC (.int 0))))) (eBin oIx (eVar 3) (eC (.int 0))) (eCall fMax (aCons (eBin oAdd (eLc (iSeq (eVar 14)) (gNm 18) (tB (eBin oLe (eVar 18) (eBin oIx (eVar 4) (eC (.int 0))))) (eVar 18) [18]) (eLst (aCons (eUn oNeg (eC (.int 2147483648))) (aNil)))) (aNil)))) (gNm 10)) b_high
def b_steps : FS := sSeq (sAsg (eSortSet (eBin oAdd (eLc (iRng1 (aCons (eCall f__law_take (aCons (eVar 1) (aCons (eC (.int 6)) (aNil)))) (aNil))) (gNm 17) (tYs) (eBin oSub (eCall f__law_take (aCons (eVar 1) (aCons (eC (.int 60)) (aNil)))) (eC (.int 30))) [17]) (eLst (aCons (eC (.int 0)) (aCons (eC (.int 1)) (aNil)))))) (gNm 14)) b_low
def b_rest : FS := sSeq (sAsg (eTup (aCons (eCall fMin (aCons (eBin oIx (eVar 3) (eC (.int 0))) (aCons (eBin oIx (eVar 4) (eC (.int 0))) (aNil)))) (aCons (eCall fMax (aCons (eBin oIx (eVar 3) (eC (.int 1))) (aCons (eBin oIx (eVar 4) (eC (.int 1))) (aNil)))) (aNil)))) (gNm 13)) (sSeq (sIf (tOr (tB (eBin oNe (eCall f_joined (aCons (eVar 3) (aCons (eVar 4) (aNil)))) (eVar 13))) (tOr (tB (eBin oNe (eCall f_joined (aCons (eVar 4) (aCons (eVar 3) (aNil)))) (eVar 13))) (tOr (tB (eBin oNe (eCall f_is_within (aCons (eVar 3) (aCons (eVar 4) (aNil)))) (eAnd (eBin oLe (eBin oIx (eVar 4) (eC (.int 0))) (eBin oIx (eVar 3) (eC (.int 0)))) (eBin oLe (eBin oIx (eVar 3) (eC (.int 1))) (eBin oIx (eVar 4) (eC (.int 1))))))) (tNot (tTru (eCall f_is_within (aCons (eVar 3) (aCons (eVar 13) (aNil))))))))) (sRet (eC (.bl false))) (sNil)) b_steps)
section
variable {S : Sto} {tp tm : Nat}
theorem insU_len (x : Int) : ∀ l : List Int, (insU x l).length ≤ l.length + 1
  | [] => by simp [insU]
  | y :: r => by
    unfold insU
    split
    · simp
    · split
      · simp
      · have := insU_len x r
        simp
        omega
theorem sortU_len : ∀ l : List Int, (sortU l).length ≤ l.length
  | [] => Nat.le_refl _
  | x :: l => by
    have h1 := insU_len x (sortU l)
    have h2 := sortU_len l
    show (insU x (sortU l)).length ≤ l.length + 1
    omega
theorem wd_in {o t : Rg} (ho : ok o) (ht : ok t) (st : List Int) : (wd o t st).1 ≤ o.1 ∧ (wd o t st).1 ≤ t.1 ∧ o.2 ≤ (wd o t st).2 ∧ t.2 ≤ (wd o t st).2 := by
  obtain ⟨o1, o2, o3⟩ := ho
  obtain ⟨t1, t2, t3⟩ := ht
  have a : (wd o t st).1 ≤ o.1 ∧ (wd o t st).1 ≤ t.1 := by
    unfold wd
    by_cases h : t.1 ≥ o.1
    · simp only [if_pos h]
      omega
    · simp only [if_neg h]
      have m := (maxL_mem (st.filter (fun x => decide (x ≤ t.1)) ++ [-2147483648]) (by simp)).1
      rcases List.mem_append.mp m with m | m
      · have := of_decide_eq_true (List.mem_filter.mp m).2
        omega
      · have := List.mem_singleton.mp m
        omega
  have b : o.2 ≤ (wd o t st).2 ∧ t.2 ≤ (wd o t st).2 := by
    unfold wd
    by_cases h : t.2 ≤ o.2
    · simp only [if_pos h]
      omega
    · simp only [if_neg h]
      have m := (minL_mem (st.filter (fun x => decide (x ≥ t.2)) ++ [2147483647]) (by simp)).1
      rcases List.mem_append.mp m with m | m
      · have := of_decide_eq_true (List.mem_filter.mp m).2
        omega
      · have := List.mem_singleton.mp m
        omega
  exact ⟨a.1, a.2, b.1, b.2⟩
theorem wd_idem {o t : Rg} (ho : ok o) (ht : ok t) (st : List Int) : wd (wd o t st) t st = wd o t st := by
  obtain ⟨h1, h2, h3, h4⟩ := wd_in ho ht st
  generalize wd o t st = w at *
  unfold wd
  rw [if_pos h2, if_pos h4]
abbrev bo (o t : Rg) : Rg := (if t.1 < o.1 then t.1 else o.1, if t.2 > o.2 then t.2 else o.2)
abbrev eT (tp : Nat) (o t : Rg) (y2 y5 y6 y7 y8 y9 yA yB yC yD yE yF : Option D) : FL.Env := [some (.ref 0), some (.ref tp), y2, some (rD o), some (rD t), y5, y6, y7, y8, y9, yA, yB, yC, yD, yE, yF, none, none, none]
theorem w_neT' {r : Rg} {Q : D → Sto → Prop} : W (oNe (rD r) (rD r) S) Q ↔ Q (.bl false) S := w_neT
theorem end_ok {o t : Rg} (ho : ok o) (ht : ok t) {st : List Int} {ns : Nat} {y2 y5 y6 y7 y8 y9 yC yF : Option D} {Q : Out → Sto → Prop} (hT : Tape S tp tm) (hs : S[ns]? = some (.lst (st.map D.int))) (hl : st.length ≤ 100)
    (hQ : ∀ (yF : Option D) (S' : Sto), Tape S' tp tm → Q (.nx (eT tp o t y2 y5 y6 y7 y8 y9 (some (.int (wd o t st).1)) (some (.int (wd o t st).2)) yC (some (rD (bo o t))) (some (.ref ns)) yF)) S') :
    W (b_end (eT tp o t y2 y5 y6 y7 y8 y9 (some (.int (wd o t st).1)) (some (.int (wd o t st).2)) yC (some (rD (bo o t))) (some (.ref ns)) yF) S) Q := by
  obtain ⟨i1, i2, i3, i4⟩ := wd_in ho ht st
  unfold b_end eT
  simp only [w_seq, w_asg, w_ret, w_retN, w_drop, w_brk, w_cnt, w_nil, w_sif, w_c, w_ev, w_bin, w_un, w_anil, w_acons, w_tup, w_lst, w_call, w_tB, w_tNot, w_tAnd, w_tOr, w_eIf, w_isN, w_notN, w_gnm, w_gnils, w_gcns, w_gtp2, w_gtp3, w_ixT0, w_ixT1, w_ixT2, w_ch, w_chL, w_chK, w_par2, w_par3, w_add, w_sub, w_neg, w_lt, w_le, w_gt, w_ge, w_abs, w_int, w_intb, w_max2, w_min2, w_pno, w_ppart, w_sl, w_bm, w_yes, w_eqI, w_neI, w_eqB, w_neB, QS_nx, QS_rt, QS_bk, QS_ct, QF_nx, QF_rt, QL_nx, QL_ct, QL_bk, QL_rt, wipeE, List.set_cons_succ, List.set_cons_zero, List.getElem?_cons_succ, List.getElem?_cons_zero, D.bl.injEq, D.int.injEq, exists_eq_left', exists_eq_left, w_eAnd, w_tTru, tru_bl, if_true, if_false, Bool.false_eq_true]
  rw [w_list (getL_of hs)]
  refine W_new fun m1 S1 e1 a1 g1 l1 => ?_
  refine (widened_ok (o := o) (t := t) (getL_of g1) (by omega)).mono ?_
  rintro d S2 ⟨rfl, a2⟩
  refine ⟨(by show 2 ≤ 10000000; decide), ?_⟩
  rw [w_neT (i := (wd o t st).1) (j := (wd o t st).2)]
  simp only [w_seq, w_asg, w_ret, w_retN, w_drop, w_brk, w_cnt, w_nil, w_sif, w_c, w_ev, w_bin, w_un, w_anil, w_acons, w_tup, w_lst, w_call, w_tB, w_tNot, w_tAnd, w_tOr, w_eIf, w_isN, w_notN, w_gnm, w_gnils, w_gcns, w_gtp2, w_gtp3, w_ixT0, w_ixT1, w_ixT2, w_ch, w_chL, w_chK, w_par2, w_par3, w_add, w_sub, w_neg, w_lt, w_le, w_gt, w_ge, w_abs, w_int, w_intb, w_max2, w_min2, w_pno, w_ppart, w_sl, w_bm, w_yes, w_eqI, w_neI, w_eqB, w_neB, QS_nx, QS_rt, QS_bk, QS_ct, QF_nx, QF_rt, QL_nx, QL_ct, QL_bk, QL_rt, wipeE, List.set_cons_succ, List.set_cons_zero, List.getElem?_cons_succ, List.getElem?_cons_zero, D.bl.injEq, D.int.injEq, exists_eq_left', exists_eq_left, w_eAnd, w_tTru, tru_bl, if_true, if_false, Bool.false_eq_true]
  refine ⟨(by show 2 ≤ 10000000; decide), ?_⟩
  rw [within_ok (bo o t) ((wd o t st).1, (wd o t st).2)]
  have wi : (decide ((wd o t st).1 ≤ (bo o t).1) && decide ((bo o t).2 ≤ (wd o t st).2)) = true := by
    have x1 : (wd o t st).1 ≤ (bo o t).1 := by show _ ≤ if t.1 < o.1 then t.1 else o.1; split <;> omega
    have x2 : (bo o t).2 ≤ (wd o t st).2 := by show (if t.2 > o.2 then t.2 else o.2) ≤ _; split <;> omega
    simp [x1, x2]
  rw [wi]
  simp only [w_seq, w_asg, w_ret, w_retN, w_drop, w_brk, w_cnt, w_nil, w_sif, w_c, w_ev, w_bin, w_un, w_anil, w_acons, w_tup, w_lst, w_call, w_tB, w_tNot, w_tAnd, w_tOr, w_eIf, w_isN, w_notN, w_gnm, w_gnils, w_gcns, w_gtp2, w_gtp3, w_ixT0, w_ixT1, w_ixT2, w_ch, w_chL, w_chK, w_par2, w_par3, w_add, w_sub, w_neg, w_lt, w_le, w_gt, w_ge, w_abs, w_int, w_intb, w_max2, w_min2, w_pno, w_ppart, w_sl, w_bm, w_yes, w_eqI, w_neI, w_eqB, w_neB, QS_nx, QS_rt, QS_bk, QS_ct, QF_nx, QF_rt, QL_nx, QL_ct, QL_bk, QL_rt, wipeE, List.set_cons_succ, List.set_cons_zero, List.getElem?_cons_succ, List.getElem?_cons_zero, D.bl.injEq, D.int.injEq, exists_eq_left', exists_eq_left, w_eAnd, w_tTru, tru_bl, if_true, if_false, Bool.false_eq_true, Bool.not_true]
  refine ⟨(by show 2 ≤ 10000000; decide), ?_⟩
  rw [w_list (getL_of ((a1.trans a2) _ _ hs))]
  refine W_new fun m3 S3 e3 a3 g3 l3 => ?_
  refine (widened_ok (o := ((wd o t st).1, (wd o t st).2)) (t := t) (getL_of g3) (by omega)).mono ?_
  rintro d S4 ⟨rfl, a4⟩
  rw [show wd ((wd o t st).1, (wd o t st).2) t st = wd o t st from wd_idem ho ht st]
  refine ⟨(by show 2 ≤ 10000000; decide), ?_⟩
  rw [w_neT (i := (wd o t st).1) (j := (wd o t st).2)]
  have T4 := hT.ap (a1.trans (a2.trans (a3.trans a4)))
  simp only [w_seq, w_asg, w_ret, w_retN, w_drop, w_brk, w_cnt, w_nil, w_sif, w_c, w_ev, w_bin, w_un, w_anil, w_acons, w_tup, w_lst, w_call, w_tB, w_tNot, w_tAnd, w_tOr, w_eIf, w_isN, w_notN, w_gnm, w_gnils, w_gcns, w_gtp2, w_gtp3, w_ixT0, w_ixT1, w_ixT2, w_ch, w_chL, w_chK, w_par2, w_par3, w_add, w_sub, w_neg, w_lt, w_le, w_gt, w_ge, w_abs, w_int, w_intb, w_max2, w_min2, w_pno, w_ppart, w_sl, w_bm, w_yes, w_eqI, w_neI, w_eqB, w_neB, QS_nx, QS_rt, QS_bk, QS_ct, QF_nx, QF_rt, QL_nx, QL_ct, QL_bk, QL_rt, wipeE, List.set_cons_succ, List.set_cons_zero, List.getElem?_cons_succ, List.getElem?_cons_zero, D.bl.injEq, D.int.injEq, exists_eq_left', exists_eq_left, w_eAnd, w_tTru, tru_bl, if_true, if_false, Bool.false_eq_true, w_pow (show (decide ((0 : Int) ≤ 18) && decide ((18 : Int) ≤ 1000) && decide ((10 : Int).natAbs < 18446744073709551616)) = true by decide)]
  refine ⟨(by show 4 ≤ 10000000; decide), W_new fun m5 S5 e5 a5 g5 l5 => ?_⟩
  refine W_take (T4.ap a5) (by decide) (by decide) fun r6 S6 p6 q6 k6 T6 l6 => ?_
  have g6 := k6 m5 _ (T4.ap a5 |>.ne g5) g5
  refine w_ixr (getL_of g6) p6 q6 fun d hd => ?_
  obtain ⟨b, rfl⟩ : ∃ b, d = .int b := by
    simp only [List.mem_cons, List.mem_singleton, List.not_mem_nil, or_false] at hd
    rcases hd with rfl | rfl | rfl | rfl <;> exact ⟨_, rfl⟩
  refine W_take T6 (by decide) (by decide) fun r7 S7 p7 q7 k7 T7 l7 => ?_
  rw [w_add, w_mul (show okMul b (1 + r7) = true from okMul_r (by omega) (by omega))]
  refine W_take T7 (by decide) (by decide) fun r8 S8 p8 q8 k8 T8 l8 => ?_
  simp only [w_seq, w_asg, w_ret, w_retN, w_drop, w_brk, w_cnt, w_nil, w_sif, w_c, w_ev, w_bin, w_un, w_anil, w_acons, w_tup, w_lst, w_call, w_tB, w_tNot, w_tAnd, w_tOr, w_eIf, w_isN, w_notN, w_gnm, w_gnils, w_gcns, w_gtp2, w_gtp3, w_ixT0, w_ixT1, w_ixT2, w_ch, w_chL, w_chK, w_par2, w_par3, w_add, w_sub, w_neg, w_lt, w_le, w_gt, w_ge, w_abs, w_int, w_intb, w_max2, w_min2, w_pno, w_ppart, w_sl, w_bm, w_yes, w_eqI, w_neI, w_eqB, w_neB, QS_nx, QS_rt, QS_bk, QS_ct, QF_nx, QF_rt, QL_nx, QL_ct, QL_bk, QL_rt, wipeE, List.set_cons_succ, List.set_cons_zero, List.getElem?_cons_succ, List.getElem?_cons_zero, D.bl.injEq, D.int.injEq, exists_eq_left', exists_eq_left, w_eAnd, w_tTru, tru_bl, if_true, if_false, Bool.false_eq_true, wrapped_ok, lwrap_ok, wr_id ho.1 (by have := ho.2.1; have := ho.2.2; omega), decide_true, Bool.not_true]
  exact hQ _ _ T8
theorem high_ok {o t : Rg} (ho : ok o) (ht : ok t) {st : List Int} {ns : Nat} {y2 y5 y6 y7 y8 y9 yB yC yF : Option D} {Q : Out → Sto → Prop} (hT : Tape S tp tm) (hs : S[ns]? = some (.lst (st.map D.int))) (hl : st.length ≤ 100)
    (hQ : ∀ (yA yB yF : Option D) (S' : Sto), Tape S' tp tm → Q (.nx (eT tp o t y2 y5 y6 y7 y8 y9 yA yB yC (some (rD (bo o t))) (some (.ref ns)) yF)) S') :
    W (b_high (eT tp o t y2 y5 y6 y7 y8 y9 (some (.int (wd o t st).1)) yB yC (some (rD (bo o t))) (some (.ref ns)) yF) S) Q := by
  unfold b_high eT
  have go : ∀ S1, Ap S S1 → W (b_end (eT tp o t y2 y5 y6 y7 y8 y9 (some (.int (wd o t st).1)) (some (.int (wd o t st).2)) yC (some (rD (bo o t))) (some (.ref ns)) yF) S1) Q := fun S1 a => end_ok ho ht (hT.ap a) (a _ _ hs) hl fun yF S' T => hQ _ _ _ _ T
  simp only [w_seq, w_asg, w_ret, w_retN, w_drop, w_brk, w_cnt, w_nil, w_sif, w_c, w_ev, w_bin, w_un, w_anil, w_acons, w_tup, w_lst, w_call, w_tB, w_tNot, w_tAnd, w_tOr, w_eIf, w_isN, w_notN, w_gnm, w_gnils, w_gcns, w_gtp2, w_gtp3, w_ixT0, w_ixT1, w_ixT2, w_ch, w_chL, w_chK, w_par2, w_par3, w_add, w_sub, w_neg, w_lt, w_le, w_gt, w_ge, w_abs, w_int, w_intb, w_max2, w_min2, w_pno, w_ppart, w_sl, w_bm, w_yes, w_eqI, w_neI, w_eqB, w_neB, QS_nx, QS_rt, QS_bk, QS_ct, QF_nx, QF_rt, QL_nx, QL_ct, QL_bk, QL_rt, wipeE, List.set_cons_succ, List.set_cons_zero, List.getElem?_cons_succ, List.getElem?_cons_zero, D.bl.injEq, D.int.injEq, exists_eq_left', exists_eq_left, w_eAnd, w_tTru, tru_bl, if_true, if_false, Bool.false_eq_true, ge_iff_le, decide_eq_true_eq]
  have e2 : (wd o t st).2 = if t.2 ≤ o.2 then o.2 else minL (st.filter (fun x => decide (x ≥ t.2)) ++ [2147483647]) := rfl
  by_cases h1 : t.2 ≤ o.2
  · rw [if_pos h1] at e2 ⊢
    rw [e2] at go
    exact go S (Ap.refl _)
  · rw [if_neg h1] at e2 ⊢
    refine w_lci (ns := st) id (fun x => decide (x ≥ t.2)) ?_ ?_ (by unfold cap; omega) fun m2 S2 a2 l2 g2 => ?_
    · refine w_iseqL ?_
      simp only [w_seq, w_asg, w_ret, w_retN, w_drop, w_brk, w_cnt, w_nil, w_sif, w_c, w_ev, w_bin, w_un, w_anil, w_acons, w_tup, w_lst, w_call, w_tB, w_tNot, w_tAnd, w_tOr, w_eIf, w_isN, w_notN, w_gnm, w_gnils, w_gcns, w_gtp2, w_gtp3, w_ixT0, w_ixT1, w_ixT2, w_ch, w_chL, w_chK, w_par2, w_par3, w_add, w_sub, w_neg, w_lt, w_le, w_gt, w_ge, w_abs, w_int, w_intb, w_max2, w_min2, w_pno, w_ppart, w_sl, w_bm, w_yes, w_eqI, w_neI, w_eqB, w_neB, QS_nx, QS_rt, QS_bk, QS_ct, QF_nx, QF_rt, QL_nx, QL_ct, QL_bk, QL_rt, wipeE, List.set_cons_succ, List.set_cons_zero, List.getElem?_cons_succ, List.getElem?_cons_zero, D.bl.injEq, D.int.injEq, exists_eq_left', exists_eq_left, w_eAnd, w_tTru, tru_bl, if_true, if_false, Bool.false_eq_true]
      exact ⟨ns, _, rfl, getL_of hs, Ap.refl _, by simp [ItD.lst], hit_lst (getL_of hs) _⟩
    · intro x hx S3 a3
      simp only [w_seq, w_asg, w_ret, w_retN, w_drop, w_brk, w_cnt, w_nil, w_sif, w_c, w_ev, w_bin, w_un, w_anil, w_acons, w_tup, w_lst, w_call, w_tB, w_tNot, w_tAnd, w_tOr, w_eIf, w_isN, w_notN, w_gnm, w_gnils, w_gcns, w_gtp2, w_gtp3, w_ixT0, w_ixT1, w_ixT2, w_ch, w_chL, w_chK, w_par2, w_par3, w_add, w_sub, w_neg, w_lt, w_le, w_gt, w_ge, w_abs, w_int, w_intb, w_max2, w_min2, w_pno, w_ppart, w_sl, w_bm, w_yes, w_eqI, w_neI, w_eqB, w_neB, QS_nx, QS_rt, QS_bk, QS_ct, QF_nx, QF_rt, QL_nx, QL_ct, QL_bk, QL_rt, wipeE, List.set_cons_succ, List.set_cons_zero, List.getElem?_cons_succ, List.getElem?_cons_zero, D.bl.injEq, D.int.injEq, exists_eq_left', exists_eq_left, w_eAnd, w_tTru, tru_bl, if_true, if_false, Bool.false_eq_true, ge_iff_le]
      exact ⟨trivial, Ap.refl _, fun _ => ⟨rfl, Ap.refl _⟩⟩
    rw [List.map_id] at g2
    refine ⟨(by show 1 ≤ 10000000; decide), W_new fun m3 S3 e3 a3 g3 l3 => ?_⟩
    have fl := List.length_filter_le (fun x => decide (x ≥ t.2)) st
    rw [w_cat (a3 _ _ g2) g3 (by rw [List.length_map]; show _ + 1 ≤ 10000000; omega)]
    refine W_new fun m4 S4 e4 a4 g4 l4 => ?_
    have g4 : S4[m4]? = some (.lst ((st.filter (fun x => decide (x ≥ t.2)) ++ [2147483647]).map D.int)) := by rw [g4, List.map_append]; rfl
    rw [w_min1 (getL_of g4) (intsD_map _) (by simp), ← e2]
    exact go S4 (a2.trans (a3.trans a4))
theorem low_ok {o t : Rg} (ho : ok o) (ht : ok t) {st : List Int} {ns : Nat} {y2 y5 y6 y7 y8 y9 yA yB yC yF : Option D} {Q : Out → Sto → Prop} (hT : Tape S tp tm) (hs : S[ns]? = some (.lst (st.map D.int))) (hl : st.length ≤ 100)
    (hQ : ∀ (yA yB yF : Option D) (S' : Sto), Tape S' tp tm → Q (.nx (eT tp o t y2 y5 y6 y7 y8 y9 yA yB yC (some (rD (bo o t))) (some (.ref ns)) yF)) S') :
    W (b_low (eT tp o t y2 y5 y6 y7 y8 y9 yA yB yC (some (rD (bo o t))) (some (.ref ns)) yF) S) Q := by
  unfold b_low eT
  have go : ∀ S1, Ap S S1 → W (b_high (eT tp o t y2 y5 y6 y7 y8 y9 (some (.int (wd o t st).1)) yB yC (some (rD (bo o t))) (some (.ref ns)) yF) S1) Q := fun S1 a => high_ok ho ht (hT.ap a) (a _ _ hs) hl hQ
  simp only [w_seq, w_asg, w_ret, w_retN, w_drop, w_brk, w_cnt, w_nil, w_sif, w_c, w_ev, w_bin, w_un, w_anil, w_acons, w_tup, w_lst, w_call, w_tB, w_tNot, w_tAnd, w_tOr, w_eIf, w_isN, w_notN, w_gnm, w_gnils, w_gcns, w_gtp2, w_gtp3, w_ixT0, w_ixT1, w_ixT2, w_ch, w_chL, w_chK, w_par2, w_par3, w_add, w_sub, w_neg, w_lt, w_le, w_gt, w_ge, w_abs, w_int, w_intb, w_max2, w_min2, w_pno, w_ppart, w_sl, w_bm, w_yes, w_eqI, w_neI, w_eqB, w_neB, QS_nx, QS_rt, QS_bk, QS_ct, QF_nx, QF_rt, QL_nx, QL_ct, QL_bk, QL_rt, wipeE, List.set_cons_succ, List.set_cons_zero, List.getElem?_cons_succ, List.getElem?_cons_zero, D.bl.injEq, D.int.injEq, exists_eq_left', exists_eq_left, w_eAnd, w_tTru, tru_bl, if_true, if_false, Bool.false_eq_true, ge_iff_le, decide_eq_true_eq]
  have e1 : (wd o t st).1 = if t.1 ≥ o.1 then o.1 else maxL (st.filter (fun x => decide (x ≤ t.1)) ++ [-2147483648]) := rfl
  by_cases h1 : o.1 ≤ t.1
  · rw [if_pos h1]
    rw [if_pos h1] at e1
    rw [e1] at go
    exact go S (Ap.refl _)
  · rw [if_neg h1]
    rw [if_neg h1] at e1
    refine w_lci (ns := st) id (fun x => decide (x ≤ t.1)) ?_ ?_ (by unfold cap; omega) fun m2 S2 a2 l2 g2 => ?_
    · refine w_iseqL ?_
      simp only [w_seq, w_asg, w_ret, w_retN, w_drop, w_brk, w_cnt, w_nil, w_sif, w_c, w_ev, w_bin, w_un, w_anil, w_acons, w_tup, w_lst, w_call, w_tB, w_tNot, w_tAnd, w_tOr, w_eIf, w_isN, w_notN, w_gnm, w_gnils, w_gcns, w_gtp2, w_gtp3, w_ixT0, w_ixT1, w_ixT2, w_ch, w_chL, w_chK, w_par2, w_par3, w_add, w_sub, w_neg, w_lt, w_le, w_gt, w_ge, w_abs, w_int, w_intb, w_max2, w_min2, w_pno, w_ppart, w_sl, w_bm, w_yes, w_eqI, w_neI, w_eqB, w_neB, QS_nx, QS_rt, QS_bk, QS_ct, QF_nx, QF_rt, QL_nx, QL_ct, QL_bk, QL_rt, wipeE, List.set_cons_succ, List.set_cons_zero, List.getElem?_cons_succ, List.getElem?_cons_zero, D.bl.injEq, D.int.injEq, exists_eq_left', exists_eq_left, w_eAnd, w_tTru, tru_bl, if_true, if_false, Bool.false_eq_true]
      exact ⟨ns, _, rfl, getL_of hs, Ap.refl _, by simp [ItD.lst], hit_lst (getL_of hs) _⟩
    · intro x hx S3 a3
      simp only [w_seq, w_asg, w_ret, w_retN, w_drop, w_brk, w_cnt, w_nil, w_sif, w_c, w_ev, w_bin, w_un, w_anil, w_acons, w_tup, w_lst, w_call, w_tB, w_tNot, w_tAnd, w_tOr, w_eIf, w_isN, w_notN, w_gnm, w_gnils, w_gcns, w_gtp2, w_gtp3, w_ixT0, w_ixT1, w_ixT2, w_ch, w_chL, w_chK, w_par2, w_par3, w_add, w_sub, w_neg, w_lt, w_le, w_gt, w_ge, w_abs, w_int, w_intb, w_max2, w_min2, w_pno, w_ppart, w_sl, w_bm, w_yes, w_eqI, w_neI, w_eqB, w_neB, QS_nx, QS_rt, QS_bk, QS_ct, QF_nx, QF_rt, QL_nx, QL_ct, QL_bk, QL_rt, wipeE, List.set_cons_succ, List.set_cons_zero, List.getElem?_cons_succ, List.getElem?_cons_zero, D.bl.injEq, D.int.injEq, exists_eq_left', exists_eq_left, w_eAnd, w_tTru, tru_bl, if_true, if_false, Bool.false_eq_true]
      exact ⟨trivial, Ap.refl _, fun _ => ⟨rfl, Ap.refl _⟩⟩
    rw [List.map_id] at g2
    refine ⟨(by show 1 ≤ 10000000; decide), W_new fun m3 S3 e3 a3 g3 l3 => ?_⟩
    have fl := List.length_filter_le (fun x => decide (x ≤ t.1)) st
    rw [w_cat (a3 _ _ g2) g3 (by rw [List.length_map]; show _ + 1 ≤ 10000000; omega)]
    refine W_new fun m4 S4 e4 a4 g4 l4 => ?_
    have g4 : S4[m4]? = some (.lst ((st.filter (fun x => decide (x ≤ t.1)) ++ [-2147483648]).map D.int)) := by rw [g4, List.map_append]; rfl
    rw [w_max1 (getL_of g4) (intsD_map _) (by simp), ← e1]
    exact go S4 (a2.trans (a3.trans a4))
theorem ints_of {l : List D} (h : ∀ d ∈ l, ∃ x, d = .int x) : ∃ xs : List Int, l = xs.map D.int := by
  induction l with
  | nil => exact ⟨[], rfl⟩
  | cons d l ih =>
    obtain ⟨ts, e⟩ := ih fun x hx => h x (List.mem_cons_of_mem _ hx)
    obtain ⟨t, e2⟩ := h d List.mem_cons_self
    exact ⟨t :: ts, by rw [e, e2]; rfl⟩
theorem w_lctB {tp tm B : Nat} {fi : FI} {g : FG} {tt : FT} {te : FE} {vs : List Nat} {env : FL.Env} {S : Sto} {Q : D → Sto → Prop} (P : D → Prop) (hT : Tape S tp tm)
    (hi : W (fi env S) fun it S1 => Kn tp S S1 ∧ S.length ≤ S1.length ∧ Tape S1 tp tm ∧ ∃ ds : List D, it = .fix ds ∧ ds.length ≤ B)
    (hb : ∀ d S2, Tape S2 tp tm → W (g d (wipeE env vs) S2) fun e1 S3 => W (tt e1 S3) fun k S4 => k = true ∧ Kn tp S2 S4 ∧ W (te e1 S4) fun y S5 => P y ∧ Kn tp S4 S5 ∧ Tape S5 tp tm ∧ S2.length ≤ S5.length) (hB : B ≤ cap)
    (hq : ∀ (n : Nat) (S' : Sto) (ys : List D), Kn tp S S' → Tape S' tp tm → S.length ≤ n → ys.length ≤ B → (∀ y ∈ ys, P y) → S'[n]? = some (.lst ys) → Q (.ref n) S') : W (eLc fi g tt te vs env S) Q := by
  obtain ⟨it, S1, e, h1, h2, h3, ds, rfl, h4⟩ := hi
  refine w_lct (tp := tp) (tm := tm) (ds := ds) (fun _ y => P y) hT ⟨_, S1, e, h1, h2, h3, Nat.le_refl _, fun S2 _ i => rfl⟩ (fun d _ S2 _ T2 _ => hb d S2 T2) (by omega) ?_
  intro n S' ys k T l1 l2 l3 hP g'
  refine hq n S' ys k T l1 (by omega) (fun y hy => ?_) g'
  obtain ⟨j, hj, e⟩ := List.getElem_of_mem hy
  exact hP j (ds[j]'(by omega)) y (List.getElem?_eq_getElem (by omega)) (by rw [List.getElem?_eq_getElem hj, e])
theorem steps_ok {o t : Rg} (ho : ok o) (ht : ok t) {y2 y5 y6 y7 y8 y9 yA yB yC yE yF : Option D} {Q : Out → Sto → Prop} (hT : Tape S tp tm)
    (hQ : ∀ (yA yB yE yF : Option D) (S' : Sto), Tape S' tp tm → Q (.nx (eT tp o t y2 y5 y6 y7 y8 y9 yA yB yC (some (rD (bo o t))) yE yF)) S') :
    W (b_steps (eT tp o t y2 y5 y6 y7 y8 y9 yA yB yC (some (rD (bo o t))) yE yF) S) Q := by
  unfold b_steps eT
  rw [w_seq, w_asg]
  refine w_sortSet ?_
  rw [w_bin]
  refine w_lctB (tp := tp) (tm := tm) (B := 5) (fun y => ∃ x, y = .int x) hT ?_ ?_ (by decide) ?_
  · refine w_rng1 ?_
    simp only [w_seq, w_asg, w_ret, w_retN, w_drop, w_brk, w_cnt, w_nil, w_sif, w_c, w_ev, w_bin, w_un, w_anil, w_acons, w_tup, w_lst, w_call, w_tB, w_tNot, w_tAnd, w_tOr, w_eIf, w_isN, w_notN, w_gnm, w_gnils, w_gcns, w_gtp2, w_gtp3, w_ixT0, w_ixT1, w_ixT2, w_ch, w_chL, w_chK, w_par2, w_par3, w_add, w_sub, w_neg, w_lt, w_le, w_gt, w_ge, w_abs, w_int, w_intb, w_max2, w_min2, w_pno, w_ppart, w_sl, w_bm, w_yes, w_eqI, w_neI, w_eqB, w_neB, QS_nx, QS_rt, QS_bk, QS_ct, QF_nx, QF_rt, QL_nx, QL_ct, QL_bk, QL_rt, wipeE, List.set_cons_succ, List.set_cons_zero, List.getElem?_cons_succ, List.getElem?_cons_zero, D.bl.injEq, D.int.injEq, exists_eq_left', exists_eq_left, w_eAnd, w_tTru, tru_bl, if_true, if_false, Bool.false_eq_true]
    refine W_take hT (by decide) (by decide) fun r S2 p q k2 T2 l2 => ?_
    exact ⟨_, rfl, by omega, by omega, k2, by omega, T2, _, rfl, by rw [rng_len]; omega⟩
  · intro d S2 T2
    simp only [w_seq, w_asg, w_ret, w_retN, w_drop, w_brk, w_cnt, w_nil, w_sif, w_c, w_ev, w_bin, w_un, w_anil, w_acons, w_tup, w_lst, w_call, w_tB, w_tNot, w_tAnd, w_tOr, w_eIf, w_isN, w_notN, w_gnm, w_gnils, w_gcns, w_gtp2, w_gtp3, w_ixT0, w_ixT1, w_ixT2, w_ch, w_chL, w_chK, w_par2, w_par3, w_add, w_sub, w_neg, w_lt, w_le, w_gt, w_ge, w_abs, w_int, w_intb, w_max2, w_min2, w_pno, w_ppart, w_sl, w_bm, w_yes, w_eqI, w_neI, w_eqB, w_neB, QS_nx, QS_rt, QS_bk, QS_ct, QF_nx, QF_rt, QL_nx, QL_ct, QL_bk, QL_rt, wipeE, List.set_cons_succ, List.set_cons_zero, List.getElem?_cons_succ, List.getElem?_cons_zero, D.bl.injEq, D.int.injEq, exists_eq_left', exists_eq_left, w_eAnd, w_tTru, tru_bl, if_true, if_false, Bool.false_eq_true]
    refine ⟨trivial, Kn.refl _ _, ?_⟩
    refine W_take T2 (by decide) (by decide) fun r S3 p q k3 T3 l3 => ?_
    simp only [w_seq, w_asg, w_ret, w_retN, w_drop, w_brk, w_cnt, w_nil, w_sif, w_c, w_ev, w_bin, w_un, w_anil, w_acons, w_tup, w_lst, w_call, w_tB, w_tNot, w_tAnd, w_tOr, w_eIf, w_isN, w_notN, w_gnm, w_gnils, w_gcns, w_gtp2, w_gtp3, w_ixT0, w_ixT1, w_ixT2, w_ch, w_chL, w_chK, w_par2, w_par3, w_add, w_sub, w_neg, w_lt, w_le, w_gt, w_ge, w_abs, w_int, w_intb, w_max2, w_min2, w_pno, w_ppart, w_sl, w_bm, w_yes, w_eqI, w_neI, w_eqB, w_neB, QS_nx, QS_rt, QS_bk, QS_ct, QF_nx, QF_rt, QL_nx, QL_ct, QL_bk, QL_rt, wipeE, List.set_cons_succ, List.set_cons_zero, List.getElem?_cons_succ, List.getElem?_cons_zero, D.bl.injEq, D.int.injEq, exists_eq_left', exists_eq_left, w_eAnd, w_tTru, tru_bl, if_true, if_false, Bool.false_eq_true]
    exact ⟨⟨_, rfl⟩, k3, T3, by omega⟩
  intro n1 S1 ys k1 T1 l1 ly hP g1
  obtain ⟨xs, rfl⟩ := ints_of hP
  rw [List.length_map] at ly
  simp only [w_seq, w_asg, w_ret, w_retN, w_drop, w_brk, w_cnt, w_nil, w_sif, w_c, w_ev, w_bin, w_un, w_anil, w_acons, w_tup, w_lst, w_call, w_tB, w_tNot, w_tAnd, w_tOr, w_eIf, w_isN, w_notN, w_gnm, w_gnils, w_gcns, w_gtp2, w_gtp3, w_ixT0, w_ixT1, w_ixT2, w_ch, w_chL, w_chK, w_par2, w_par3, w_add, w_sub, w_neg, w_lt, w_le, w_gt, w_ge, w_abs, w_int, w_intb, w_max2, w_min2, w_pno, w_ppart, w_sl, w_bm, w_yes, w_eqI, w_neI, w_eqB, w_neB, QS_nx, QS_rt, QS_bk, QS_ct, QF_nx, QF_rt, QL_nx, QL_ct, QL_bk, QL_rt, wipeE, List.set_cons_succ, List.set_cons_zero, List.getElem?_cons_succ, List.getElem?_cons_zero, D.bl.injEq, D.int.injEq, exists_eq_left', exists_eq_left, w_eAnd, w_tTru, tru_bl, if_true, if_false, Bool.false_eq_true]
  refine ⟨(by show 2 ≤ 10000000; decide), W_new fun n2 S2 e2 a2 g2 l2 => ?_⟩
  rw [w_cat (a2 _ _ g1) g2 (by rw [List.length_map]; show _ + 2 ≤ 10000000; omega)]
  refine W_new fun n3 S3 e3 a3 g3 l3 => ?_
  have g3 : S3[n3]? = some (.lst ((xs ++ [0, 1]).map D.int)) := by rw [g3, List.map_append]; rfl
  refine ⟨n3, xs ++ [0, 1], rfl, getL_of g3, (by rw [List.length_append]; show _ + 2 < 64; omega), W_new fun n4 S4 e4 a4 g4 l4 => ?_⟩
  have sl := sortU_len (xs ++ [0, 1])
  rw [List.length_append] at sl
  have sl : (sortU (xs ++ [0, 1])).length ≤ xs.length + 2 := sl
  exact low_ok ho ht (T1.ap (a2.trans (a3.trans a4))) g4 (by omega) fun yA yB yF S' T => hQ _ _ _ _ _ T
theorem rest_ok {o t : Rg} (ho : ok o) (ht : ok t) {y2 y5 y6 y7 y8 y9 yA yB yC yD yE yF : Option D} {Q : Out → Sto → Prop} (hT : Tape S tp tm)
    (hQ : ∀ (yA yB yD yE yF : Option D) (S' : Sto), Tape S' tp tm → Q (.nx (eT tp o t y2 y5 y6 y7 y8 y9 yA yB yC yD yE yF)) S') :
    W (b_rest (eT tp o t y2 y5 y6 y7 y8 y9 yA yB yC yD yE yF) S) Q := by
  obtain ⟨o1, o2, o3⟩ := id ho
  obtain ⟨t1, t2, t3⟩ := id ht
  unfold b_rest eT
  simp only [w_seq, w_asg, w_ret, w_retN, w_drop, w_brk, w_cnt, w_nil, w_sif, w_c, w_ev, w_bin, w_un, w_anil, w_acons, w_tup, w_lst, w_call, w_tB, w_tNot, w_tAnd, w_tOr, w_eIf, w_isN, w_notN, w_gnm, w_gnils, w_gcns, w_gtp2, w_gtp3, w_ixT0, w_ixT1, w_ixT2, w_ch, w_chL, w_chK, w_par2, w_par3, w_add, w_sub, w_neg, w_lt, w_le, w_gt, w_ge, w_abs, w_int, w_intb, w_max2, w_min2, w_pno, w_ppart, w_sl, w_bm, w_yes, w_eqI, w_neI, w_eqB, w_neB, QS_nx, QS_rt, QS_bk, QS_ct, QF_nx, QF_rt, QL_nx, QL_ct, QL_bk, QL_rt, wipeE, List.set_cons_succ, List.set_cons_zero, List.getElem?_cons_succ, List.getElem?_cons_zero, D.bl.injEq, D.int.injEq, exists_eq_left', exists_eq_left, w_eAnd, w_tTru, tru_bl, if_true, if_false, Bool.false_eq_true]
  refine ⟨(by show 2 ≤ 10000000; decide), ?_⟩
  have sw : ((if o.1 < t.1 then o.1 else t.1, if o.2 > t.2 then o.2 else t.2) : Rg) = bo o t := by
    refine Prod.ext ?_ ?_
    · show (if o.1 < t.1 then o.1 else t.1) = if t.1 < o.1 then t.1 else o.1
      split <;> split <;> omega
    · show (if o.2 > t.2 then o.2 else t.2) = if t.2 > o.2 then t.2 else o.2
      split <;> split <;> omega
  rw [joined_ok o t, w_neT (i := if t.1 < o.1 then t.1 else o.1) (j := if t.2 > o.2 then t.2 else o.2)]
  simp only [w_seq, w_asg, w_ret, w_retN, w_drop, w_brk, w_cnt, w_nil, w_sif, w_c, w_ev, w_bin, w_un, w_anil, w_acons, w_tup, w_lst, w_call, w_tB, w_tNot, w_tAnd, w_tOr, w_eIf, w_isN, w_notN, w_gnm, w_gnils, w_gcns, w_gtp2, w_gtp3, w_ixT0, w_ixT1, w_ixT2, w_ch, w_chL, w_chK, w_par2, w_par3, w_add, w_sub, w_neg, w_lt, w_le, w_gt, w_ge, w_abs, w_int, w_intb, w_max2, w_min2, w_pno, w_ppart, w_sl, w_bm, w_yes, w_eqI, w_neI, w_eqB, w_neB, QS_nx, QS_rt, QS_bk, QS_ct, QF_nx, QF_rt, QL_nx, QL_ct, QL_bk, QL_rt, wipeE, List.set_cons_succ, List.set_cons_zero, List.getElem?_cons_succ, List.getElem?_cons_zero, D.bl.injEq, D.int.injEq, exists_eq_left', exists_eq_left, w_eAnd, w_tTru, tru_bl, if_true, if_false, Bool.false_eq_true]
  rw [joined_ok t o, sw, w_neT (i := if t.1 < o.1 then t.1 else o.1) (j := if t.2 > o.2 then t.2 else o.2)]
  simp only [w_seq, w_asg, w_ret, w_retN, w_drop, w_brk, w_cnt, w_nil, w_sif, w_c, w_ev, w_bin, w_un, w_anil, w_acons, w_tup, w_lst, w_call, w_tB, w_tNot, w_tAnd, w_tOr, w_eIf, w_isN, w_notN, w_gnm, w_gnils, w_gcns, w_gtp2, w_gtp3, w_ixT0, w_ixT1, w_ixT2, w_ch, w_chL, w_chK, w_par2, w_par3, w_add, w_sub, w_neg, w_lt, w_le, w_gt, w_ge, w_abs, w_int, w_intb, w_max2, w_min2, w_pno, w_ppart, w_sl, w_bm, w_yes, w_eqI, w_neI, w_eqB, w_neB, QS_nx, QS_rt, QS_bk, QS_ct, QF_nx, QF_rt, QL_nx, QL_ct, QL_bk, QL_rt, wipeE, List.set_cons_succ, List.set_cons_zero, List.getElem?_cons_succ, List.getElem?_cons_zero, D.bl.injEq, D.int.injEq, exists_eq_left', exists_eq_left, w_eAnd, w_tTru, tru_bl, if_true, if_false, Bool.false_eq_true]
  rw [within_ok o t]
  have wi : (decide ((bo o t).1 ≤ o.1) && decide (o.2 ≤ (bo o t).2)) = true := by
    have x1 : (bo o t).1 ≤ o.1 := by show (if t.1 < o.1 then t.1 else o.1) ≤ _; split <;> omega
    have x2 : o.2 ≤ (bo o t).2 := by show _ ≤ (if t.2 > o.2 then t.2 else o.2); split <;> omega
    simp [x1, x2]
  have go : W (b_steps (eT tp o t y2 y5 y6 y7 y8 y9 yA yB yC (some (rD (bo o t))) yE yF) S) Q := steps_ok ho ht hT fun yA yB yE yF S' T => hQ _ _ _ _ _ _ T
  have fin : W (f_is_within [rD o, rD (bo o t)] S) fun x S1 => match tru x S1 with
      | some b => if (!b) = true then Q (.rt (.bl false)) S1 else W (b_steps (eT tp o t y2 y5 y6 y7 y8 y9 yA yB yC (some (rD (bo o t))) yE yF) S1) Q
      | none => False := by
    rw [within_ok o (bo o t), wi]
    exact go
  by_cases c1 : t.1 ≤ o.1
  · simp only [c1, decide_true, Bool.true_and, if_true, w_seq, w_asg, w_ret, w_retN, w_drop, w_brk, w_cnt, w_nil, w_sif, w_c, w_ev, w_bin, w_un, w_anil, w_acons, w_tup, w_lst, w_call, w_tB, w_tNot, w_tAnd, w_tOr, w_eIf, w_isN, w_notN, w_gnm, w_gnils, w_gcns, w_gtp2, w_gtp3, w_ixT0, w_ixT1, w_ixT2, w_ch, w_chL, w_chK, w_par2, w_par3, w_add, w_sub, w_neg, w_lt, w_le, w_gt, w_ge, w_abs, w_int, w_intb, w_max2, w_min2, w_pno, w_ppart, w_sl, w_bm, w_yes, w_eqI, w_neI, w_eqB, w_neB, QS_nx, QS_rt, QS_bk, QS_ct, QF_nx, QF_rt, QL_nx, QL_ct, QL_bk, QL_rt, wipeE, List.set_cons_succ, List.set_cons_zero, List.getElem?_cons_succ, List.getElem?_cons_zero, D.bl.injEq, D.int.injEq, exists_eq_left', exists_eq_left, w_eAnd, w_tTru, tru_bl, if_true, if_false, Bool.false_eq_true, beq_self_eq_true, Bool.not_true]
    exact fin
  · simp only [c1, decide_false, Bool.false_and, Bool.false_eq_true, if_false, w_seq, w_asg, w_ret, w_retN, w_drop, w_brk, w_cnt, w_nil, w_sif, w_c, w_ev, w_bin, w_un, w_anil, w_acons, w_tup, w_lst, w_call, w_tB, w_tNot, w_tAnd, w_tOr, w_eIf, w_isN, w_notN, w_gnm, w_gnils, w_gcns, w_gtp2, w_gtp3, w_ixT0, w_ixT1, w_ixT2, w_ch, w_chL, w_chK, w_par2, w_par3, w_add, w_sub, w_neg, w_lt, w_le, w_gt, w_ge, w_abs, w_int, w_intb, w_max2, w_min2, w_pno, w_ppart, w_sl, w_bm, w_yes, w_eqI, w_neI, w_eqB, w_neB, QS_nx, QS_rt, QS_bk, QS_ct, QF_nx, QF_rt, QL_nx, QL_ct, QL_bk, QL_rt, wipeE, List.set_cons_succ, List.set_cons_zero, List.getElem?_cons_succ, List.getElem?_cons_zero, D.bl.injEq, D.int.injEq, exists_eq_left', exists_eq_left, w_eAnd, w_tTru, tru_bl, if_true, if_false, Bool.false_eq_true, beq_self_eq_true, Bool.not_true]
    exact fin
def b_turn : FS := sSeq (sAsg (eTup (aCons (eCall f__law_drawn_range (aCons (eVar 1) (aNil))) (aCons (eCall f__law_drawn_range (aCons (eVar 1) (aNil))) (aNil)))) (gTp 2 (gCns (gNm 3) (gCns (gNm 4) (gNils))))) (sSeq (sFor (iSeq (eTup (aCons (eC (.str "add")) (aCons (eC (.str "sub")) (aCons (eC (.str "mul")) (aCons (eC (.str "div")) (aCons (eC (.str "less")) (aCons (eC (.str "same")) (aNil))))))))) (gNm 5) b_name) b_rest)
theorem law_is : b_law = sSeq (sAsg (eCall f__law_tape (aCons (eVar 0) (aNil))) (gNm 1)) (sSeq (sFor (iRng1 (aCons (eC (.int 8)) (aNil))) (gNm 2) b_turn) (sRet (eC (.bl true)))) := rfl
theorem names_are {i : Nat} {d : D} (h : ([D.str "add", D.str "sub", D.str "mul", D.str "div", D.str "less", D.str "same"] : List D)[i]? = some d) : ∃ op, d = .str (nm op) := by
  have m := List.mem_of_getElem? h
  simp only [List.mem_cons, List.not_mem_nil, or_false] at m
  rcases m with rfl | rfl | rfl | rfl | rfl | rfl
  · exact ⟨.add, rfl⟩
  · exact ⟨.sub, rfl⟩
  · exact ⟨.mul, rfl⟩
  · exact ⟨.div, rfl⟩
  · exact ⟨.less, rfl⟩
  · exact ⟨.same, rfl⟩
theorem turn_ok {y2 y3 y4 y5 y6 y7 y8 y9 yA yB yC yD yE yF : Option D} {Q : Out → Sto → Prop} (hT : Tape S tp tm)
    (hQ : ∀ (y2 y3 y4 y5 y6 y7 y8 y9 yA yB yC yD yE yF : Option D) (S' : Sto), Tape S' tp tm → Q (.nx [some (.ref 0), some (.ref tp), y2, y3, y4, y5, y6, y7, y8, y9, yA, yB, yC, yD, yE, yF, none, none, none]) S') :
    W (b_turn [some (.ref 0), some (.ref tp), y2, y3, y4, y5, y6, y7, y8, y9, yA, yB, yC, yD, yE, yF, none, none, none] S) Q := by
  unfold b_turn
  rw [w_seq]
  simp only [w_asg, w_tup, w_acons, w_anil, w_call, w_ev, List.getElem?_cons_succ, List.getElem?_cons_zero]
  refine (drawn_range_ok hT).mono ?_
  rintro d S1 ⟨⟨o, rfl, ho, o8⟩, T1⟩
  refine (drawn_range_ok T1).mono ?_
  rintro d S2 ⟨⟨t, rfl, ht, t8⟩, T2⟩
  refine ⟨(by show 2 ≤ 10000000; decide), ?_⟩
  simp only [w_gtp2, w_gcns, w_gnm, w_gnils, List.set_cons_succ, List.set_cons_zero, QS_nx]
  rw [w_seq, w_for]
  refine w_iseqT ?_
  simp only [w_seq, w_asg, w_ret, w_retN, w_drop, w_brk, w_cnt, w_nil, w_sif, w_c, w_ev, w_bin, w_un, w_anil, w_acons, w_tup, w_lst, w_call, w_tB, w_tNot, w_tAnd, w_tOr, w_eIf, w_isN, w_notN, w_gnm, w_gnils, w_gcns, w_gtp2, w_gtp3, w_ixT0, w_ixT1, w_ixT2, w_ch, w_chL, w_chK, w_par2, w_par3, w_add, w_sub, w_neg, w_lt, w_le, w_gt, w_ge, w_abs, w_int, w_intb, w_max2, w_min2, w_pno, w_ppart, w_sl, w_bm, w_yes, w_eqI, w_neI, w_eqB, w_neB, QS_nx, QS_rt, QS_bk, QS_ct, QF_nx, QF_rt, QL_nx, QL_ct, QL_bk, QL_rt, wipeE, List.set_cons_succ, List.set_cons_zero, List.getElem?_cons_succ, List.getElem?_cons_zero, D.bl.injEq, D.int.injEq, exists_eq_left', exists_eq_left, w_eAnd, w_tTru, tru_bl, if_true, if_false, Bool.false_eq_true]
  refine ⟨(by show 6 ≤ 10000000; decide), _, rfl, ?_⟩
  refine for_fix (fun i env S' => Ap S2 S' ∧ ∃ y5 y6 y7 y8 y9 yA yB yC, env = eT tp o t y2 y5 y6 y7 y8 y9 yA yB yC yD yE yF) ?_ ?_ ⟨Ap.refl _, _, _, _, _, _, _, _, _, rfl⟩
  · rintro i d env S3 hd ⟨a3, y5, y6, y7, y8, y9, yA, yB, yC, rfl⟩
    obtain ⟨op, rfl⟩ := names_are hd
    rw [w_gnm]
    refine name_ok op ho ht o8 t8 fun y6 y7 y8 y9 yA yB yC S' a => ?_
    exact ⟨a3.trans a, _, _, _, _, _, _, _, _, rfl⟩
  · rintro env S3 ⟨a3, y5, y6, y7, y8, y9, yA, yB, yC, rfl⟩
    exact rest_ok ho ht (T2.ap a3) fun yA yB yD yE yF S' T => hQ _ _ _ _ _ _ _ _ _ _ _ _ _ _ _ T
theorem law_true (ns : List Int) (hl : ns.length ≤ 63) : ∃ S', f_law [.ref 0] [.ro (ns.map D.int)] = some (.bl true, S') := by
  have : W (f_law [.ref 0] [.ro (ns.map D.int)]) fun d _ => d = .bl true := by
    refine w_fn rfl ?_
    show W (b_law [some (.ref 0), none, none, none, none, none, none, none, none, none, none, none, none, none, none, none, none, none, none] _) _
    rw [law_is, w_seq]
    simp only [w_asg, w_call, w_acons, w_anil, w_ev, List.getElem?_cons_zero]
    refine (tape_ok hl).mono ?_
    rintro d S0 ⟨tp, tm, rfl, T0⟩
    simp only [w_gnm, List.set_cons_succ, List.set_cons_zero, QS_nx]
    rw [w_seq, w_for]
    refine w_rng1 ?_
    simp only [w_seq, w_asg, w_ret, w_retN, w_drop, w_brk, w_cnt, w_nil, w_sif, w_c, w_ev, w_bin, w_un, w_anil, w_acons, w_tup, w_lst, w_call, w_tB, w_tNot, w_tAnd, w_tOr, w_eIf, w_isN, w_notN, w_gnm, w_gnils, w_gcns, w_gtp2, w_gtp3, w_ixT0, w_ixT1, w_ixT2, w_ch, w_chL, w_chK, w_par2, w_par3, w_add, w_sub, w_neg, w_lt, w_le, w_gt, w_ge, w_abs, w_int, w_intb, w_max2, w_min2, w_pno, w_ppart, w_sl, w_bm, w_yes, w_eqI, w_neI, w_eqB, w_neB, QS_nx, QS_rt, QS_bk, QS_ct, QF_nx, QF_rt, QL_nx, QL_ct, QL_bk, QL_rt, wipeE, List.set_cons_succ, List.set_cons_zero, List.getElem?_cons_succ, List.getElem?_cons_zero, D.bl.injEq, D.int.injEq, exists_eq_left', exists_eq_left, w_eAnd, w_tTru, tru_bl, if_true, if_false, Bool.false_eq_true]
    refine ⟨8, rfl, by decide, by decide, ?_⟩
    rw [show Int.toNat 8 = 8 from rfl]
    refine for_rng (lo := 0) (n := 8) (fun k env S' => Tape S' tp tm ∧ ∃ y2 y3 y4 y5 y6 y7 y8 y9 yA yB yC yD yE yF, env = [some (.ref 0), some (.ref tp), y2, y3, y4, y5, y6, y7, y8, y9, yA, yB, yC, yD, yE, yF, none, none, none]) ?_ ?_ ⟨T0, _, _, _, _, _, _, _, _, _, _, _, _, _, _, rfl⟩
    · rintro k env S1 hk ⟨T1, y2, y3, y4, y5, y6, y7, y8, y9, yA, yB, yC, yD, yE, yF, rfl⟩
      rw [w_gnm]
      refine turn_ok T1 fun y2 y3 y4 y5 y6 y7 y8 y9 yA yB yC yD yE yF S' T => ?_
      exact ⟨T, _, _, _, _, _, _, _, _, _, _, _, _, _, _, rfl⟩
    · rintro env S1 ⟨T1, y2, y3, y4, y5, y6, y7, y8, y9, yA, yB, yC, yD, yE, yF, rfl⟩
      simp only [w_seq, w_asg, w_ret, w_retN, w_drop, w_brk, w_cnt, w_nil, w_sif, w_c, w_ev, w_bin, w_un, w_anil, w_acons, w_tup, w_lst, w_call, w_tB, w_tNot, w_tAnd, w_tOr, w_eIf, w_isN, w_notN, w_gnm, w_gnils, w_gcns, w_gtp2, w_gtp3, w_ixT0, w_ixT1, w_ixT2, w_ch, w_chL, w_chK, w_par2, w_par3, w_add, w_sub, w_neg, w_lt, w_le, w_gt, w_ge, w_abs, w_int, w_intb, w_max2, w_min2, w_pno, w_ppart, w_sl, w_bm, w_yes, w_eqI, w_neI, w_eqB, w_neB, QS_nx, QS_rt, QS_bk, QS_ct, QF_nx, QF_rt, QL_nx, QL_ct, QL_bk, QL_rt, wipeE, List.set_cons_succ, List.set_cons_zero, List.getElem?_cons_succ, List.getElem?_cons_zero, D.bl.injEq, D.int.injEq, exists_eq_left', exists_eq_left, w_eAnd, w_tTru, tru_bl, if_true, if_false, Bool.false_eq_true]
  obtain ⟨d, S', e, rfl⟩ := this
  exact ⟨S', e⟩
end
end K58
namespace K58
open PySem PySem.Spec PyProof.Rows L2 FL
theorem walk {l : PySem.W.OpenLaw} {q : Program} {loose : List Str} {XP : (Str → Option Value) → Heap → Prop} {YP : World → Heap → Prop} {d : DefRec} {K : Params → PySem.W.Frag} (hn : l.most = some 63) (hdf : d.params.defaults = [])
    (hY : ∀ (w : World) (h : Heap), YP w h → (K w.params).In h)
    (F : ∀ (w : World) (mg : Str → Option Value) (fa : Addr) (h : Heap), (K w.params).In h → h.Ns mainGlobals mg → mg d.name = some (.ref fa) →
      ∃ fd : FuncData, (∀ (s : Shared) (u : Value), BindsTo s fd ⟨[u], []⟩ [("script", u)]) ∧ ∀ base : Heap, (K w.params).In base → base.Ns mainGlobals mg → FnOk l.prog w (K w.params) mg base CX0 5 fa fd ["script"] (spF ⟨K w.params, fun _ => 0⟩ 1 f_law)) :
    PySem.W.WalkO q loose XP YP l.row.toRowW d [] (fun f vs => PySem.call f vs) :=
  L2.walk_of (n := 63) (k := 5) (x := "script") (CX := fun _ => CX0) (sp := fun w => spF ⟨K w.params, fun _ => 0⟩ 1 f_law) hn (by decide) hdf ⟨rfl, by decide, by decide⟩ hY F (fun w H a ns hl hO hS => end_red (law_true ns hl) hO hS) fun _ _ _ _ _ z => z
end K58
open PySem PySem.W PyProof.Rows in
set_option maxRecDepth 100000 in
set_option maxHeartbeats 0 in
theorem PySem.Challenge.cw_nocyclemore_k58_whole_ranges_that_are_ju_holds : PySem.Challenge.rw_nocyclemore_k58_whole_ranges_that_are_ju.Holds := by
  w_on; o_law; k_head; (case hw => w_witness2)
  k_fill
  refine K58.walk (l := PySem.Challenge.rw_nocyclemore_k58_whole_ranges_that_are_ju) rfl rfl (fun w h Y => PySem.W.kIn_of Y) ?F
  case F =>
    intro w mg fa h KX G hmg
    refine' K58.all_mk (fun _ => 0) KX G hmg ?a0 ?l0 ?c0 ?k0 ?a1 ?l1 ?c1 ?k1 ?a2 ?l2 ?c2 ?k2 ?a3 ?l3 ?c3 ?k3 ?a4 ?l4 ?c4 ?k4 ?a5 ?l5 ?c5 ?k5 ?a6 ?l6 ?c6 ?k6 ?a7 ?l7 ?c7 ?k7 ?a8 ?l8 ?c8 ?k8 ?a9 ?l9 ?c9 ?k9 ?a10 ?l10 ?c10 ?k10 ?a11 ?l11 ?c11 ?k11 ?a12 ?l12 ?c12 ?k12 ?a13 ?l13 ?c13 ?k13 ?a14 ?l14 ?c14 ?k14 ?at_ALL ?lt_ALL ?et_ALL ?st_ALL ?at_BOTH ?lt_BOTH ?et_BOTH ?st_BOTH ?av_HALF ?ev_HALF ?z_abs ?z_int ?z_len ?z_list ?z_max ?z_min ?z_range ?z_set ?z_sorted
    (case a0 => k_is)
    (case l0 => k_is)
    (case c0 => k_is)
    (case k0 => k_is)
    (case a1 => k_is)
    (case l1 => k_is)
    (case c1 => k_is)
    (case k1 => k_is)
    (case a2 => k_is)
    (case l2 => k_is)
    (case c2 => k_is)
    (case k2 => k_is)
    (case a3 => k_is)
    (case l3 => k_is)
    (case c3 => k_is)
    (case k3 => k_is)
    (case a4 => k_is)
    (case l4 => k_is)
    (case c4 => k_is)
    (case k4 => k_is)
    (case a5 => k_is)
    (case l5 => k_is)
    (case c5 => k_is)
    (case k5 => k_is)
    (case a6 => k_is)
    (case l6 => k_is)
    (case c6 => k_is)
    (case k6 => k_is)
    (case a7 => k_is)
    (case l7 => k_is)
    (case c7 => k_is)
    (case k7 => k_is)
    (case a8 => k_is)
    (case l8 => k_is)
    (case c8 => k_is)
    (case k8 => k_is)
    (case a9 => k_is)
    (case l9 => k_is)
    (case c9 => k_is)
    (case k9 => k_is)
    (case a10 => k_is)
    (case l10 => k_is)
    (case c10 => k_is)
    (case k10 => k_is)
    (case a11 => k_is)
    (case l11 => k_is)
    (case c11 => k_is)
    (case k11 => k_is)
    (case a12 => k_is)
    (case l12 => k_is)
    (case c12 => k_is)
    (case k12 => k_is)
    (case a13 => k_is)
    (case l13 => k_is)
    (case c13 => k_is)
    (case k13 => k_is)
    (case a14 => k_is)
    (case l14 => k_is)
    (case c14 => k_is)
    (case k14 => k_is)
    (case at_ALL => k_is)
    (case lt_ALL => k_is)
    (case et_ALL => rfl)
    (case st_ALL => decide)
    (case at_BOTH => k_is)
    (case lt_BOTH => k_is)
    (case et_BOTH => rfl)
    (case st_BOTH => decide)
    (case av_HALF => k_is)
    (case ev_HALF => rfl)
    (case z_abs => k_is)
    (case z_int => k_is)
    (case z_len => k_is)
    (case z_list => k_is)
    (case z_max => k_is)
    (case z_min => k_is)
    (case z_range => k_is)
    (case z_set => k_is)
    (case z_sorted => k_is)
