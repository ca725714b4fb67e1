import PyProof.Rows.All
import Wide.All
import OpenK.AllK
import Wide.FinOn
import HandS.ForMost
import HandS.Flow
import HandS.Dict
import KE.KDictPairs
import HandS.Zip
import HandS.IsInst
import HandS.Wide
import HandS.TupAny
import HandS.TupMul
import HandS.Style
import HandS.Deep
import HandS.SortInts
import HandS.Conv
import KE.GoesEnum
import KE.DataMinMax
import HandS.Ends
import HandS.Words
import PySem.Challenge.RW_faultclear_k72_whole_faults_left_by_talk
set_option Elab.async false
set_option linter.all false
set_option maxRecDepth 100000
set_option maxHeartbeats 1000000
/-! Mini, part Y: dict(pairs), the keys tuples. -/
namespace Mini
open PySem L2

def mergeT (qs : List (Addr × List Key × V)) (acc : List (List Key × V)) : List (List Key × V) := qs.foldl (fun acc q => putK acc q.2.1 q.2.2) acc
def rDictT (K : PySem.W.Frag) : List V → Hp → VK → Prop := fun us H Q => ∃ (a : Addr) (ts : List Addr) (qs : List (Addr × List Key × V)), us = [.ref a] ∧ SqL K H a (ts.map V.ref) ∧
  Paired (fun t q => SqT K H t [.ref q.1, q.2.2] ∧ H q.1 = some (.tup (q.2.1.map kV))) ts qs ∧ ∀ p, H p = none → Q (.ref p) (upd H p (.dT (mergeT qs [])))
section
variable {X : Cx}
theorem pairsT_of {pins : List (Addr × Obj)} {σ : St} {H : Hp} {s : Shared} (I : Inv X pins σ H s) : ∀ {ts : List Addr} {qs : List (Addr × List Key × V)}, Paired (fun t q => SqT X.K H t [.ref q.1, q.2.2] ∧ H q.1 = some (.tup (q.2.1.map kV))) ts qs →
    ∃ xs : List (List Key × Addr × Value), Paired (fun q x => q.2.1 = x.1 ∧ q.1 = x.2.1 ∧ H q.1 = some (.tup (q.2.1.map kV)) ∧ RelV q.2.2 x.2.2) qs xs ∧ xs.length = ts.length ∧ ∀ (j : Nat) (x : List Key × Addr × Value), xs[j]? = some x → ∃ t, ts[j]? = some t ∧ PyProof.Rows.IsTup s.heap t #[.ref x.2.1, x.2.2] ∧ H x.2.1 = some (.tup (x.1.map kV))
  | _, _, .nil => ⟨[], .nil, rfl, fun j x e => by simp at e⟩
  | _, _, .cons (a := t) (b := q) h r => by
    obtain ⟨xs, r2, hl, hp⟩ := pairsT_of I r
    obtain ⟨its, rv, ht, _⟩ := I.tuple h.1
    obtain ⟨u, y, ei, ru, ry⟩ := vals2 rv
    subst ei
    cases (show u = Value.ref q.1 from ru)
    refine ⟨(q.2.1, q.1, y) :: xs, .cons ⟨rfl, rfl, h.2, ry⟩ r2, by rw [List.length_cons, List.length_cons, hl], fun j x e => ?_⟩
    cases j with
    | zero =>
      have e' : (q.2.1, q.1, y) = x := Option.some.inj e
      subst e'
      exact ⟨t, rfl, ht, h.2⟩
    | succ j => exact hp j x (by simpa using e)
theorem KT_all {H : Hp} {qs : List (Addr × List Key × V)} {xs : List (List Key × Addr × Value)} (h : Paired (fun q x => q.2.1 = x.1 ∧ q.1 = x.2.1 ∧ H q.1 = some (.tup (q.2.1.map kV)) ∧ RelV q.2.2 x.2.2) qs xs) :
    ∀ {ys : List (List Key × Addr × Value)} {kvs : List (List Key × V)}, KT H kvs ys → KT H (mergeT qs kvs) (PySem.storedAllH ys xs) := by
  induction h with
  | nil => exact fun k => k
  | @cons q x qs xs h r ih =>
    intro ys kvs k
    obtain ⟨h1, h2, h3, h4⟩ := h
    obtain ⟨x1, x2, x3⟩ := x
    simp only at h1 h2 h4
    subst h1 h2
    exact ih (k.put _ h3 h4)
theorem mergeT_len : ∀ (qs : List (Addr × List Key × V)) (acc : List (List Key × V)), (mergeT qs acc).length ≤ acc.length + qs.length
  | [], acc => by simp [mergeT]
  | q :: qs, acc => by
    have := mergeT_len qs (putK acc q.2.1 q.2.2)
    have h2 : (putK acc q.2.1 q.2.2).length ≤ acc.length + 1 := by
      unfold putK
      split
      · simp
      · simp
    show (mergeT qs (putK acc q.2.1 q.2.2)).length ≤ _
    rw [List.length_cons]
    omega
theorem cr_dictT (hc : X.calm = true) (hu : X.A.units + 65 < cLine) : CallR X (.type "dict") (rDictT X.K) := by
  intro pins s σ H us ws Q I r q
  obtain ⟨a, ts, qs, rfl, hs, hp, q⟩ := q
  rw [Vals.ref1 r]
  obtain ⟨its, rv, pl, hz⟩ := I.list hs
  have ei := refs_at rv
  subst ei
  obtain ⟨xs, rel, hl, hx⟩ := pairsT_of I hp
  obtain ⟨o, n, ho, hcl, hd, hdat⟩ := pl
  rw [List.length_map] at hz
  have ok : PySem.PlainSeq "list" s.heap a (ts.map Value.ref).toArray ∧ PySem.PairItems s.heap (ts.map Value.ref).toArray (fun j => ts.getD j 0) (xs.map fun x => (Value.ref x.2.1, x.2.2)) := by
    refine ⟨⟨o, n, ho, hcl, hd, hdat⟩, by simp [hl], fun j k v e => ?_⟩
    rw [List.getElem?_map, Option.map_eq_some_iff] at e
    obtain ⟨x, e1, e2⟩ := e
    cases e2
    obtain ⟨t, h1, h2, _⟩ := hx j x e1
    have h3 : ts.getD j 0 = t := by rw [List.getD_eq_getElem?_getD, h1]; rfl
    have h3' : (fun j => ts.getD j 0) j = t := h3
    refine ⟨by rw [h3']; simp [h1], .inl ?_⟩
    rw [h3']
    exact h2
  refine PySem.call_dict_pairsH (knd := tupleKind (mixKind X.prog X.w)) (ps := xs) (PySem.PairArg.list (prog := X.prog) (w := X.w) a _ _ _) (I.ok.hd hc) ?_ ok ⟨by simp, fun i key v e => ?_⟩ (fun h' hk x hm => ?_) (by rw [List.length_map, hl]; exact hz) fun h' tk hd' k => ?_
  · exact tupleKind_room_in1 (by show X.A.units + 1 + 1 < cLine; omega)
  · have e : (xs.map fun x => (Value.ref x.2.1, x.2.2))[i]? = some (key, v) := e
    rw [List.getElem?_map, Option.map_eq_some_iff] at e
    obtain ⟨x, e1, e2⟩ := e
    cases e2
    exact ⟨x.1, x.2.1, e1, rfl⟩
  · obtain ⟨j, hj, e⟩ := List.getElem_of_mem hm
    obtain ⟨t, _, _, h3⟩ := hx j x (by rw [List.getElem?_eq_getElem hj, e])
    obtain ⟨o', its', n', g1, g2, g3, g4⟩ := key_of I.hok h3
    exact ⟨o', its', n', hk _ _ (Nat.ne_of_lt (Heap.lt_size g1)) (by simp) g1, g2, g3, g4⟩
  · have hm : (s.heap.objs.size == sysModules) = false := beq_eq_false_iff_ne.mpr (Nat.ne_of_gt I.big)
    have hq : qs.length = ts.length := by
      have : ∀ {α β : Type} {F : α → β → Prop} {l : List α} {m : List β}, Paired F l m → m.length = l.length := by
        intro α β F l m h
        induction h with
        | nil => rfl
        | cons _ _ ih => simp [ih]
      exact this hp
    have hlen : (mergeT qs []).length ≤ sizeLine := by
      refine Nat.le_trans (mergeT_len qs []) ?_
      rw [List.length_nil, Nat.zero_add, hq]
      exact hz
    have hfree : H s.heap.objs.size = none := I.hok.fresh (Nat.le_refl _)
    have kt := (KT_all rel (.nil (F := _))).keeps (H' := upd H s.heap.objs.size (.dT (mergeT qs []))) fun b ys e => by
      rw [upd_ne (fun e2 : b = s.heap.objs.size => by rw [e2, hfree] at e; cases e)]
      exact e
    obtain ⟨o', es', ep', g1, g2, g3, g4, _, g6⟩ := hd'
    exact ⟨.ref s.heap.objs.size, upd H s.heap.objs.size (.dT (mergeT qs [])), I.laid (t' := tk) (fun b o e => k b o (by simp) e) (Nat.le_refl _) (show ObjOk X.prog X.w _ _ _ (.dT (mergeT qs [])) from ⟨hlen, hm, _, kt, o', es', ep', g1, g2, g3, g4, g6⟩), rfl, q _ hfree⟩
end
end Mini

set_option Elab.async false
set_option linter.all false
set_option maxRecDepth 100000
/-! Mini, part A: plain data, a store of mutable objects, what stands for them in the layer's heap. -/
namespace Mini
open PySem L2

/-- plain data; scr: the script, a list that is read alone; ref n: the object of number n of the store; gl x: what the module's name x holds; ty: a built-in type -/
inductive D where
  | non | bl (b : Bool) | int (i : Int) | str (x : Str) | tup (ds : List D) | ref (n : Nat) | gl (x : Str) | ty (n : String) | scr (ns : List Int)

mutual
def D.beq : D → D → Bool
  | .non, .non => true
  | .bl a, .bl b => a == b
  | .int a, .int b => a == b
  | .str a, .str b => decide (a = b)
  | .tup a, .tup b => D.beqL a b
  | .ref a, .ref b => a == b
  | .gl a, .gl b => decide (a = b)
  | .ty a, .ty b => a == b
  | .scr a, .scr b => decide (a = b)
  | _, _ => false
def D.beqL : List D → List D → Bool
  | [], [] => true
  | a :: as, b :: bs => D.beq a b && D.beqL as bs
  | _, _ => false
end
mutual
theorem D.beq_iff : ∀ (a b : D), D.beq a b = true ↔ a = b
  | .non, b => by cases b <;> simp [D.beq]
  | .bl _, b => by cases b <;> simp [D.beq]
  | .int _, b => by cases b <;> simp [D.beq]
  | .str _, b => by cases b <;> simp [D.beq]
  | .tup as, b => by
    cases b <;> simp [D.beq]
    exact D.beqL_iff as _
  | .ref _, b => by cases b <;> simp [D.beq]
  | .gl _, b => by cases b <;> simp [D.beq]
  | .ty _, b => by cases b <;> simp [D.beq]
  | .scr _, b => by cases b <;> simp [D.beq]
theorem D.beqL_iff : ∀ (a b : List D), D.beqL a b = true ↔ a = b
  | [], b => by cases b <;> simp [D.beqL]
  | x :: xs, b => by
    cases b with
    | nil => simp [D.beqL]
    | cons y ys => simp [D.beqL, D.beq_iff x y, D.beqL_iff xs ys]
end
instance : DecidableEq D := fun a b => if h : D.beq a b = true then .isTrue ((D.beq_iff a b).mp h) else .isFalse fun e => h ((D.beq_iff a b).mpr e)

/-- the objects of the store: a list; a dict with tuples for keys; an instance of a class of the program -/
inductive O where
  | lst (xs : List D) | ins (C : Str) (fs : List (Str × D)) | dT (kvs : List (List Key × D))
  deriving DecidableEq
abbrev S := List O

/-- what a piece of program comes to -/
inductive R (α : Type) where
  | ok (a : α) (s : S)
  | bad
def R.bind {α β : Type} (r : R α) (k : α → S → R β) : R β := match r with
  | .ok a s => k a s
  | .bad => .bad
theorem R.bind_ok {α β : Type} {a : α} {s : S} {k : α → S → R β} : (R.ok a s).bind k = k a s := rfl
theorem R.bind_bad {α β : Type} {k : α → S → R β} : (R.bad : R α).bind k = .bad := rfl
abbrev Env := List (Option D)
abbrev M (α : Type) := Env → S → R α

/-! ### what stands for data -/
/-- a list that none may change -/
def Scr (K : PySem.W.Frag) (H : Hp) (a : Addr) (xs : List V) : Prop := (∃ o, H a = some (.frz o (.lst xs))) ∨
  ∃ (o : Obj) (its : Array Value) (n : Nat), K.lookup a = some o ∧ o.cls = .type "list" ∧ o.dict = none ∧ o.data = .seq its n ∧ its.size ≤ sizeLine ∧ Vals xs its.toList
theorem Scr.sq {K : PySem.W.Frag} {H : Hp} {a : Addr} {xs : List V} (h : Scr K H a xs) : SqL K H a xs := by
  rcases h with ⟨o, h⟩ | h
  · exact .inl (.inr ⟨o, h⟩)
  · exact .inr h
/-- a tuple that is tracked -/
def SqU (H : Hp) (a : Addr) (xs : List V) : Prop := H a = some (.tup xs)
theorem SqU.t {K : PySem.W.Frag} {H : Hp} {a : Addr} {xs : List V} (h : SqU H a xs) : SqT K H a xs := SqT.of h
/-- a tuple, or the script -/
def SqB (K : PySem.W.Frag) (t : Bool) (H : Hp) (a : Addr) (xs : List V) : Prop := if t = true then SqU H a xs else Scr K H a xs
section
variable (K : PySem.W.Frag) (mg : Str → Option Value)
mutual
inductive Rep (μ : List Addr) (H : Hp) : D → V → Prop
  | non : Rep μ H .non .non
  | bl (b : Bool) : Rep μ H (.bl b) (.bl b)
  | int (i : Int) : Rep μ H (.int i) (.int i)
  | str (x : Str) : Rep μ H (.str x) (.str x)
  | tup {a : Addr} {vs : List V} {ds : List D} : SqU H a vs → RepL μ H ds vs → Rep μ H (.tup ds) (.ref a)
  | ref {n : Nat} {a : Addr} : μ[n]? = some a → Rep μ H (.ref n) (.ref a)
  | gl {x : Str} {a : Addr} : mg x = some (.ref a) → Rep μ H (.gl x) (.ref a)
  | ty (n : String) : Rep μ H (.ty n) (.ty n)
  | scr {a : Addr} {ns : List Int} : Scr K H a (ns.map V.int) → Rep μ H (.scr ns) (.ref a)
inductive RepL (μ : List Addr) (H : Hp) : List D → List V → Prop
  | nil : RepL μ H [] []
  | cons {d : D} {ds : List D} {v : V} {vs : List V} : Rep μ H d v → RepL μ H ds vs → RepL μ H (d :: ds) (v :: vs)
end
/-- attributes -/
inductive RepF (μ : List Addr) (H : Hp) : List (Str × D) → List (Str × V) → Prop
  | nil : RepF μ H [] []
  | cons {x : Str} {d : D} {fs : List (Str × D)} {v : V} {gs : List (Str × V)} : Rep K mg μ H d v → RepF μ H fs gs → RepF μ H ((x, d) :: fs) ((x, v) :: gs)
/-- a dict's items -/
inductive RepKT (μ : List Addr) (H : Hp) : List (List Key × D) → List (List Key × V) → Prop
  | nil : RepKT μ H [] []
  | cons {k : List Key} {d : D} {fs : List (List Key × D)} {v : V} {gs : List (List Key × V)} : Rep K mg μ H d v → RepKT μ H fs gs → RepKT μ H ((k, d) :: fs) ((k, v) :: gs)
/-- what stands for an object at its address -/
def RepO (μ : List Addr) (H : Hp) (a : Addr) : O → Prop
  | .lst xs => ∃ vs, H a = some (.lst vs) ∧ RepL K mg μ H xs vs
  | .dT kvs => ∃ vs, H a = some (.dT vs) ∧ RepKT K mg μ H kvs vs
  | .ins C fs => ∃ c dx gs, mg C = some (.ref c) ∧ H a = some (.ins c dx gs) ∧ RepF K mg μ H fs gs
/-- from one heap to a later one -/
structure Ext (μ : List Addr) (H : Hp) (μ' : List Addr) (H' : Hp) : Prop where
  pre : ∃ t, μ' = μ ++ t
  tup : ∀ t a xs, SqB K t H a xs → SqB K t H' a xs
  lock : ∀ a o u, H a = some (.frz o u) → H' a = some (.frz o u)
  keep : ∀ a o, H a = some o → a ∉ μ → H' a = some o
  new : ∀ a ∈ μ', a ∉ μ → H a = none
structure Sim (μ : List Addr) (H : Hp) (s : S) : Prop where
  len : μ.length = s.length
  nd : μ.Nodup
  obj : ∀ (n : Nat) (a : Addr) (o : O), μ[n]? = some a → s[n]? = some o → RepO K mg μ H a o
end

section
variable {K : PySem.W.Frag} {mg : Str → Option Value} {μ μ' μ1 μ2 : List Addr} {H H' H1 H2 : Hp}
theorem pre_get {n : Nat} {a : Addr} (p : ∃ t, μ' = μ ++ t) (h : μ[n]? = some a) : μ'[n]? = some a := by
  obtain ⟨t, rfl⟩ := p
  rw [List.getElem?_append_left (List.getElem?_eq_some_iff.mp h).1]
  exact h
theorem pre_mem {a : Addr} (p : ∃ t, μ' = μ ++ t) (h : a ∈ μ) : a ∈ μ' := by
  obtain ⟨t, rfl⟩ := p
  exact List.mem_append_left _ h
theorem Ext.refl : Ext K μ H μ H := ⟨⟨[], by simp⟩, fun _ _ _ h => h, fun _ _ _ h => h, fun _ _ h _ => h, fun a h n => absurd h n⟩
theorem Ext.trans (a : Ext K μ H μ1 H1) (b : Ext K μ1 H1 μ2 H2) : Ext K μ H μ2 H2 := by
  refine ⟨?_, fun t x xs h => b.tup t x xs (a.tup t x xs h), fun x o u h => b.lock x o u (a.lock x o u h), fun x o h n => ?_, fun x h n => ?_⟩
  · obtain ⟨t, rfl⟩ := a.pre
    obtain ⟨u, rfl⟩ := b.pre
    exact ⟨t ++ u, by simp⟩
  · refine b.keep x o (a.keep x o h n) fun m => ?_
    have := a.new x m n
    rw [h] at this
    cases this
  · by_cases m : x ∈ μ1
    · exact a.new x m n
    · cases e : H x with
      | none => rfl
      | some o =>
        have h1 := a.keep x o e n
        have h2 := b.new x h m
        rw [h1] at h2
        cases h2
mutual
theorem Rep.mono (p : ∃ t, μ' = μ ++ t) (q : ∀ t a xs, SqB K t H a xs → SqB K t H' a xs) : ∀ {d : D} {v : V}, Rep K mg μ H d v → Rep K mg μ' H' d v
  | _, _, .non => .non
  | _, _, .bl b => .bl b
  | _, _, .int i => .int i
  | _, _, .str x => .str x
  | _, _, .tup h r => .tup (q true _ _ h) (RepL.mono p q r)
  | _, _, .ref h => .ref (pre_get p h)
  | _, _, .gl h => .gl h
  | _, _, .ty n => .ty n
  | _, _, .scr h => .scr (q false _ _ h)
theorem RepL.mono (p : ∃ t, μ' = μ ++ t) (q : ∀ t a xs, SqB K t H a xs → SqB K t H' a xs) : ∀ {ds : List D} {vs : List V}, RepL K mg μ H ds vs → RepL K mg μ' H' ds vs
  | _, _, .nil => .nil
  | _, _, .cons h r => .cons (Rep.mono p q h) (RepL.mono p q r)
end
theorem RepF.mono (p : ∃ t, μ' = μ ++ t) (q : ∀ t a xs, SqB K t H a xs → SqB K t H' a xs) {fs : List (Str × D)} {gs : List (Str × V)} (r : RepF K mg μ H fs gs) : RepF K mg μ' H' fs gs := by
  induction r with
  | nil => exact .nil
  | cons h _ ih => exact .cons (h.mono p q) ih
theorem RepKT.mono (p : ∃ t, μ' = μ ++ t) (q : ∀ t a xs, SqB K t H a xs → SqB K t H' a xs) {fs : List (List Key × D)} {gs : List (List Key × V)} (r : RepKT K mg μ H fs gs) : RepKT K mg μ' H' fs gs := by
  induction r with
  | nil => exact .nil
  | cons h _ ih => exact .cons (h.mono p q) ih
theorem RepKT.val {fs : List (List Key × D)} {gs : List (List Key × V)} (r : RepKT K mg μ H fs gs) (k : List Key) : (∀ d, (fs.find? fun kv => decide (kv.1 = k)).map (·.2) = some d → ∃ v, valV gs k = some v ∧ Rep K mg μ H d v) ∧ ((fs.find? fun kv => decide (kv.1 = k)).map (·.2) = none → valV gs k = none) := by
  induction r with
  | nil => exact ⟨fun d h => (by cases h), fun _ => rfl⟩
  | @cons k' d fs v gs h r ih =>
    unfold valV at ih ⊢
    rw [List.find?_cons, List.find?_cons]
    by_cases e : k' = k
    · rw [decide_eq_true e]
      exact ⟨fun d' h' => by cases h'; exact ⟨v, rfl, h⟩, fun h' => by cases h'⟩
    · rw [decide_eq_false e]
      exact ih
theorem Rep.ext (e : Ext K μ H μ' H') {d : D} {v : V} (h : Rep K mg μ H d v) : Rep K mg μ' H' d v := h.mono e.pre e.tup
theorem RepL.ext (e : Ext K μ H μ' H') {ds : List D} {vs : List V} (h : RepL K mg μ H ds vs) : RepL K mg μ' H' ds vs := h.mono e.pre e.tup
theorem RepL.length {ds : List D} {vs : List V} (h : RepL K mg μ H ds vs) : ds.length = vs.length := by
  induction ds generalizing vs with
  | nil => cases h; rfl
  | cons d ds ih =>
    cases h with
    | cons _ r => simp [ih r]
theorem RepL.get : ∀ {ds : List D} {vs : List V} {i : Nat} {d : D}, RepL K mg μ H ds vs → ds[i]? = some d → ∃ v, vs[i]? = some v ∧ Rep K mg μ H d v
  | _, _, 0, _, .cons h _, e => by simp at e; subst e; exact ⟨_, rfl, h⟩
  | _, _, i + 1, d, .cons _ r, e => by
    obtain ⟨v, h1, h2⟩ := RepL.get (i := i) (d := d) r (by simpa using e)
    exact ⟨v, by simpa using h1, h2⟩
  | _, _, _, _, .nil, e => by simp at e
theorem RepL.getv : ∀ {ds : List D} {vs : List V} {i : Nat} {v : V}, RepL K mg μ H ds vs → vs[i]? = some v → ∃ d, ds[i]? = some d ∧ Rep K mg μ H d v
  | _, _, 0, _, .cons h _, e => by simp at e; subst e; exact ⟨_, rfl, h⟩
  | _, _, i + 1, v, .cons _ r, e => by
    obtain ⟨d, h1, h2⟩ := RepL.getv (i := i) (v := v) r (by simpa using e)
    exact ⟨d, by simpa using h1, h2⟩
  | _, _, _, _, .nil, e => by simp at e
theorem RepL.append : ∀ {ds es : List D} {vs ws : List V}, RepL K mg μ H ds vs → RepL K mg μ H es ws → RepL K mg μ H (ds ++ es) (vs ++ ws)
  | _, _, _, _, .nil, s => s
  | _, _, _, _, .cons h r, s => .cons h (RepL.append r s)
theorem RepL.take : ∀ {ds : List D} {vs : List V} (n : Nat), RepL K mg μ H ds vs → RepL K mg μ H (ds.take n) (vs.take n)
  | _, _, 0, _ => .nil
  | _, _, _ + 1, .nil => .nil
  | _, _, n + 1, .cons h r => .cons h (RepL.take n r)
theorem RepL.drop : ∀ {ds : List D} {vs : List V} (n : Nat), RepL K mg μ H ds vs → RepL K mg μ H (ds.drop n) (vs.drop n)
  | _, _, 0, r => r
  | _, _, _ + 1, .nil => .nil
  | _, _, n + 1, .cons _ r => RepL.drop n r
theorem RepL.reverse {ds : List D} {vs : List V} (h : RepL K mg μ H ds vs) : RepL K mg μ H ds.reverse vs.reverse := by
  induction ds generalizing vs with
  | nil => cases h; exact .nil
  | cons d ds ih =>
    cases h with
    | cons h r =>
      rw [List.reverse_cons, List.reverse_cons]
      exact (ih r).append (.cons h .nil)
theorem RepL.set : ∀ {ds : List D} {vs : List V} {d : D} {v : V} (i : Nat), Rep K mg μ H d v → RepL K mg μ H ds vs → RepL K mg μ H (ds.set i d) (vs.set i v)
  | _, _, _, _, _, _, .nil => by simpa using RepL.nil
  | _, _, _, _, 0, h, .cons _ r => .cons h r
  | _, _, _, _, i + 1, h, .cons g r => .cons g (RepL.set i h r)
theorem RepL.eraseIdx : ∀ {ds : List D} {vs : List V} (i : Nat), RepL K mg μ H ds vs → RepL K mg μ H (ds.eraseIdx i) (vs.eraseIdx i)
  | _, _, _, .nil => by simpa using RepL.nil
  | _, _, 0, .cons _ r => r
  | _, _, i + 1, .cons h r => .cons h (RepL.eraseIdx i r)
theorem RepL.dropLast {ds : List D} {vs : List V} (h : RepL K mg μ H ds vs) : RepL K mg μ H ds.dropLast vs.dropLast := by
  rw [List.dropLast_eq_take, List.dropLast_eq_take, h.length]
  exact h.take _
theorem RepL.flat {ds : List D} {vs : List V} (h : RepL K mg μ H ds vs) : ∀ k : Nat, RepL K mg μ H (List.replicate k ds).flatten (List.replicate k vs).flatten
  | 0 => .nil
  | k + 1 => by
    rw [List.replicate_succ, List.replicate_succ, List.flatten_cons, List.flatten_cons]
    exact h.append (RepL.flat h k)
theorem RepF.lookup {fs : List (Str × D)} {gs : List (Str × V)} (r : RepF K mg μ H fs gs) {x : Str} {d : D} (h : fs.lookup x = some d) : ∃ v, gs.lookup x = some v ∧ Rep K mg μ H d v := by
  induction r with
  | nil => cases h
  | @cons y e fs v gs hr r ih =>
    rw [List.lookup_cons] at h ⊢
    split at h
    · cases h
      exact ⟨v, rfl, hr⟩
    · exact ih h
theorem RepF.lookup_none {fs : List (Str × D)} {gs : List (Str × V)} (r : RepF K mg μ H fs gs) {x : Str} (h : fs.lookup x = none) : gs.lookup x = none := by
  induction r with
  | nil => rfl
  | @cons y e fs v gs hr r ih =>
    rw [List.lookup_cons] at h ⊢
    split at h
    · cases h
    · exact ih h
theorem RepF.length {fs : List (Str × D)} {gs : List (Str × V)} (r : RepF K mg μ H fs gs) : fs.length = gs.length := by
  induction r with
  | nil => rfl
  | cons _ _ ih => simp [ih]
/-- an attribute put -/
def putD (f : Str) (d : D) : List (Str × D) → List (Str × D)
  | [] => [(f, d)]
  | (g, e) :: r => if g = f then (g, d) :: r else (g, e) :: putD f d r
theorem RepF.put {fs : List (Str × D)} {gs : List (Str × V)} {f : Str} {d : D} {v : V} (r : RepF K mg μ H fs gs) (h : Rep K mg μ H d v) : RepF K mg μ H (putD f d fs) (putF f v gs) := by
  induction r with
  | nil => exact .cons h .nil
  | @cons y e fs w gs hr r ih =>
    unfold putD putF
    by_cases c : y = f
    · rw [if_pos c, if_pos c]
      exact .cons h r
    · rw [if_neg c, if_neg c]
      exact .cons hr ih
end
end Mini

set_option Elab.async false
set_option linter.all false
set_option maxRecDepth 100000
set_option maxHeartbeats 1000000
/-! Mini, part B: how the store is changed; readings. -/
namespace Mini
open PySem L2

section
variable {K : PySem.W.Frag} {mg : Str → Option Value} {μ μ' μ1 μ2 : List Addr} {H H' H1 H2 : Hp} {s s' : S}
/-- a lock or a tuple -/
def fixedO : HO → Bool
  | .tup _ => true
  | .frz _ _ => true
  | _ => false
theorem sqt_upd {p : Addr} {o : HO} (hp : ∀ u, H p = some u → fixedO u = false) : ∀ t a xs, SqB K t H a xs → SqB K t (upd H p o) a xs := by
  intro t a xs h
  cases t with
  | false =>
    rcases h with ⟨ob, h⟩ | h
    · have ne : a ≠ p := by
        rintro rfl
        cases hp _ h
      exact .inl ⟨ob, by rw [upd_ne ne]; exact h⟩
    · exact .inr h
  | true =>
    have h : H a = some (.tup xs) := h
    show upd H p o a = some (.tup xs)
    have ne : a ≠ p := by
      rintro rfl
      cases hp _ h
    rw [upd_ne ne]
    exact h
theorem sqt_new {p : Addr} {o : HO} (hp : H p = none) : ∀ t a xs, SqB K t H a xs → SqB K t (upd H p o) a xs := sqt_upd fun u h => by rw [hp] at h; cases h
theorem RepO.same {a : Addr} {o : O} (h : RepO K mg μ H a o) (e : ∀ u, H a = some u → H' a = some u) (p : ∃ t, μ' = μ ++ t) (q : ∀ t a xs, SqB K t H a xs → SqB K t H' a xs) : RepO K mg μ' H' a o := by
  cases o with
  | lst xs => obtain ⟨vs, h1, h2⟩ := h; exact ⟨vs, e _ h1, h2.mono p q⟩
  | ins C fs => obtain ⟨c, dx, gs, h0, h1, h2⟩ := h; exact ⟨c, dx, gs, h0, e _ h1, h2.mono p q⟩
  | dT kvs => obtain ⟨vs, h1, h2⟩ := h; exact ⟨vs, e _ h1, h2.mono p q⟩
theorem RepO.there {a : Addr} {o : O} (h : RepO K mg μ H a o) : ∃ u, H a = some u := by
  cases o with
  | lst xs => obtain ⟨vs, h1, _⟩ := h; exact ⟨_, h1⟩
  | ins C fs => obtain ⟨c, dx, gs, _, h1, _⟩ := h; exact ⟨_, h1⟩
  | dT kvs => obtain ⟨vs, h1, _⟩ := h; exact ⟨_, h1⟩
theorem Sim.at (M : Sim K mg μ H s) {n : Nat} {o : O} (h : s[n]? = some o) : ∃ a, μ[n]? = some a ∧ RepO K mg μ H a o := by
  have hn : n < μ.length := by rw [M.len]; exact (List.getElem?_eq_some_iff.mp h).1
  exact ⟨μ[n], List.getElem?_eq_getElem hn, M.obj n _ o (List.getElem?_eq_getElem hn) h⟩
theorem Sim.there (M : Sim K mg μ H s) {a : Addr} (h : a ∈ μ) : ∃ u, H a = some u := by
  obtain ⟨n, hn⟩ := List.getElem?_of_mem h
  have hl : n < s.length := by rw [← M.len]; exact (List.getElem?_eq_some_iff.mp hn).1
  exact (M.obj n a _ hn (List.getElem?_eq_getElem hl)).there
theorem Sim.fresh (M : Sim K mg μ H s) {p : Addr} (hp : H p = none) : p ∉ μ := fun h => by
  obtain ⟨u, e⟩ := M.there h
  rw [hp] at e
  cases e
/-- a new object, not of the store -/
theorem Ext.laid {p : Addr} {o : HO} (hp : H p = none) : Ext K μ H μ (upd H p o) :=
  ⟨⟨[], by simp⟩, sqt_new hp, fun a o u h => by rw [upd_ne (ne_of_none h hp)]; exact h, fun a u h _ => by rw [upd_ne (ne_of_none h hp)]; exact h, fun a h n => absurd h n⟩
theorem Sim.laid (M : Sim K mg μ H s) {p : Addr} {o : HO} (hp : H p = none) : Sim K mg μ (upd H p o) s :=
  ⟨M.len, M.nd, fun n a ob h1 h2 => (M.obj n a ob h1 h2).same (fun u h => by rw [upd_ne (ne_of_none h hp)]; exact h) ⟨[], by simp⟩ (sqt_new hp)⟩
/-- a new object of the store, that stands already in the heap -/
theorem Ext.push {p : Addr} {H0 : Hp} {μ0 : List Addr} (E : Ext K μ0 H0 μ H) (hp : H0 p = none) : Ext K μ0 H0 (μ ++ [p]) H := by
  refine ⟨?_, E.tup, E.lock, E.keep, fun a h n => ?_⟩
  · obtain ⟨t, rfl⟩ := E.pre
    exact ⟨t ++ [p], by simp⟩
  · rcases List.mem_append.mp h with h | h
    · exact E.new a h n
    · have : a = p := by simpa using h
      rw [this]
      exact hp
theorem Sim.push (M : Sim K mg μ H s) {p : Addr} {o : O} (hn : p ∉ μ) (h : RepO K mg (μ ++ [p]) H p o) : Sim K mg (μ ++ [p]) H (s ++ [o]) := by
  refine ⟨by simp [M.len], ?_, fun n a ob h1 h2 => ?_⟩
  · rw [List.nodup_append]
    refine ⟨M.nd, by simp, fun x hx y hy => ?_⟩
    have : y = p := by simpa using hy
    rw [this]
    rintro rfl
    exact hn hx
  · by_cases hl : n < μ.length
    · rw [List.getElem?_append_left hl] at h1
      rw [List.getElem?_append_left (by rw [← M.len]; exact hl)] at h2
      exact (M.obj n a ob h1 h2).same (fun _ h => h) ⟨[p], rfl⟩ fun _ _ _ h => h
    · rw [List.getElem?_append_right (by omega)] at h1
      rw [List.getElem?_append_right (by rw [← M.len]; omega), ← M.len] at h2
      cases e : n - μ.length with
      | zero =>
        rw [e] at h1 h2
        cases h1
        cases h2
        exact h
      | succ k =>
        rw [e] at h1
        cases h1
/-- an object of the store is changed -/
theorem Ext.write {n : Nat} {p : Addr} {o : HO} (hn : μ[n]? = some p) (hf : ∀ u, H p = some u → fixedO u = false) : Ext K μ H μ (upd H p o) :=
  ⟨⟨[], by simp⟩, sqt_upd hf, fun a o u h => by rw [upd_ne (fun e : a = p => by rw [e] at h; cases hf _ h)]; exact h, fun a u h k => by rw [upd_ne (fun e : a = p => k (by rw [e]; exact List.mem_of_getElem? hn))]; exact h, fun a h n => absurd h n⟩
theorem Sim.write (M : Sim K mg μ H s) {n : Nat} {p : Addr} {u : HO} {o : O} (hn : μ[n]? = some p) (hf : ∀ u, H p = some u → fixedO u = false) (h : RepO K mg μ (upd H p u) p o) : Sim K mg μ (upd H p u) (s.set n o) := by
  refine ⟨by simp [M.len], M.nd, fun m a ob h1 h2 => ?_⟩
  by_cases e : m = n
  · subst e
    rw [hn] at h1
    cases h1
    have hl : m < s.length := by rw [← M.len]; exact (List.getElem?_eq_some_iff.mp hn).1
    rw [List.getElem?_set_self hl] at h2
    cases h2
    exact h
  · rw [List.getElem?_set_ne (Ne.symm e)] at h2
    have ne : a ≠ p := by
      rintro rfl
      obtain ⟨l1, e1⟩ := List.getElem?_eq_some_iff.mp h1
      obtain ⟨l2, e2⟩ := List.getElem?_eq_some_iff.mp hn
      exact e ((List.getElem_inj M.nd).mp (e1.trans e2.symm))
    exact (M.obj m a ob h1 h2).same (fun v hv => by rw [upd_ne ne]; exact hv) ⟨[], by simp⟩ (sqt_upd hf)
end

/-! ### readings -/
section
variable (K : PySem.W.Frag) (mg : Str → Option Value)
structure EnvRep (μ : List Addr) (H : Hp) (env : Env) (σ : St) : Prop where
  len : env.length = σ.length
  get : ∀ (i : Nat) (d : D), env[i]? = some (some d) → ∃ v, σ[i]? = some (some v) ∧ Rep K mg μ H d v
structure Now (μ : List Addr) (H : Hp) (σ : St) (env : Env) (s : S) : Prop where
  er : EnvRep K mg μ H env σ
  sim : Sim K mg μ H s
/-- what an end r is to come to: Rp tells what stands for the result -/
def Ok {α β : Type} (Rp : List Addr → Hp → α → β → Prop) (μ : List Addr) (H : Hp) (r : R α) (Q : β → Hp → Prop) : Prop := match r with
  | .ok d s => ∀ (μ' : List Addr) (H' : Hp) (v : β), Ext K μ H μ' H' → Sim K mg μ' H' s → Rp μ' H' d v → Q v H'
  | .bad => False
/-- a value -/
def TDe (m : M D) : TE := fun σ H Q => ∃ μ env s, Now K mg μ H σ env s ∧ Ok K mg (Rep K mg) μ H (m env s) Q
/-- a test -/
def TDt (m : M Bool) : TT := fun σ H Q => ∃ μ env s, Now K mg μ H σ env s ∧ Ok K mg (fun _ _ a b => a = b) μ H (m env s) Q
/-- several values -/
def TDa (m : M (List D)) : TA := fun σ H Q => ∃ μ env s, Now K mg μ H σ env s ∧ Ok K mg (RepL K mg) μ H (m env s) Q
/-- a new list, not (yet) of the store -/
def RepN (H0 : Hp) (μ : List Addr) (H : Hp) (ds : List D) (v : V) : Prop := ∃ a vs, v = .ref a ∧ H a = some (.lst vs) ∧ H0 a = none ∧ a ∉ μ ∧ RepL K mg μ H ds vs
def TDl (m : M (List D)) : TE := fun σ H Q => ∃ μ env s, Now K mg μ H σ env s ∧ Ok K mg (RepN K mg H) μ H (m env s) Q
/-- a list or a tuple, whosever it is -/
def RepQ (μ : List Addr) (H : Hp) (ds : List D) (v : V) : Prop := ∃ a vs, v = .ref a ∧ (SqL K H a vs ∨ SqU H a vs) ∧ RepL K mg μ H ds vs
def TDq (m : M (List D)) : TE := fun σ H Q => ∃ μ env s, Now K mg μ H σ env s ∧ Ok K mg (RepQ K mg) μ H (m env s) Q
/-- where a statement ends -/
inductive Fl where
  | nx (env : Env) | rt (d : D) | bk (env : Env) | ct (env : Env)
def FlOk (Dn : Ends) (μ : List Addr) (H : Hp) : Fl → Prop
  | .nx env => ∀ σ, EnvRep K mg μ H env σ → Dn.nx σ H
  | .rt d => ∀ v, Rep K mg μ H d v → Dn.rt v H
  | .bk env => ∀ σ, EnvRep K mg μ H env σ → Dn.bk σ H
  | .ct env => ∀ σ, EnvRep K mg μ H env σ → Dn.ct σ H
def OkS (Dn : Ends) (μ : List Addr) (H : Hp) (r : R Fl) : Prop := match r with
  | .ok f s => ∀ (μ' : List Addr) (H' : Hp), Ext K μ H μ' H' → Sim K mg μ' H' s → FlOk K mg Dn μ' H' f
  | .bad => False
def TDs (m : M Fl) : TS := fun Dn σ H => ∃ μ env s, Now K mg μ H σ env s ∧ OkS K mg Dn μ H (m env s)
end

section
variable {K : PySem.W.Frag} {mg : Str → Option Value} {μ μ' μ1 μ2 : List Addr} {H H' H1 H2 : Hp} {s s' : S} {σ : St} {env : Env} {α β γ : Type}
theorem EnvRep.mono (h : EnvRep K mg μ H env σ) (e : Ext K μ H μ' H') : EnvRep K mg μ' H' env σ :=
  ⟨h.len, fun i d q => let ⟨v, h1, h2⟩ := h.get i d q; ⟨v, h1, h2.ext e⟩⟩
theorem Now.step (N : Now K mg μ H σ env s) (e : Ext K μ H μ' H') (M : Sim K mg μ' H' s') : Now K mg μ' H' σ env s' := ⟨N.er.mono e, M⟩
theorem EnvRep.set (h : EnvRep K mg μ H env σ) {i : Nat} {d : D} {v : V} (r : Rep K mg μ H d v) : EnvRep K mg μ H (env.set i (some d)) (σ.set i (some v)) := by
  refine ⟨by simp [h.len], fun j e q => ?_⟩
  by_cases c : i = j
  · subst c
    by_cases hi : i < env.length
    · rw [List.getElem?_set_self hi] at q
      cases q
      exact ⟨v, by rw [List.getElem?_set_self (by rw [← h.len]; exact hi)], r⟩
    · rw [List.getElem?_eq_none (by simpa using hi)] at q
      cases q
  · rw [List.getElem?_set_ne c] at q
    obtain ⟨w, h1, h2⟩ := h.get j e q
    exact ⟨w, by rw [List.getElem?_set_ne c]; exact h1, h2⟩
theorem Ok.bind {Rp : List Addr → Hp → α → β → Prop} {r : R γ} {k : γ → S → R α} {Q : β → Hp → Prop} (h : Ok K mg Rp μ H (r.bind k) Q) : ∃ a s, r = .ok a s ∧ Ok K mg Rp μ H (k a s) Q := by
  cases r with
  | ok a s => exact ⟨a, s, rfl, h⟩
  | bad => exact h.elim
theorem Ok.base {Rp : List Addr → Hp → α → β → Prop} {r : R α} {Q : β → Hp → Prop} (h : Ok K mg Rp μ H r Q) (e : Ext K μ H μ1 H1) : Ok K mg Rp μ1 H1 r Q := by
  cases r with
  | ok a s => exact fun μ' H' v e' M r => h μ' H' v (e.trans e') M r
  | bad => exact h
theorem Ok.imp {Rp Rp' : List Addr → Hp → α → β → Prop} {r : R α} {Q Q' : β → Hp → Prop} (h : Ok K mg Rp μ H r Q) (hr : ∀ μ' H' a b, Rp' μ' H' a b → Rp μ' H' a b) (hq : ∀ b H, Q b H → Q' b H) : Ok K mg Rp' μ H r Q' := by
  cases r with
  | ok a s => exact fun μ' H' v e' M r => hq _ _ (h μ' H' v e' M (hr _ _ _ _ r))
  | bad => exact h
theorem Ok.here {Rp : List Addr → Hp → α → β → Prop} {a : α} {b : β} {Q : β → Hp → Prop} (h : Ok K mg Rp μ H (.ok a s) Q) (M : Sim K mg μ H s) (r : Rp μ H a b) : Q b H := h μ H b .refl M r
theorem OkS.bind {Dn : Ends} {r : R γ} {k : γ → S → R Fl} (h : OkS K mg Dn μ H (r.bind k)) : ∃ a s, r = .ok a s ∧ OkS K mg Dn μ H (k a s) := by
  cases r with
  | ok a s => exact ⟨a, s, rfl, h⟩
  | bad => exact h.elim
theorem OkS.base {Dn : Ends} {r : R Fl} (h : OkS K mg Dn μ H r) (e : Ext K μ H μ1 H1) : OkS K mg Dn μ1 H1 r := by
  cases r with
  | ok a s => exact fun μ' H' e' M => h μ' H' (e.trans e') M
  | bad => exact h
/-- one part, then the rest -/
theorem Ok.thn {Rp : List Addr → Hp → α → β → Prop} {r : R α} {a : α} {s' : S} {Q : β → Hp → Prop} (e : r = .ok a s') (h : ∀ μ' H' v, Ext K μ H μ' H' → Sim K mg μ' H' s' → Rp μ' H' a v → Q v H') : Ok K mg Rp μ H r Q := by
  subst e
  exact h
end

/-! ### weakening -/
section
variable {X : Cx}
theorem PEw {e : Expr} {t t' : TE} (h : PE X e t) (w : ∀ σ H Q, t' σ H Q → t σ H Q) : PE X e t' := ⟨fun pins s σ H Q I q => h.run pins s σ H Q I (w σ H Q q)⟩
theorem PTw {e : Expr} {t t' : TT} (h : PT X e t) (w : ∀ σ H Q, t' σ H Q → t σ H Q) : PT X e t' := ⟨fun pins s σ H Q I q => h.run pins s σ H Q I (w σ H Q q)⟩
theorem PWw {e : Expr} {t t' : TT} (h : PW X e t) (w : ∀ σ H Q, t' σ H Q → t σ H Q) : PW X e t' := ⟨fun wh pins s σ H Q I q => h.run wh pins s σ H Q I (w σ H Q q)⟩
theorem PAw {es : List Expr} {t t' : TA} (h : PA X es t) (w : ∀ σ H Q, t' σ H Q → t σ H Q) : PA X es t' := ⟨fun pos pins s σ H Q I q => h.run pos pins s σ H Q I (w σ H Q q)⟩
theorem PSw {st : Stmt} {t t' : TS} (h : PS X st t) (w : ∀ Dn σ H, t' Dn σ H → t Dn σ H) : PS X st t' := ⟨fun pins s σ H Dn I q => h.run pins s σ H Dn I (w Dn σ H q)⟩
theorem PSsw {st : List Stmt} {t t' : TS} (h : PSs X st t) (w : ∀ Dn σ H, t' Dn σ H → t Dn σ H) : PSs X st t' := ⟨fun pins s σ H Dn I q => h.run pins s σ H Dn I (w Dn σ H q)⟩
theorem PIw {tg e : Expr} {t t' : TI} (h : PI X tg e t) (w : ∀ σ H R, t' σ H R → t σ H R) : PI X tg e t' := ⟨fun pins s σ H R I q => h.run pins s σ H R I (w σ H R q)⟩
/-- a piece that can't be run -/
theorem pe_bad {e : Expr} : PE X e (TDe X.K X.mg fun _ _ => .bad) := ⟨fun _ _ _ _ _ _ ⟨_, _, _, _, h⟩ => h.elim⟩
end
end Mini

set_option Elab.async false
set_option linter.all false
set_option maxRecDepth 100000
set_option maxHeartbeats 1000000
/-! Mini, part C: operators by values. -/
namespace Mini
open PySem L2

/-- data as the library's data: lists are looked up; n: how deep -/
def toPL (f : D → Option PyData) : List D → Option (List PyData)
  | [] => some []
  | d :: ds => match f d, toPL f ds with
    | some p, some ps => some (p :: ps)
    | _, _ => none
def toP (s : S) : Nat → D → Option PyData
  | 0, _ => none
  | n + 1, d => match d with
    | .non => some .none
    | .bl b => some (.bool b)
    | .int i => some (.int i)
    | .str x => if PyData.strOk x = true then some (.str x) else none
    | .tup ds => (toPL (toP s n) ds).map .tuple
    | .ref k => match s[k]? with
      | some (.lst xs) => (toPL (toP s n) xs).map .list
      | _ => none
    | _ => none
theorem toPL_shape {f : D → Option PyData} {n : Nat} (hf : ∀ d p, f d = some p → p.canLay0 = true ∧ p.depth ≤ n) : ∀ {ds : List D} {ps : List PyData}, toPL f ds = some ps → PyData.canLayAll0 ps = true ∧ PyData.depthAll ps ≤ n
  | [], ps, h => by cases h; exact ⟨rfl, Nat.zero_le _⟩
  | d :: ds, ps, h => by
    unfold toPL at h
    cases e1 : f d with
    | none => simp [e1] at h
    | some p =>
      cases e2 : toPL f ds with
      | none => simp [e1, e2] at h
      | some qs =>
        simp [e1, e2] at h
        subst h
        obtain ⟨a, b⟩ := hf d p e1
        obtain ⟨a', b'⟩ := toPL_shape hf e2
        exact ⟨by simp [PyData.canLayAll0, a, a'], by simp only [PyData.depthAll]; omega⟩
theorem toP_shape {s : S} : ∀ (n : Nat) (d : D) (p : PyData), toP s n d = some p → p.canLay0 = true ∧ p.depth ≤ n
  | 0, _, _, h => by cases h
  | n + 1, d, p, h => by
    have ih := toP_shape (s := s) n
    cases d with
    | non => cases h; exact ⟨rfl, Nat.zero_le _⟩
    | bl b => cases h; exact ⟨rfl, Nat.zero_le _⟩
    | int i => cases h; exact ⟨rfl, Nat.zero_le _⟩
    | str x =>
      unfold toP at h
      simp only at h
      split at h
      · cases h
        exact ⟨by simpa [PyData.canLay0], Nat.zero_le _⟩
      · cases h
    | tup ds =>
      unfold toP at h
      simp only [Option.map_eq_some_iff] at h
      obtain ⟨ps, h1, rfl⟩ := h
      obtain ⟨a, b⟩ := toPL_shape ih h1
      exact ⟨by simpa [PyData.canLay0], by simp only [PyData.depth]; omega⟩
    | ref k =>
      unfold toP at h
      simp only at h
      split at h
      · simp only [Option.map_eq_some_iff] at h
        obtain ⟨ps, h1, rfl⟩ := h
        obtain ⟨a, b⟩ := toPL_shape ih h1
        exact ⟨by simpa [PyData.canLay0], by simp only [PyData.depth]; omega⟩
      · cases h
    | scr ns => cases h
    | gl x => cases h
    | ty x => cases h
theorem toP_shaped {s : S} {d : D} {p : PyData} (h : toP s 60 d = some p) : SeqAt.shaped p = true := by
  obtain ⟨a, b⟩ := toP_shape 60 d p h
  show (p.canLay0 && decide (p.depth ≤ 64)) = true
  rw [a, decide_eq_true (by omega)]
  rfl

section
variable {K : PySem.W.Frag} {mg : Str → Option Value} {μ : List Addr} {H : Hp} {s : S}
theorem toPL_dp {f : D → Option PyData} (hf : ∀ d p v, f d = some p → Rep K mg μ H d v → Dp K H v p) : ∀ {ds : List D} {ps : List PyData} {vs : List V}, toPL f ds = some ps → RepL K mg μ H ds vs → DpAll K H vs ps
  | [], _, _, h, r => by cases h; cases r; exact .nil
  | d :: ds, ps, vs, h, r => by
    unfold toPL at h
    cases e1 : f d with
    | none => simp [e1] at h
    | some p =>
      cases e2 : toPL f ds with
      | none => simp [e1, e2] at h
      | some qs =>
        simp [e1, e2] at h
        subst h
        cases r with
        | cons r1 r2 => exact .cons (hf _ _ _ e1 r1) (toPL_dp hf e2 r2)
theorem toP_dp (M : Sim K mg μ H s) : ∀ (n : Nat) (d : D) (p : PyData) (v : V), toP s n d = some p → Rep K mg μ H d v → Dp K H v p
  | 0, _, _, _, h, _ => by cases h
  | n + 1, d, p, v, h, r => by
    have ih := toP_dp M n
    cases r with
    | non => cases h; exact .non
    | bl b => cases h; exact .bl b
    | int i => cases h; exact .int i
    | str x =>
      unfold toP at h
      simp only at h
      split at h
      · cases h
        exact .str x
      · cases h
    | tup hs hl =>
      unfold toP at h
      simp only [Option.map_eq_some_iff] at h
      obtain ⟨ps, h1, rfl⟩ := h
      exact .tup hs.t (toPL_dp ih h1 hl)
    | @ref k a hk =>
      unfold toP at h
      simp only at h
      split at h
      · rename_i xs hx
        simp only [Option.map_eq_some_iff] at h
        obtain ⟨ps, h1, rfl⟩ := h
        obtain ⟨vs, e, rl⟩ := M.obj _ _ _ hk hx
        exact .lst (SqL.of e) (toPL_dp ih h1 rl)
      · cases h
    | scr hs => cases h
    | gl x => cases h
    | ty x => cases h
end

/-! ### two values -/
def rD2 (K : PySem.W.Frag) (mg : Str → Option Value) (g : D → D → S → R D) : R2 := fun x y H Q => ∃ μ d e s, Sim K mg μ H s ∧ Rep K mg μ H d x ∧ Rep K mg μ H e y ∧ Ok K mg (Rep K mg) μ H (g d e s) Q
def okB (b : Bool) (s : S) : R D := .ok (.bl b) s
def eqD (d e : D) (s : S) : R D := match toP s 60 d, toP s 60 e with
  | some p, some q => okB (PyData.eqv p q) s
  | _, _ => .bad
def neD (d e : D) (s : S) : R D := match toP s 60 d, toP s 60 e with
  | some p, some q => okB (!PyData.eqv p q) s
  | _, _ => .bad
def inD (d e : D) (s : S) : R D := match toP s 60 d, toP s 60 e with
  | some p, some (.list qs) => okB (qs.any fun z => PyData.eqv z p) s
  | some p, some (.tuple qs) => okB (qs.any fun z => PyData.eqv z p) s
  | _, _ => .bad
def notInD (d e : D) (s : S) : R D := match toP s 60 d, toP s 60 e with
  | some p, some (.list qs) => okB (!qs.any fun z => PyData.eqv z p) s
  | some p, some (.tuple qs) => okB (!qs.any fun z => PyData.eqv z p) s
  | _, _ => .bad
def ltD (d e : D) (s : S) : R D := match d, e with
  | .int i, .int j => okB (decide (i < j)) s
  | _, _ => .bad
def leD (d e : D) (s : S) : R D := match d, e with
  | .int i, .int j => okB (decide (i ≤ j)) s
  | _, _ => .bad
def isD (d e : D) (s : S) : R D := match e with
  | .non => okB (decide (d = .non)) s
  | _ => .bad
def isNotD (d e : D) (s : S) : R D := match e with
  | .non => okB (!decide (d = .non)) s
  | _ => .bad
def cmpD : CmpOp → D → D → S → R D
  | .Eq => eqD
  | .NotEq => neD
  | .Lt => ltD
  | .LtE => leD
  | .Gt => fun d e => ltD e d
  | .GtE => fun d e => leD e d
  | .Is => isD
  | .IsNot => isNotD
  | .In => inD
  | .NotIn => notInD
/-- one side within 2^64 -/
def smallMul (i j : Int) : Bool := (decide (-18446744073709551616 < i) && decide (i < 18446744073709551616)) || (decide (-18446744073709551616 < j) && decide (j < 18446744073709551616))
def binD (op : Operator) (d e : D) (s : S) : R D := match op, d, e with
  | .Add, .int i, .int j => .ok (.int (i + j)) s
  | .Add, .tup a, .tup b => if a.length + b.length ≤ sizeLine then .ok (.tup (a ++ b)) s else .bad
  | .Add, .ref n, .ref m => match s[n]?, s[m]? with
    | some (.lst a), some (.lst b) => if a.length + b.length ≤ sizeLine then .ok (.ref s.length) (s ++ [.lst (a ++ b)]) else .bad
    | _, _ => .bad
  | .Sub, .int i, .int j => .ok (.int (i - j)) s
  | .Mult, .int i, .int j => if smallMul i j = true then .ok (.int (i * j)) s else .bad
  | .Mult, .tup a, .int k => if a ≠ [] ∧ 2 ≤ k ∧ k ≤ 1000 ∧ a.length ≤ 1000 then .ok (.tup (List.replicate k.toNat a).flatten) s else .bad
  | .Mult, .ref n, .int k => match s[n]? with
    | some (.lst a) => if -9223372036854775808 ≤ k ∧ k < 9223372036854775808 ∧ a.length * k.toNat ≤ sizeLine then .ok (.ref s.length) (s ++ [.lst (List.replicate k.toNat a).flatten]) else .bad
    | _ => .bad
  | .FloorDiv, .int i, .int j => if 0 < j ∧ j < 18446744073709551616 then .ok (.int (i / j)) s else .bad
  | .Mod, .int i, .int j => if 0 < j then .ok (.int (i % j)) s else .bad
  | .Pow, .int i, .int j => if 0 ≤ j ∧ j ≤ 1000000 ∧ i.natAbs < 18446744073709551616 then .ok (.int (i ^ j.toNat)) s else .bad
  | _, _, _ => .bad

section
variable {X : Cx}
theorem smallMul_ok {i j : Int} (h : smallMul i j = true) : CMul i j := by
  unfold smallMul at h
  simp only [Bool.or_eq_true, Bool.and_eq_true, decide_eq_true_eq] at h
  exact h
theorem cmp_ok (hu : X.A.units + 65 < cLine) : ∀ op : CmpOp, OpR X (compareOp op) (rD2 X.K X.mg (cmpD op)) := by
  have eqs : ∀ {μ H s d e x y} {Q : VK} {f : PyData → PyData → R D}, Sim X.K X.mg μ H s → Rep X.K X.mg μ H d x → Rep X.K X.mg μ H e y → Ok X.K X.mg (Rep X.K X.mg) μ H (match toP s 60 d, toP s 60 e with
      | some p, some q => f p q
      | _, _ => .bad) Q → ∃ p q, Dp X.K H x p ∧ Dp X.K H y q ∧ SeqAt.shaped p = true ∧ SeqAt.shaped q = true ∧ Ok X.K X.mg (Rep X.K X.mg) μ H (f p q) Q := by
    intro μ H s d e x y Q f M rd re h
    cases e1 : toP s 60 d with
    | none => rw [e1] at h; exact h.elim
    | some p =>
      cases e2 : toP s 60 e with
      | none => rw [e1, e2] at h; exact h.elim
      | some q =>
        rw [e1, e2] at h
        exact ⟨p, q, toP_dp M 60 _ _ _ e1 rd, toP_dp M 60 _ _ _ e2 re, toP_shaped e1, toP_shaped e2, h⟩
  intro op pins s σ H x y v u Q I rx ry ⟨μ, d, e, st, M, rd, re, h⟩
  cases op with
  | Eq =>
    obtain ⟨p, q, h1, h2, h3, h4, h⟩ := eqs M rd re h
    exact op_eqD (by omega) pins s σ H x y v u Q I rx ry ⟨p, q, h1, h2, h3, h4, h.here M (.bl _)⟩
  | NotEq =>
    obtain ⟨p, q, h1, h2, h3, h4, h⟩ := eqs M rd re h
    exact op_neD (by omega) pins s σ H x y v u Q I rx ry ⟨p, q, h1, h2, h3, h4, h.here M (.bl _)⟩
  | Lt => cases rd <;> first | exact (h : False).elim | (cases re <;> first | exact (h : False).elim | exact op_lt pins s σ H _ _ v u Q I rx ry ⟨_, _, rfl, rfl, h.here M (.bl _)⟩)
  | LtE => cases rd <;> first | exact (h : False).elim | (cases re <;> first | exact (h : False).elim | exact op_le pins s σ H _ _ v u Q I rx ry ⟨_, _, rfl, rfl, h.here M (.bl _)⟩)
  | Gt => cases re <;> first | exact (h : False).elim | (cases rd <;> first | exact (h : False).elim | exact op_gt pins s σ H _ _ v u Q I rx ry ⟨_, _, rfl, rfl, h.here M (.bl _)⟩)
  | GtE => cases re <;> first | exact (h : False).elim | (cases rd <;> first | exact (h : False).elim | exact op_ge pins s σ H _ _ v u Q I rx ry ⟨_, _, rfl, rfl, h.here M (.bl _)⟩)
  | Is =>
    cases re <;> first
      | exact (h : False).elim
      | exact op_isN pins s σ H _ _ v u Q I rx ry ⟨rfl, h.here M (by cases rd <;> exact .bl _)⟩
  | IsNot =>
    cases re <;> first
      | exact (h : False).elim
      | exact op_notN pins s σ H _ _ v u Q I rx ry ⟨rfl, h.here M (by cases rd <;> exact .bl _)⟩
  | In =>
    have h : Ok X.K X.mg (Rep X.K X.mg) μ H (inD d e st) Q := h
    unfold inD at h
    cases e1 : toP st 60 d with
    | none => rw [e1] at h; exact h.elim
    | some p =>
      cases e2 : toP st 60 e with
      | none => rw [e1, e2] at h; exact h.elim
      | some q =>
        rw [e1, e2] at h
        have h1 := toP_dp M 60 _ _ _ e1 rd
        have h2 := toP_dp M 60 _ _ _ e2 re
        have s1 := toP_shaped e1
        have s2 := toP_shaped e2
        cases q with
        | list qs => exact op_inD hu pins s σ H x y v u Q I rx ry ⟨p, qs, h1, h2, s1, s2, h.here M (.bl _)⟩
        | tuple qs =>
          have h' := h.here M (.bl _)
          obtain ⟨as, r1⟩ := Dp.reads I p x v h1 rx
          obtain ⟨bs, r2⟩ := Dp.reads I (.tuple qs) y u h2 ry
          exact SeqAt.in_tuple_reads r2 r1 (SeqAt.canLay_of_shaped s2) (SeqAt.canLay_of_shaped s1) (PyProof.Rows.room_in_shaped s1 hu) ⟨.bl _, H, I, rfl, h'⟩
        | _ => exact (h : False).elim
  | NotIn =>
    have h : Ok X.K X.mg (Rep X.K X.mg) μ H (notInD d e st) Q := h
    unfold notInD at h
    cases e1 : toP st 60 d with
    | none => rw [e1] at h; exact h.elim
    | some p =>
      cases e2 : toP st 60 e with
      | none => rw [e1, e2] at h; exact h.elim
      | some q =>
        rw [e1, e2] at h
        have h1 := toP_dp M 60 _ _ _ e1 rd
        have h2 := toP_dp M 60 _ _ _ e2 re
        have s1 := toP_shaped e1
        have s2 := toP_shaped e2
        cases q with
        | list qs => exact op_notInD hu pins s σ H x y v u Q I rx ry ⟨p, qs, h1, h2, s1, s2, h.here M (.bl _)⟩
        | tuple qs =>
          have h' := h.here M (.bl _)
          obtain ⟨as, r1⟩ := Dp.reads I p x v h1 rx
          obtain ⟨bs, r2⟩ := Dp.reads I (.tuple qs) y u h2 ry
          exact SeqAt.notIn_tuple_reads r2 r1 (SeqAt.canLay_of_shaped s2) (SeqAt.canLay_of_shaped s1) (PyProof.Rows.room_in_shaped s1 hu) ⟨.bl _, H, I, rfl, h'⟩
        | _ => exact (h : False).elim
theorem ok_if {α β : Type} {K : PySem.W.Frag} {mg : Str → Option Value} {Rp : List Addr → Hp → α → β → Prop} {μ : List Addr} {H : Hp} {c : Prop} [Decidable c] {r : R α} {Q : β → Hp → Prop} (h : Ok K mg Rp μ H (if c then r else .bad) Q) : c ∧ Ok K mg Rp μ H r Q := by
  by_cases k : c
  · rw [if_pos k] at h
    exact ⟨k, h⟩
  · rw [if_neg k] at h
    exact h.elim
/-- a new list becomes the store's -/
theorem ok_push {K : PySem.W.Frag} {mg : Str → Option Value} {μ : List Addr} {H : Hp} {st : S} {Q : VK} {xs : List D} {vs : List V} (h : Ok K mg (Rep K mg) μ H (.ok (.ref st.length) (st ++ [.lst xs])) Q) (M : Sim K mg μ H st) {p : Addr} (hp : H p = none) (r : RepL K mg μ H xs vs) :
    Q (.ref p) (upd H p (.lst vs)) := by
  refine h (μ ++ [p]) _ _ ((Ext.laid hp).push hp) ((M.laid hp).push (M.fresh hp) ⟨vs, upd_same, r.mono ⟨[p], rfl⟩ (sqt_new hp)⟩) (.ref ?_)
  rw [← M.len]
  simp
theorem bin_ok : ∀ op : Operator, OpR X (binaryOp op) (rD2 X.K X.mg (binD op)) := by
  intro op pins s σ H x y v u Q I rx ry ⟨μ, d, e, st, M, rd, re, h⟩
  cases op with
  | Add =>
    cases rd <;> first
      | exact (h : False).elim
      | (cases re <;> first
          | exact (h : False).elim
          | exact op_add pins s σ H _ _ v u Q I rx ry ⟨_, _, rfl, rfl, h.here M (.int _)⟩
          | (rename_i ha la b ws es hb lb
             obtain ⟨c, h⟩ := ok_if h
             rw [la.length, lb.length] at c
             refine op_catA pins s σ H _ _ v u Q I rx ry ⟨_, _, _, _, rfl, rfl, ha.t, hb.t, c, fun e => ?_, fun _ e => ?_, fun _ _ p hp => ?_⟩
             · subst e
               cases la
               exact h.here M (.tup hb lb)
             · subst e
               cases lb
               refine h.here M (.tup ha ?_)
               rw [List.append_nil]
               exact la
             · refine h _ _ _ (Ext.laid hp) (M.laid hp) (.tup upd_same ?_)
               exact (la.append lb).mono ⟨[], by simp⟩ (sqt_new hp))
          | (rename_i n a hn m b hm
             have h : Ok X.K X.mg (Rep X.K X.mg) μ H (match st[n]?, st[m]? with
               | some (.lst a), some (.lst b) => if a.length + b.length ≤ sizeLine then .ok (.ref st.length) (st ++ [.lst (a ++ b)]) else .bad
               | _, _ => .bad) Q := h
             split at h
             · rename_i xs ys hx hy
               obtain ⟨vs, g1, g2⟩ := M.obj _ _ _ hn hx
               obtain ⟨ws, k1, k2⟩ := M.obj _ _ _ hm hy
               obtain ⟨c, h⟩ := ok_if h
               rw [g2.length, k2.length] at c
               exact op_cat pins s σ H _ _ v u Q I rx ry ⟨_, _, _, _, rfl, rfl, g1, k1, c, fun p hp => ok_push h M hp (g2.append k2)⟩
             · exact h.elim))
  | Sub => cases rd <;> first | exact (h : False).elim | (cases re <;> first | exact (h : False).elim | exact op_sub pins s σ H _ _ v u Q I rx ry ⟨_, _, rfl, rfl, h.here M (.int _)⟩)
  | Mult =>
    cases rd <;> first
      | exact (h : False).elim
      | (cases re <;> first
          | exact (h : False).elim
          | (obtain ⟨c, h⟩ := ok_if h
             exact op_mul pins s σ H _ _ v u Q I rx ry ⟨_, _, rfl, rfl, smallMul_ok c, h.here M (.int _)⟩)
          | (rename_i ha la k
             obtain ⟨⟨c1, c2, c3, c4⟩, h⟩ := ok_if h
             rw [la.length] at c4
             refine op_repT pins s σ H _ _ v u Q I rx ry ⟨_, _, _, rfl, rfl, ha.t, fun e => ?_, c2, c3, c4, fun p hp => ?_⟩
             · subst e
               cases la
               exact c1 rfl
             · refine h _ _ _ (Ext.laid hp) (M.laid hp) (.tup upd_same ?_)
               exact (la.flat _).mono ⟨[], by simp⟩ (sqt_new hp))
          | (rename_i n a hn k
             have h : Ok X.K X.mg (Rep X.K X.mg) μ H (match st[n]? with
               | some (.lst a) => if -9223372036854775808 ≤ k ∧ k < 9223372036854775808 ∧ a.length * k.toNat ≤ sizeLine then .ok (.ref st.length) (st ++ [.lst (List.replicate k.toNat a).flatten]) else .bad
               | _ => .bad) Q := h
             split at h
             · rename_i xs hx
               obtain ⟨vs, g1, g2⟩ := M.obj _ _ _ hn hx
               obtain ⟨⟨c1, c2, c3⟩, h⟩ := ok_if h
               rw [g2.length] at c3
               exact op_rep pins s σ H _ _ v u Q I rx ry ⟨_, _, _, rfl, rfl, g1, c1, c2, c3, fun p hp => ok_push h M hp (g2.flat _)⟩
             · exact h.elim))
  | FloorDiv =>
    cases rd <;> first
      | exact (h : False).elim
      | (cases re <;> first
          | exact (h : False).elim
          | (obtain ⟨⟨c1, c2⟩, h⟩ := ok_if h
             exact op_fdivW pins s σ H _ _ v u Q I rx ry ⟨_, _, rfl, rfl, wide_div c1 (b := 64) (by omega) (by decide) (by decide), h.here M (.int _)⟩))
  | Mod =>
    cases rd <;> first
      | exact (h : False).elim
      | (cases re <;> first
          | exact (h : False).elim
          | (obtain ⟨c1, h⟩ := ok_if h
             exact op_mod pins s σ H _ _ v u Q I rx ry ⟨_, _, rfl, rfl, c1, h.here M (.int _)⟩))
  | Pow =>
    cases rd <;> first
      | exact (h : False).elim
      | (cases re <;> first
          | exact (h : False).elim
          | (obtain ⟨⟨c1, c2, c3⟩, h⟩ := ok_if h
             exact op_pow pins s σ H _ _ v u Q I rx ry ⟨_, _, rfl, rfl, ⟨c1, c2, c3⟩, h.here M (.int _)⟩))
  | _ => exact (h : False).elim
end
end Mini

set_option Elab.async false
set_option linter.all false
set_option maxRecDepth 100000
set_option maxHeartbeats 1000000
/-! Mini, part D: expressions. -/
namespace Mini
open PySem L2

section
variable {K : PySem.W.Frag} {mg : Str → Option Value} {μ μ' : List Addr} {H H' : Hp} {s s' : S} {σ : St} {env : Env} {α β γ : Type}
theorem Ext.free (E : Ext K μ H μ' H') (M : Sim K mg μ' H' s) {p : Addr} (h : H' p = none) : H p = none := by
  cases e : H p with
  | none => rfl
  | some o =>
    by_cases m : p ∈ μ
    · obtain ⟨u, hu⟩ := M.there (pre_mem E.pre m)
      rw [h] at hu
      cases hu
    · have := E.keep p o e m
      rw [h] at this
      cases this
theorem RepN.base (E : Ext K μ H μ' H') (M : Sim K mg μ' H' s) {μ2 : List Addr} {H2 : Hp} {ds : List D} {v : V} (h : RepN K mg H' μ2 H2 ds v) : RepN K mg H μ2 H2 ds v := by
  obtain ⟨a, vs, h1, h2, h3, h4, h5⟩ := h
  exact ⟨a, vs, h1, h2, E.free M h3, h4, h5⟩
end

/-! ### the pieces -/
def badM {α : Type} : M α := fun _ _ => .bad
def constM (d : D) : M D := fun _ s => .ok d s
def varM (i : Nat) : M D := fun env s => match env[i]? with
  | some (some d) => .ok d s
  | _ => .bad
def m1 {α β : Type} (a : M α) (f : α → S → R β) : M β := fun env s => (a env s).bind f
def m2 {α β γ : Type} (a : M α) (b : M β) (f : α → β → S → R γ) : M γ := fun env s => (a env s).bind fun x s1 => (b env s1).bind fun y s2 => f x y s2
def nilM : M (List D) := fun _ s => .ok [] s
def consM (a : M D) (as : M (List D)) : M (List D) := m2 a as fun d ds s => .ok (d :: ds) s
def boolD (d : D) (s : S) : R Bool := match d with
  | .bl b => .ok b s
  | _ => .bad
def asB (a : M D) : M Bool := m1 a boolD
def ofB (a : M Bool) : M D := m1 a okB
def iteM {α : Type} (c : M Bool) (a b : M α) : M α := fun env s => (c env s).bind fun k s1 => if k = true then a env s1 else b env s1
def notM (c : M Bool) : M Bool := m1 c fun k s => .ok (!k) s
def andM (a b : M Bool) : M Bool := fun env s => (a env s).bind fun k s1 => if k = true then b env s1 else .ok false s1
def orM (a b : M Bool) : M Bool := fun env s => (a env s).bind fun k s1 => if k = true then .ok true s1 else b env s1
def tupM (as : M (List D)) : M D := m1 as fun ds s => .ok (.tup ds) s
def newM (l : M (List D)) : M D := m1 l fun ds s => .ok (.ref s.length) (s ++ [.lst ds])
def seqD (d : D) (s : S) : R (List D) := match d with
  | .tup ds => .ok ds s
  | .scr ns => .ok (ns.map D.int) s
  | .ref n => match s[n]? with
    | some (.lst xs) => .ok xs s
    | _ => .bad
  | _ => .bad
def seqM (a : M D) : M (List D) := m1 a seqD
def chainM (f g : D → D → S → R D) (a b c : M D) : M D := fun env s => (a env s).bind fun x s1 => (b env s1).bind fun y s2 => (f x y s2).bind fun z s3 => (boolD z s3).bind fun k s4 =>
  if k = true then (c env s4).bind fun w s5 => g y w s5 else .ok (.bl false) s4
def negD (d : D) (s : S) : R D := match d with
  | .int i => .ok (.int (-i)) s
  | _ => .bad
def ixD (d e : D) (s : S) : R D := match e with
  | .int i => (seqD d s).bind fun ds s1 => match atI ds i with
    | some x => .ok x s1
    | none => .bad
  | _ => .bad

section
variable {X : Cx} {pos : Pos}
theorem r_const_int {i j} : PE X (.Constant (.int i) j pos) (TDe X.K X.mg (constM (.int i))) := PEw pe_int fun σ H Q ⟨μ, env, s, N, h⟩ => h.here N.sim (.int i)
theorem r_const_bl {b j} : PE X (.Constant (.bool b) j pos) (TDe X.K X.mg (constM (.bl b))) := PEw pe_bl fun σ H Q ⟨μ, env, s, N, h⟩ => h.here N.sim (.bl b)
theorem r_const_non {j} : PE X (.Constant .none j pos) (TDe X.K X.mg (constM .non)) := PEw pe_non fun σ H Q ⟨μ, env, s, N, h⟩ => h.here N.sim .non
theorem r_const_str {x j} : PE X (.Constant (.str x) j pos) (TDe X.K X.mg (constM (.str x))) := PEw pe_str fun σ H Q ⟨μ, env, s, N, h⟩ => h.here N.sim (.str x)
theorem r_var {i : Nat} {x : Str} (hN : X.N[i]? = some x) (hv : Vis X.env.scope x) (hd : (x == ("__debug__" : Str)) = false) (hcd : (x == ("__classdict__" : Str)) = false) : PE X (.Name x pos) (TDe X.K X.mg (varM i)) :=
  PEw (pe_var hN hv hd hcd) fun σ H Q ⟨μ, env, s, N, h⟩ => by
    unfold varM at h
    split at h
    · rename_i d e
      obtain ⟨v, h1, r⟩ := N.er.get i d e
      exact ⟨v, h1, h.here N.sim r⟩
    · exact h.elim
theorem r_glob {x : Str} {a : Addr} (hg : Gl X x) (hm : X.mg x = some (.ref a)) (hd : (x == ("__debug__" : Str)) = false) : PE X (.Name x pos) (TDe X.K X.mg (constM (.gl x))) :=
  PEw (pe_glob (v := .ref a) hg hm rfl hd) fun σ H Q ⟨μ, env, s, N, h⟩ => h.here N.sim (.gl hm)
theorem r_gint {x : Str} {i : Int} {t : Tok} (hg : Gl X x) (hm : X.mg x = some (.int i t)) (hd : (x == ("__debug__" : Str)) = false) : PE X (.Name x pos) (TDe X.K X.mg (constM (.int i))) :=
  PEw (pe_glob (v := .int i) hg hm ⟨t, rfl⟩ hd) fun σ H Q ⟨μ, env, s, N, h⟩ => h.here N.sim (.int i)
theorem r_ty {x : Str} {n : String} (hg : Gl X x) (hm : X.mg x = none) (hv : bootBuiltins x = some (.type n)) (hn : x ≠ "__name__") (hd : (x == ("__debug__" : Str)) = false) : PE X (.Name x pos) (TDe X.K X.mg (constM (.ty n))) :=
  PEw (pe_bltn (v := .ty n) hg hm hv rfl hn hd) fun σ H Q ⟨μ, env, s, N, h⟩ => h.here N.sim (.ty n)

variable {a b c : Expr} {ma mb mc : M D}
/-- two parts and what comes of them -/
theorem run2 {α β : Type} {Rp : List Addr → Hp → α → β → Prop} {f : D → D → S → R α} {σ : St} {H : Hp} {Q : β → Hp → Prop} {K : PySem.W.Frag} {mg : Str → Option Value}
    (h : ∃ μ env s, Now K mg μ H σ env s ∧ Ok K mg Rp μ H (m2 ma mb f env s) Q) :
    TDe K mg ma σ H fun x H1 => TDe K mg mb σ H1 fun y H2 => ∃ μ d e s, Sim K mg μ H2 s ∧ Rep K mg μ H2 d x ∧ Rep K mg μ H2 e y ∧ Ok K mg Rp μ H2 (f d e s) Q := by
  obtain ⟨μ, env, s, N, h⟩ := h
  obtain ⟨d, s1, e1, h⟩ := Ok.bind h
  obtain ⟨e, s2, e2, h⟩ := Ok.bind h
  refine ⟨μ, env, s, N, Ok.thn e1 fun μ1 H1 x E1 M1 r1 => ?_⟩
  refine ⟨μ1, env, s1, N.step E1 M1, Ok.thn e2 fun μ2 H2 y E2 M2 r2 => ?_⟩
  exact ⟨μ2, d, e, s2, M2, r1.ext E2, r2, h.base (E1.trans E2)⟩
theorem r_bin {op : Operator} (ha : PE X a (TDe X.K X.mg ma)) (hb : PE X b (TDe X.K X.mg mb)) : PE X (.BinOp a op b pos) (TDe X.K X.mg (m2 ma mb (binD op))) :=
  PEw (pe_op (bin_ok op) ha hb) fun σ H Q h => run2 h
theorem r_cmp {op : CmpOp} (hu : X.A.units + 65 < cLine) (ha : PE X a (TDe X.K X.mg ma)) (hb : PE X b (TDe X.K X.mg mb)) (hm : behindInMarks op b = false) : PE X (.Compare a [op] [b] pos) (TDe X.K X.mg (m2 ma mb (cmpD op))) :=
  PEw (pe_cmpR (cmp_ok hu op) ha hb hm) fun σ H Q h => run2 h
theorem cmpD_bool {op : CmpOp} {d e : D} {s : S} {z : D} {s' : S} (h : cmpD op d e s = .ok z s') : ∃ k, z = .bl k ∧ s' = s := by
  have one : ∀ {b : Bool}, okB b s = .ok z s' → ∃ k, z = .bl k ∧ s' = s := fun {b} h => by cases h; exact ⟨b, rfl, rfl⟩
  cases op <;> simp only [cmpD, eqD, neD, inD, notInD, ltD, leD, isD, isNotD] at h <;> (first | exact one h | (split at h <;> first | exact one h | cases h))
theorem r_cmpT {op : CmpOp} (hu : X.A.units + 65 < cLine) (ha : PE X a (TDe X.K X.mg ma)) (hb : PE X b (TDe X.K X.mg mb)) (hm : behindInMarks op b = false) : PT X (.Compare a [op] [b] pos) (TDt X.K X.mg (asB (m2 ma mb (cmpD op)))) :=
  PTw (pt_cmpR (cmp_ok hu op) ha hb hm) fun σ H Q ⟨μ, env, s, N, h⟩ => by
    refine run2 (Rp := Rep X.K X.mg) (Q := fun x H' => ∃ k, x = .bl k ∧ Q k H') ⟨μ, env, s, N, ?_⟩
    obtain ⟨z, s1, e1, h⟩ := Ok.bind h
    rw [e1]
    intro μ' H' v E M r
    cases z <;> first
      | exact (h : False).elim
      | (cases r
         exact ⟨_, rfl, h μ' H' _ E M rfl⟩)
/-- a < b < c -/
theorem run3 {f g : D → D → S → R D} (hf : ∀ d e s z s', f d e s = .ok z s' → ∃ k, z = .bl k ∧ s' = s) {σ : St} {H : Hp} {Q : VK} {K : PySem.W.Frag} {mg : Str → Option Value} (h : TDe K mg (chainM f g ma mb mc) σ H Q) :
    tChain (rD2 K mg f) (rD2 K mg g) (TDe K mg ma) (TDe K mg mb) (TDe K mg mc) σ H Q := by
  obtain ⟨μ, env, s, N, h⟩ := h
  obtain ⟨d, s1, e1, h⟩ := Ok.bind h
  obtain ⟨e, s2, e2, h⟩ := Ok.bind h
  obtain ⟨z, s3, e3, h⟩ := Ok.bind h
  refine ⟨μ, env, s, N, Ok.thn e1 fun μ1 H1 x E1 M1 r1 => ?_⟩
  refine ⟨μ1, env, s1, N.step E1 M1, Ok.thn e2 fun μ2 H2 y E2 M2 r2 => ?_⟩
  refine ⟨μ2, d, e, s2, M2, r1.ext E2, r2, Ok.thn e3 fun μ3 H3 v E3 M3 r3 => ?_⟩
  obtain ⟨k, rfl, rfl⟩ := hf _ _ _ _ _ e3
  have E13 := (E1.trans E2).trans E3
  cases r3
  refine ⟨k, rfl, ?_⟩
  cases k with
  | false => exact h _ _ _ E13 M3 (.bl false)
  | true =>
    obtain ⟨w, s5, e5, h⟩ := Ok.bind (r := mc env s3) (k := fun w s5 => g e w s5) h
    refine ⟨μ3, env, s3, N.step E13 M3, Ok.thn e5 fun μ5 H5 y' E5 M5 r5 => ?_⟩
    exact ⟨μ5, e, w, s5, M5, (r2.ext E3).ext E5, r5, h.base (E13.trans E5)⟩
theorem r_chain {op op' : CmpOp} (hu : X.A.units + 65 < cLine) (ha : PE X a (TDe X.K X.mg ma)) (hb : PE X b (TDe X.K X.mg mb)) (hc : PE X c (TDe X.K X.mg mc)) (hm : lastMarks [op, op'] [b, c] = false) :
    PE X (.Compare a [op, op'] [b, c] pos) (TDe X.K X.mg (chainM (cmpD op) (cmpD op') ma mb mc)) :=
  PEw (pe_chain (cmp_ok hu op) (cmp_ok hu op') ha hb hc hm) fun σ H Q h => run3 (fun _ _ _ _ _ e => cmpD_bool e) h
/-- the end of a test made of a value -/
theorem test_of {m : M D} {K : PySem.W.Frag} {mg : Str → Option Value} {σ : St} {H : Hp} {Q : Bool → Hp → Prop} (h : TDt K mg (asB m) σ H Q) : TDe K mg m σ H fun x H1 => ∃ k, x = .bl k ∧ Q k H1 := by
  obtain ⟨μ, env, s, N, h⟩ := h
  obtain ⟨z, s1, e1, h⟩ := Ok.bind h
  refine ⟨μ, env, s, N, Ok.thn e1 fun μ' H' v E M r => ?_⟩
  cases z <;> first
    | exact (h : False).elim
    | (cases r
       exact ⟨_, rfl, h μ' H' _ E M rfl⟩)
theorem r_chainT {op op' : CmpOp} (hu : X.A.units + 65 < cLine) (ha : PE X a (TDe X.K X.mg ma)) (hb : PE X b (TDe X.K X.mg mb)) (hc : PE X c (TDe X.K X.mg mc)) (hm : lastMarks [op, op'] [b, c] = false) :
    PT X (.Compare a [op, op'] [b, c] pos) (TDt X.K X.mg (asB (chainM (cmpD op) (cmpD op') ma mb mc))) :=
  PTw (pt_chain (cmp_ok hu op) (cmp_ok hu op') ha hb hc hm) fun σ H Q h => run3 (fun _ _ _ _ _ e => cmpD_bool e) (test_of h)
theorem r_valT (ha : PE X a (TDe X.K X.mg ma)) (he : ∀ whole, isTrue a X.env whole = (do let v ← whole; standAt a.pos; holding [v] (truthy v))) : PT X a (TDt X.K X.mg (asB ma)) :=
  PTw (pt_val ha he) fun σ H Q h => test_of h
theorem run_ofB {m : M Bool} {K : PySem.W.Frag} {mg : Str → Option Value} {σ : St} {H : Hp} {Q : VK} (h : TDe K mg (ofB m) σ H Q) : TDt K mg m σ H fun k H1 => Q (.bl k) H1 := by
  obtain ⟨μ, env, s, N, h⟩ := h
  obtain ⟨z, s1, e1, h⟩ := Ok.bind h
  refine ⟨μ, env, s, N, Ok.thn e1 fun μ' H' v E M r => ?_⟩
  subst r
  exact h μ' H' _ E M (.bl _)

/-! tests -/
variable {ta tb tc : M Bool} {rest : List Expr}
theorem r_notT (ha : PT X a (TDt X.K X.mg ta)) : PT X (.UnaryOp .Not a pos) (TDt X.K X.mg (notM ta)) :=
  PTw (pt_not ha) fun σ H Q ⟨μ, env, s, N, h⟩ => by
    obtain ⟨z, s1, e1, h⟩ := Ok.bind h
    refine ⟨μ, env, s, N, Ok.thn e1 fun μ' H' v E M r => ?_⟩
    subst r
    exact h μ' H' _ E M rfl
theorem r_andW (ha : PT X a (TDt X.K X.mg ta)) (hb : PW X (.BoolOp .And (b :: rest) pos) (TDt X.K X.mg tb)) : PW X (.BoolOp .And (a :: b :: rest) pos) (TDt X.K X.mg (andM ta tb)) :=
  PWw (pw_and ha hb) fun σ H Q ⟨μ, env, s, N, h⟩ => by
    obtain ⟨z, s1, e1, h⟩ := Ok.bind h
    refine ⟨μ, env, s, N, Ok.thn e1 fun μ' H' v E M r => ?_⟩
    subst r
    cases z with
    | true => exact ⟨μ', env, s1, N.step E M, h.base E⟩
    | false => exact h μ' H' _ E M rfl
theorem r_orW (ha : PT X a (TDt X.K X.mg ta)) (hb : PW X (.BoolOp .Or (b :: rest) pos) (TDt X.K X.mg tb)) : PW X (.BoolOp .Or (a :: b :: rest) pos) (TDt X.K X.mg (orM ta tb)) :=
  PWw (pw_or ha hb) fun σ H Q ⟨μ, env, s, N, h⟩ => by
    obtain ⟨z, s1, e1, h⟩ := Ok.bind h
    refine ⟨μ, env, s, N, Ok.thn e1 fun μ' H' v E M r => ?_⟩
    subst r
    cases z with
    | false => exact ⟨μ', env, s1, N.step E M, h.base E⟩
    | true => exact h μ' H' _ E M rfl
theorem r_ifT (hc : PT X c (TDt X.K X.mg tc)) (ha : PE X a (TDe X.K X.mg ma)) (hb : PE X b (TDe X.K X.mg mb)) : PE X (.IfExp c a b pos) (TDe X.K X.mg (iteM tc ma mb)) :=
  PEw (pe_ifExp hc ha hb) fun σ H Q ⟨μ, env, s, N, h⟩ => by
    obtain ⟨z, s1, e1, h⟩ := Ok.bind h
    refine ⟨μ, env, s, N, Ok.thn e1 fun μ' H' v E M r => ?_⟩
    subst r
    cases z with
    | true => exact ⟨μ', env, s1, N.step E M, h.base E⟩
    | false => exact ⟨μ', env, s1, N.step E M, h.base E⟩
/-! and, or, not as values (of bools) -/
theorem r_notV (ha : PE X a (TDe X.K X.mg ma)) : PE X (.UnaryOp .Not a pos) (TDe X.K X.mg (ofB (notM (asB ma)))) :=
  PEw (pe_not ha) fun σ H Q ⟨μ, env, s, N, h⟩ => by
    obtain ⟨k, s2, e2, h⟩ := Ok.bind h
    have e2 : (asB ma env s).bind (fun k s => R.ok (!k) s) = .ok k s2 := e2
    cases em : ma env s with
    | bad => simp [asB, m1, em, R.bind] at e2
    | ok z s1 =>
      refine ⟨μ, env, s, N, Ok.thn em fun μ' H' v E M r => ?_⟩
      cases z <;> simp [asB, m1, em, R.bind, boolD] at e2
      obtain ⟨rfl, rfl⟩ := e2
      cases r
      refine ⟨_, rfl, ?_⟩
      first
        | exact h μ' H' _ E M (.bl _)
        | (rw [Bool.not_not]; exact h μ' H' _ E M (.bl _))
theorem r_andV (ha : PE X a (TDe X.K X.mg ma)) (hb : PE X (.BoolOp .And (b :: rest) pos) (TDe X.K X.mg mb)) : PE X (.BoolOp .And (a :: b :: rest) pos) (TDe X.K X.mg (iteM (asB ma) mb (constM (.bl false)))) :=
  PEw (pe_and ha hb) fun σ H Q ⟨μ, env, s, N, h⟩ => by
    obtain ⟨k, s2, e2, h⟩ := Ok.bind h
    cases em : ma env s with
    | bad => simp [asB, m1, em, R.bind] at e2
    | ok z s1 =>
      refine ⟨μ, env, s, N, Ok.thn em fun μ' H' v E M r => ?_⟩
      cases z <;> simp [asB, m1, em, R.bind, boolD] at e2
      obtain ⟨rfl, rfl⟩ := e2
      cases r
      refine ⟨_, rfl, ?_⟩
      rename_i k
      cases k with
      | true => exact ⟨μ', env, s1, N.step E M, h.base E⟩
      | false => exact h μ' H' _ E M (.bl _)
theorem r_orV (ha : PE X a (TDe X.K X.mg ma)) (hb : PE X (.BoolOp .Or (b :: rest) pos) (TDe X.K X.mg mb)) : PE X (.BoolOp .Or (a :: b :: rest) pos) (TDe X.K X.mg (iteM (asB ma) (constM (.bl true)) mb)) :=
  PEw (pe_or ha hb) fun σ H Q ⟨μ, env, s, N, h⟩ => by
    obtain ⟨k, s2, e2, h⟩ := Ok.bind h
    cases em : ma env s with
    | bad => simp [asB, m1, em, R.bind] at e2
    | ok z s1 =>
      refine ⟨μ, env, s, N, Ok.thn em fun μ' H' v E M r => ?_⟩
      cases z <;> simp [asB, m1, em, R.bind, boolD] at e2
      obtain ⟨rfl, rfl⟩ := e2
      cases r
      refine ⟨_, rfl, ?_⟩
      rename_i k
      cases k with
      | false => exact ⟨μ', env, s1, N.step E M, h.base E⟩
      | true => exact h μ' H' _ E M (.bl _)

/-! several values -/
variable {e : Expr} {es : List Expr} {mas : M (List D)}
theorem starEach_plain {env : PySem.Env} (h : ∀ x p, e ≠ .Starred x p) : starEach (e :: es) env = (false, eval e env) :: starEach es env := by
  cases e <;> first | rfl | exact absurd rfl (h _ _)
theorem r_nil : PA X [] (TDa X.K X.mg nilM) := PAw pa_nil fun σ H Q ⟨μ, env, s, N, h⟩ => h.here N.sim .nil
theorem r_cons (ha : PE X e (TDe X.K X.mg ma)) (hr : PA X es (TDa X.K X.mg mas)) (hs : ∀ x p, e ≠ .Starred x p) : PA X (e :: es) (TDa X.K X.mg (consM ma mas)) :=
  PAw (pa_cons ha hr (starEach_plain hs)) fun σ H Q ⟨μ, env, s, N, h⟩ => by
    obtain ⟨d, s1, e1, h⟩ := Ok.bind h
    obtain ⟨ds, s2, e2, h⟩ := Ok.bind h
    refine ⟨μ, env, s, N, Ok.thn e1 fun μ1 H1 x E1 M1 r1 => ?_⟩
    refine ⟨μ1, env, s1, N.step E1 M1, Ok.thn e2 fun μ2 H2 y E2 M2 r2 => ?_⟩
    exact h μ2 H2 _ (E1.trans E2) M2 (.cons (r1.ext E2) r2)
theorem argsM_len {α : Type} {K : PySem.W.Frag} {mg : Str → Option Value} {ds : List D} {vs : List V} {μ : List Addr} {H : Hp} (r : RepL K mg μ H ds vs) : vs.length = ds.length := r.length.symm
theorem r_tup {k : Nat} (h : PA X es (TDa X.K X.mg mas)) (hl : ∀ env s ds s', mas env s = .ok ds s' → ds.length ≤ sizeLine) : PE X (.Tuple es k pos) (TDe X.K X.mg (tupM mas)) :=
  PEw (pe_tup h) fun σ H Q ⟨μ, env, s, N, h⟩ => by
    obtain ⟨ds, s1, e1, h⟩ := Ok.bind h
    refine ⟨μ, env, s, N, Ok.thn e1 fun μ1 H1 x E1 M1 r1 => ⟨by rw [← r1.length]; exact hl _ _ _ _ e1, fun p hp => ?_⟩⟩
    refine h μ1 _ _ (E1.trans (Ext.laid hp)) (M1.laid hp) (.tup upd_same (r1.mono ⟨[], by simp⟩ (sqt_new hp)))
/-- a new list written out -/
theorem r_lst (h : PA X es (TDa X.K X.mg mas)) (hl : ∀ env s ds s', mas env s = .ok ds s' → ds.length ≤ sizeLine) : PE X (.List es pos) (TDl X.K X.mg mas) :=
  PEw (pe_lst h) fun σ H Q ⟨μ, env, s, N, h⟩ => by
    refine ⟨μ, env, s, N, ?_⟩
    cases e1 : mas env s with
    | bad => rw [e1] at h; exact h.elim
    | ok ds s1 =>
      rw [e1] at h
      intro μ1 H1 x E1 M1 r1
      refine ⟨by rw [← r1.length]; exact hl _ _ _ _ e1, fun p hp => ?_⟩
      refine h μ1 _ _ (E1.trans (Ext.laid hp)) (M1.laid hp) ⟨p, x, rfl, upd_same, E1.free M1 hp, M1.fresh hp, r1.mono ⟨[], by simp⟩ (sqt_new hp)⟩
/-- a new list becomes the store's -/
theorem r_new {ml : M (List D)} (h : PE X e (TDl X.K X.mg ml)) : PE X e (TDe X.K X.mg (newM ml)) :=
  PEw h fun σ H Q ⟨μ, env, s, N, h⟩ => by
    obtain ⟨ds, s1, e1, h⟩ := Ok.bind h
    refine ⟨μ, env, s, N, Ok.thn e1 fun μ1 H1 x E1 M1 ⟨a, vs, h1, h2, h3, h4, h5⟩ => ?_⟩
    subst h1
    have r5 := h5.mono (μ' := μ1 ++ [a]) ⟨[a], rfl⟩ fun _ _ _ h => h
    refine h (μ1 ++ [a]) H1 (.ref a) (E1.push h3) (M1.push h4 ⟨vs, h2, r5⟩) (.ref ?_)
    rw [← M1.len]
    simp
theorem r_seqL {ml : M (List D)} (h : PE X e (TDl X.K X.mg ml)) : PE X e (TDq X.K X.mg ml) :=
  PEw h fun σ H Q ⟨μ, env, s, N, h⟩ => ⟨μ, env, s, N, h.imp (fun μ' H' ds v ⟨a, vs, h1, h2, h3, h4, h5⟩ => ⟨a, vs, h1, .inl (SqL.of h2), h5⟩) fun _ _ h => h⟩
theorem scr_rep {K : PySem.W.Frag} {mg : Str → Option Value} {μ : List Addr} {H : Hp} : ∀ ns : List Int, RepL K mg μ H (ns.map D.int) (ns.map V.int)
  | [] => .nil
  | i :: ns => .cons (.int i) (scr_rep ns)
theorem seqD_rep {K : PySem.W.Frag} {mg : Str → Option Value} {μ : List Addr} {H : Hp} {s s1 : S} {d : D} {v : V} {ds : List D} (M : Sim K mg μ H s) (r : Rep K mg μ H d v) (h : seqD d s = .ok ds s1) : s1 = s ∧ RepQ K mg μ H ds v := by
  cases r with
  | tup hs hl => cases h; exact ⟨rfl, _, _, rfl, .inr hs, hl⟩
  | scr hs => cases h; exact ⟨rfl, _, _, rfl, .inl hs.sq, scr_rep _⟩
  | @ref n a hn =>
    unfold seqD at h
    simp only at h
    split at h
    · rename_i xs hx
      cases h
      obtain ⟨vs, h1, h2⟩ := M.obj _ _ _ hn hx
      exact ⟨rfl, a, vs, rfl, .inl (SqL.of h1), h2⟩
    · cases h
  | _ => cases h
theorem r_seq (h : PE X e (TDe X.K X.mg ma)) : PE X e (TDq X.K X.mg (seqM ma)) :=
  PEw h fun σ H Q ⟨μ, env, s, N, h⟩ => by
    obtain ⟨d, s1, e1, h⟩ := Ok.bind h
    refine ⟨μ, env, s, N, Ok.thn e1 fun μ1 H1 x E1 M1 r1 => ?_⟩
    cases e2 : seqD d s1 with
    | bad => rw [e2] at h; exact h.elim
    | ok ds s2 =>
      rw [e2] at h
      obtain ⟨rfl, q⟩ := seqD_rep M1 r1 e2
      exact h μ1 H1 x E1 M1 q
end
end Mini

set_option Elab.async false
set_option linter.all false
set_option maxRecDepth 100000
set_option maxHeartbeats 1000000
/-! Mini, part E: subscripts, attributes, built-in functions. -/
namespace Mini
open PySem L2

/-! ### the pieces -/
def oNone : M (Option Int) := fun _ s => .ok none s
def oSome (a : M D) : M (Option Int) := m1 a fun d s => match d with
  | .int i => .ok (some i) s
  | _ => .bad
def cutD (ds : List D) (lo hi : Option Int) : List D := (ds.drop (HT.sIx ds.length 0 lo)).take (HT.sIx ds.length ds.length hi - HT.sIx ds.length 0 lo)
def m3 {α β γ δ : Type} (a : M α) (b : M β) (c : M γ) (f : α → β → γ → S → R δ) : M δ := fun env s => (a env s).bind fun x s1 => (b env s1).bind fun y s2 => (c env s2).bind fun z s3 => f x y z s3
/-- a slice as a value -/
def slD (d : D) (lo hi : Option Int) (s : S) : R D := match d with
  | .tup ds => .ok (.tup (cutD ds lo hi)) s
  | .scr ns => .ok (.ref s.length) (s ++ [.lst (cutD (ns.map D.int) lo hi)])
  | .ref n => match s[n]? with
    | some (.lst xs) => .ok (.ref s.length) (s ++ [.lst (cutD xs lo hi)])
    | _ => .bad
  | _ => .bad
/-- a slice's items -/
def slQ (d : D) (lo hi : Option Int) (s : S) : R (List D) := (seqD d s).bind fun ds s => .ok (cutD ds lo hi) s
def fldD (ok : Str → Bool) (f : Str) (d : D) (s : S) : R D := match d with
  | .ref n => match s[n]? with
    | some (.ins C fs) => match ok C, fs.lookup f with
      | true, some v => .ok v s
      | _, _ => .bad
    | _ => .bad
  | _ => .bad
def lenQ (ds : List D) (s : S) : R D := .ok (.int ds.length) s
def boolsD : List D → Option (List Bool)
  | [] => some []
  | .bl b :: ds => (boolsD ds).map (b :: ·)
  | _ => none
def intsD : List D → Option (List Int)
  | [] => some []
  | .int b :: ds => (intsD ds).map (b :: ·)
  | _ => none
def allQ (ds : List D) (s : S) : R D := match boolsD ds with
  | some bs => okB (bs.all id) s
  | none => .bad
def anyQ (ds : List D) (s : S) : R D := match boolsD ds with
  | some bs => okB (bs.any id) s
  | none => .bad
def sumQ (ds : List D) (s : S) : R D := match intsD ds with
  | some ns => .ok (.int ns.sum) s
  | none => .bad
def minI : List Int → Int
  | [] => 0
  | [a] => a
  | a :: r => min a (minI r)
def maxI : List Int → Int
  | [] => 0
  | [a] => a
  | a :: r => max a (maxI r)
def minQ (ds : List D) (s : S) : R D := match intsD ds with
  | some ns => if 0 < ns.length then .ok (.int (minI ns)) s else .bad
  | none => .bad
def maxQ (ds : List D) (s : S) : R D := match intsD ds with
  | some ns => if 0 < ns.length then .ok (.int (maxI ns)) s else .bad
  | none => .bad
def tupQ (ds : List D) (s : S) : R D := .ok (.tup ds) s
def intD (d : D) (s : S) : R D := match d with
  | .int i => .ok (.int i) s
  | .bl b => .ok (.int (if b then 1 else 0)) s
  | _ => .bad
def absD (d : D) (s : S) : R D := match d with
  | .int i => .ok (.int (if i < 0 then -i else i)) s
  | _ => .bad
def min2D (d e : D) (s : S) : R D := match d, e with
  | .int i, .int j => .ok (.int (if j < i then j else i)) s
  | _, _ => .bad
def max2D (d e : D) (s : S) : R D := match d, e with
  | .int i, .int j => .ok (.int (if j > i then j else i)) s
  | _, _ => .bad
def rgD (a b : Int) : List D := (List.range (b - a).toNat).map fun i => .int (a + (i : Nat))
def rgOk (a b : Int) : Bool := decide (-4611686018427387904 ≤ a) && decide (a < 4611686018427387904) && decide (-4611686018427387904 ≤ b) && decide (b < 4611686018427387904) && decide ((b - a).toNat ≤ 16777216)
def rg1 (a : M D) : M (List D) := m1 a fun d s => match d with
  | .int n => if rgOk 0 n = true then .ok (rgD 0 n) s else .bad
  | _ => .bad
def rg2 (a b : M D) : M (List D) := m2 a b fun d e s => match d, e with
  | .int i, .int j => if rgOk i j = true then .ok (rgD i j) s else .bad
  | _, _ => .bad
/-- the built-in type of a value -/
def tyD (d : D) (s : S) : Option String := match d with
  | .non => some "NoneType"
  | .bl _ => some "bool"
  | .int _ => some "int"
  | .str _ => some "str"
  | .tup _ => some "tuple"
  | .ref n => match s[n]? with
    | some (.lst _) => some "list"
    | _ => none
  | _ => none
def isiB (a b : String) : Option Bool := match a, b with
  | "NoneType", "int" | "NoneType", "bool" | "NoneType", "str" | "NoneType", "tuple" | "NoneType", "list" | "NoneType", "dict" => some false
  | "bool", "int" | "bool", "bool" => some true
  | "bool", "str" | "bool", "tuple" | "bool", "list" | "bool", "dict" => some false
  | "int", "int" => some true
  | "int", "bool" | "int", "str" | "int", "tuple" | "int", "list" | "int", "dict" => some false
  | "str", "str" => some true
  | "str", "int" | "str", "bool" | "str", "tuple" | "str", "list" | "str", "dict" => some false
  | "tuple", "tuple" => some true
  | "tuple", "int" | "tuple", "bool" | "tuple", "str" | "tuple", "list" | "tuple", "dict" => some false
  | "list", "list" => some true
  | "list", "int" | "list", "bool" | "list", "str" | "list", "tuple" | "list", "dict" => some false
  | _, _ => none
def isiD (d c : D) (s : S) : R D := match c with
  | .ty n => match tyD d s with
    | some t => match isiB t n with
      | some b => okB b s
      | none => .bad
    | none => .bad
  | _ => .bad

theorem isiB_ok {a b : String} {r : Bool} (h : isiB a b = some r) : kitB a b = some r := by
  unfold isiB at h
  split at h <;> first
    | (cases h; decide +kernel)
    | cases h

section
variable {K : PySem.W.Frag} {mg : Str → Option Value} {μ : List Addr} {H : Hp} {s : S}
theorem atI_rep {ds : List D} {vs : List V} (r : RepL K mg μ H ds vs) {i : Int} {d : D} (h : atI ds i = some d) : ∃ v, atI vs i = some v ∧ Rep K mg μ H d v := by
  unfold atI at h ⊢
  rw [← r.length]
  cases e : ixN ds.length i with
  | none => rw [e] at h; cases h
  | some j =>
    rw [e] at h
    obtain ⟨v, h1, h2⟩ := r.get (i := j) (d := d) h
    exact ⟨v, h1, h2⟩
theorem cut_rep {ds : List D} {vs : List V} (r : RepL K mg μ H ds vs) (lo hi : Option Int) : RepL K mg μ H (cutD ds lo hi) (cutV vs lo hi) := by
  unfold cutD cutV
  rw [← r.length]
  exact (r.drop _).take _
theorem bools_rep {ds : List D} {vs : List V} {bs : List Bool} (r : RepL K mg μ H ds vs) (h : boolsD ds = some bs) : vs = bs.map V.bl := by
  induction ds generalizing vs bs with
  | nil => cases h; cases r; rfl
  | cons d ds ih =>
    cases r with
    | cons r1 r2 =>
      cases r1 <;> simp only [boolsD, Option.map_eq_some_iff] at h <;> first
        | (obtain ⟨cs, h1, rfl⟩ := h
           rw [ih r2 h1]
           rfl)
        | cases h
theorem ints_rep {ds : List D} {vs : List V} {bs : List Int} (r : RepL K mg μ H ds vs) (h : intsD ds = some bs) : vs = bs.map V.int := by
  induction ds generalizing vs bs with
  | nil => cases h; cases r; rfl
  | cons d ds ih =>
    cases r with
    | cons r1 r2 =>
      cases r1 <;> simp only [intsD, Option.map_eq_some_iff] at h <;> first
        | (obtain ⟨cs, h1, rfl⟩ := h
           rw [ih r2 h1]
           rfl)
        | cases h
theorem rg_rep (a b : Int) : RepL K mg μ H (rgD a b) (rgV a b) := by
  unfold rgD rgV
  generalize List.range (b - a).toNat = l
  induction l with
  | nil => exact .nil
  | cons x l ih => exact .cons (.int _) ih
theorem minI_mem : ∀ {ns : List Int}, 0 < ns.length → minI ns ∈ ns ∧ ∀ y ∈ ns, minI ns ≤ y
  | [], h => absurd h (by simp)
  | [a], _ => by simp [minI]
  | a :: b :: r, _ => by
    obtain ⟨h1, h2⟩ := minI_mem (ns := b :: r) (by simp)
    have e : minI (a :: b :: r) = min a (minI (b :: r)) := rfl
    rw [e]
    refine ⟨?_, fun y hy => ?_⟩
    · rcases Int.le_total a (minI (b :: r)) with q | q
      · rw [Int.min_eq_left q]; exact List.mem_cons_self
      · rw [Int.min_eq_right q]; exact List.mem_cons_of_mem _ h1
    · rcases List.mem_cons.mp hy with rfl | hy
      · exact Int.min_le_left _ _
      · exact Int.le_trans (Int.min_le_right _ _) (h2 y hy)
theorem maxI_mem : ∀ {ns : List Int}, 0 < ns.length → maxI ns ∈ ns ∧ ∀ y ∈ ns, y ≤ maxI ns
  | [], h => absurd h (by simp)
  | [a], _ => by simp [maxI]
  | a :: b :: r, _ => by
    obtain ⟨h1, h2⟩ := maxI_mem (ns := b :: r) (by simp)
    have e : maxI (a :: b :: r) = max a (maxI (b :: r)) := rfl
    rw [e]
    refine ⟨?_, fun y hy => ?_⟩
    · rcases Int.le_total a (maxI (b :: r)) with q | q
      · rw [Int.max_eq_right q]; exact List.mem_cons_of_mem _ h1
      · rw [Int.max_eq_left q]; exact List.mem_cons_self
    · rcases List.mem_cons.mp hy with rfl | hy
      · exact Int.le_max_left _ _
      · exact Int.le_trans (h2 y hy) (Int.le_max_right _ _)
theorem rgOk_ok {a b : Int} (h : rgOk a b = true) : RgOk a b := by
  unfold rgOk at h
  simp only [Bool.and_eq_true, decide_eq_true_eq] at h
  obtain ⟨⟨⟨⟨h1, h2⟩, h3⟩, h4⟩, h5⟩ := h
  exact ⟨by omega, by omega, by omega, by omega, by omega⟩
end

section
variable {X : Cx} {pos : Pos} {a b c e : Expr} {ma mb mc : M D} {mq : M (List D)}
def plainE : Expr → Bool
  | .Starred .. => false
  | _ => true
theorem plainE_ne (h : plainE e = true) : ∀ x p, e ≠ .Starred x p := by
  rintro x p rfl
  cases h
def notSlice : Expr → Bool
  | .Slice .. => false
  | _ => true
theorem plainIx (h : notSlice b = true) : PlainIx b := by
  intro o i
  cases b <;> first | rfl | cases h
theorem ix_ok : IxR X (rD2 X.K X.mg ixD) := by
  intro value slice pins s σ H x y v u Q I rx ry ⟨μ, d, e, st, M, rd, re, h⟩ hs
  cases re <;> first
    | exact (h : False).elim
    | (obtain ⟨ds, s1, e1, h3⟩ := Ok.bind h
       obtain ⟨e2, p, vs, rfl, hq, rl⟩ := seqD_rep M rd e1
       split at h3
       · rename_i i z hz
         obtain ⟨w, h1, h2⟩ := atI_rep rl hz
         rw [e2] at h3
         rcases hq with hq | hq
         · exact ix_list value slice pins s σ H _ _ v u Q I rx ry ⟨_, _, _, _, rfl, rfl, hq, h1, h3.here M h2⟩ hs
         · exact ix_tup value slice pins s σ H _ _ v u Q I rx ry ⟨_, _, _, _, rfl, rfl, SqU.t hq, h1, h3.here M h2⟩ hs
       · exact h3.elim)
theorem r_ix (ha : PE X a (TDe X.K X.mg ma)) (hb : PE X b (TDe X.K X.mg mb)) (hs : notSlice b = true) : PE X (.Subscript a b pos) (TDe X.K X.mg (m2 ma mb ixD)) :=
  PEw (pe_ix ix_ok ha hb (plainIx hs)) fun σ H Q h => run2 h

/-! slices -/
def TDo (K : PySem.W.Frag) (mg : Str → Option Value) (m : M (Option Int)) : TO := fun σ H Q => ∃ μ env s, Now K mg μ H σ env s ∧ Ok K mg (fun _ _ a b => a = b) μ H (m env s) Q
theorem POw {e : Option Expr} {t t' : TO} (h : PO X e t) (w : ∀ σ H Q, t' σ H Q → t σ H Q) : PO X e t' := ⟨fun pins s σ H Q I q => h.run pins s σ H Q I (w σ H Q q)⟩
theorem r_oNone : PO X none (TDo X.K X.mg oNone) := POw po_none fun σ H Q ⟨μ, env, s, N, h⟩ => h.here N.sim rfl
theorem r_oSome (ha : PE X a (TDe X.K X.mg ma)) : PO X (some a) (TDo X.K X.mg (oSome ma)) := POw (po_some ha) fun σ H Q ⟨μ, env, s, N, h⟩ => by
  obtain ⟨d, s1, e1, h⟩ := Ok.bind h
  refine ⟨μ, env, s, N, Ok.thn e1 fun μ1 H1 x E1 M1 r1 => ?_⟩
  cases r1 <;> first
    | exact (h : False).elim
    | exact ⟨_, rfl, h μ1 H1 _ E1 M1 rfl⟩
/-- by values: a list or a tuple is cut -/
def rCut (K : PySem.W.Frag) (mg : Str → Option Value) (α : Type) (Rp : List Addr → Hp → α → V → Prop) (f : D → Option Int → Option Int → S → R α) : V → Option Int → Option Int → Hp → VK → Prop := fun x lo hi H Q =>
  ∃ μ d s, Sim K mg μ H s ∧ Rep K mg μ H d x ∧ Ok K mg Rp μ H (f d lo hi s) Q
theorem run_cut {α : Type} {Rp : List Addr → Hp → α → V → Prop} {f : D → Option Int → Option Int → S → R α} {ml mh : M (Option Int)} {K : PySem.W.Frag} {mg : Str → Option Value} {σ : St} {H : Hp} {Q : VK}
    (h : ∃ μ env s, Now K mg μ H σ env s ∧ Ok K mg Rp μ H (m3 ma ml mh f env s) Q) : tSl (rCut K mg α Rp f) (TDe K mg ma) (TDo K mg ml) (TDo K mg mh) σ H Q := by
  obtain ⟨μ, env, s, N, h⟩ := h
  obtain ⟨d, s1, e1, h⟩ := Ok.bind h
  obtain ⟨l, s2, e2, h⟩ := Ok.bind h
  obtain ⟨u, s3, e3, h⟩ := Ok.bind h
  refine ⟨μ, env, s, N, Ok.thn e1 fun μ1 H1 x E1 M1 r1 => ?_⟩
  refine ⟨μ1, env, s1, N.step E1 M1, Ok.thn e2 fun μ2 H2 y E2 M2 r2 => ?_⟩
  refine ⟨μ2, env, s2, N.step (E1.trans E2) M2, Ok.thn e3 fun μ3 H3 z E3 M3 r3 => ?_⟩
  subst r2
  subst r3
  exact ⟨μ3, d, s3, M3, (r1.ext E2).ext E3, h.base ((E1.trans E2).trans E3)⟩
theorem cut_whole {vs : List V} {lo hi : Option Int} (h : HT.sIx vs.length 0 lo = 0 ∧ HT.sIx vs.length vs.length hi = vs.length) : cutV vs lo hi = vs := by
  unfold cutV
  rw [h.1, h.2]
  simp
theorem sl_ok : SlR X (rCut X.K X.mg D (Rep X.K X.mg) slD) := by
  intro pins s σ H x v vl vu lo hi sl Q I rx hs pl pu ⟨μ, d, st, M, rd, h⟩
  cases rd <;> first
    | exact (h : False).elim
    | (rename_i ds ht rl
       refine sl_tupA pins s σ H _ v vl vu lo hi sl Q I rx hs pl pu ⟨_, _, rfl, ht.t, fun hw => ?_, fun _ p hp => ?_⟩
       · exact h.here M (.tup ht (by have := cut_rep rl lo hi; rwa [cut_whole hw] at this))
       · exact h _ _ _ (Ext.laid hp) (M.laid hp) (.tup upd_same ((cut_rep rl lo hi).mono ⟨[], by simp⟩ (sqt_new hp))))
    | (rename_i a ns hs2
       refine sl_list pins s σ H _ v vl vu lo hi sl Q I rx hs pl pu ⟨_, _, rfl, hs2.sq, fun p hp => ?_⟩
       have hn := M.fresh hp
       refine h (μ ++ [p]) _ (.ref p) ((Ext.laid hp).push hp) ((M.laid hp).push hn ⟨_, upd_same, (cut_rep (scr_rep ns) lo hi).mono ⟨[p], rfl⟩ (sqt_new hp)⟩) (.ref ?_)
       rw [← M.len]
       simp)
    | (rename_i n a hn
       have hl : ∃ xs vs, SqL X.K H a vs ∧ RepL X.K X.mg μ H xs vs ∧ Ok X.K X.mg (Rep X.K X.mg) μ H (.ok (.ref st.length) (st ++ [.lst (cutD xs lo hi)])) Q := by
         unfold slD at h
         simp only at h
         split at h
         · rename_i xs hx
           obtain ⟨vs, h1, h2⟩ := M.obj _ _ _ hn hx
           exact ⟨xs, vs, SqL.of h1, h2, h⟩
         · exact h.elim
       obtain ⟨xs, vs, hq, rl, h⟩ := hl
       refine sl_list pins s σ H _ v vl vu lo hi sl Q I rx hs pl pu ⟨_, _, rfl, hq, fun p hp => ?_⟩
       have hn := M.fresh hp
       refine h (μ ++ [p]) _ (.ref p) ((Ext.laid hp).push hp) ((M.laid hp).push hn ⟨_, upd_same, (cut_rep rl lo hi).mono ⟨[p], rfl⟩ (sqt_new hp)⟩) (.ref ?_)
       rw [← M.len]
       simp)
theorem slQ_ok : SlR X (rCut X.K X.mg (List D) (RepQ X.K X.mg) slQ) := by
  intro pins s σ H x v vl vu lo hi sl Q I rx hs pl pu ⟨μ, d, st, M, rd, h⟩
  obtain ⟨ds, s1, e1, h3⟩ := Ok.bind h
  obtain ⟨e2, a, vs, rfl, hq, rl⟩ := seqD_rep M rd e1
  rw [e2] at h3
  clear h
  rename Ok _ _ _ _ _ _ _ => h
  rcases hq with hq | hq
  · refine sl_list pins s σ H _ v vl vu lo hi sl Q I rx hs pl pu ⟨_, _, rfl, hq, fun p hp => ?_⟩
    exact h _ _ _ (Ext.laid hp) (M.laid hp) ⟨p, _, rfl, .inl (SqL.of upd_same), (cut_rep rl lo hi).mono ⟨[], by simp⟩ (sqt_new hp)⟩
  · refine sl_tupA pins s σ H _ v vl vu lo hi sl Q I rx hs pl pu ⟨_, _, rfl, SqU.t hq, fun hw => ?_, fun _ p hp => ?_⟩
    · exact h.here M ⟨a, vs, rfl, .inr hq, by have := cut_rep rl lo hi; rwa [cut_whole hw] at this⟩
    · exact h _ _ _ (Ext.laid hp) (M.laid hp) ⟨p, _, rfl, .inr upd_same, (cut_rep rl lo hi).mono ⟨[], by simp⟩ (sqt_new hp)⟩
theorem r_sl {lo hi : Option Expr} {ml mh : M (Option Int)} {p2 : Pos} (ha : PE X a (TDe X.K X.mg ma)) (hl : PO X lo (TDo X.K X.mg ml)) (hh : PO X hi (TDo X.K X.mg mh)) :
    PE X (.Subscript a (.Slice lo hi none p2) pos) (TDe X.K X.mg (m3 ma ml mh slD)) := PEw (pe_slice sl_ok ha hl hh) fun σ H Q h => run_cut h
theorem r_slQ {lo hi : Option Expr} {ml mh : M (Option Int)} {p2 : Pos} (ha : PE X a (TDe X.K X.mg ma)) (hl : PO X lo (TDo X.K X.mg ml)) (hh : PO X hi (TDo X.K X.mg mh)) :
    PE X (.Subscript a (.Slice lo hi none p2) pos) (TDq X.K X.mg (m3 ma ml mh slQ)) := PEw (pe_slice slQ_ok ha hl hh) fun σ H Q h => run_cut h

/-! attributes -/
def notBareCall : Expr → Bool
  | .Call (.Name _ _) [] [] _ => false
  | _ => true
theorem attrBase {f : Str} {env : PySem.Env} {whole : Sem Value} (h : notBareCall e = true) : attributeBase e f env whole = whole := by
  unfold attributeBase
  split
  · cases h
  · rfl
theorem r_fld {f : Str} {ok : Str → Bool} (ha : PE X a (TDe X.K X.mg ma)) (hb : notBareCall a = true) (hc : ∀ C c, ok C = true → X.mg C = some (.ref c) → Cls X.K c ∧ NoAttr X.K c f) :
    PE X (.Attribute a f pos) (TDe X.K X.mg (m1 ma (fldD ok f))) :=
  PEw (pe_fld ha (attrBase hb)) fun σ H Q ⟨μ, env, s, N, h⟩ => by
    obtain ⟨d, s1, e1, h⟩ := Ok.bind h
    refine ⟨μ, env, s, N, Ok.thn e1 fun μ1 H1 x E1 M1 r1 => ?_⟩
    cases r1 <;> first
      | exact (h : False).elim
      | (rename_i n p hn
         unfold fldD at h
         simp only at h
         split at h
         · rename_i C fs hx
           obtain ⟨c, dx, gs, h0, h1, h2⟩ := M1.obj _ _ _ hn hx
           split at h
           · rename_i z hok hz
             obtain ⟨w, l1, l2⟩ := h2.lookup hz
             obtain ⟨k1, k2⟩ := hc C c hok h0
             exact ⟨p, c, dx, gs, w, rfl, h1, k1, k2, l1, h μ1 H1 w E1 M1 l2⟩
           · exact h.elim
         · exact h.elim)

/-! built-in functions of one argument -/
theorem callB1 {id : String} {r : List V → Hp → VK → Prop} {x : Str} {p : Pos} {te : TE} (hc : CallR X (.builtin id) r) (hg : Gl X x) (hm : X.mg x = none) (hv : bootBuiltins x = some (.builtin id)) (he : PE X e te) (hp : plainE e = true)
    (hn : x ≠ "__name__") (hdb : (x == ("__debug__" : Str)) = false) : PE X (.Call (.Name x p) [e] [] pos) (fun σ H Q => te σ H fun v H1 => r [v] H1 Q) :=
  pe_callB hc hg hm hv (pa_cons he pa_nil (starEach_plain (plainE_ne hp))) hn hdb (starEach_plain (plainE_ne hp)) rfl
theorem callT1 {T : String} {r : List V → Hp → VK → Prop} {x : Str} {p : Pos} {te : TE} (hc : CallR X (.type T) r) (hg : Gl X x) (hm : X.mg x = none) (hv : bootBuiltins x = some (.type T)) (he : PE X e te) (hp : plainE e = true)
    (hn : x ≠ "__name__") (hdb : (x == ("__debug__" : Str)) = false) : PE X (.Call (.Name x p) [e] [] pos) (fun σ H Q => te σ H fun v H1 => r [v] H1 Q) :=
  pe_callTy hc hg hm hv (pa_cons he pa_nil (starEach_plain (plainE_ne hp))) hn hdb (starEach_plain (plainE_ne hp)) rfl
theorem plain_any {env : PySem.Env} {es : List Expr} (h : es.all plainE = true) : (backTo pos (starEach es env)).any (·.1) = false := by
  induction es with
  | nil => rfl
  | cons e es ih =>
    rw [List.all_cons, Bool.and_eq_true] at h
    rw [starEach_plain (plainE_ne h.1)]
    show (false || (backTo pos (starEach es env)).any (·.1)) = false
    rw [ih h.2]
    rfl
theorem callB2 {id : String} {r : List V → Hp → VK → Prop} {x : Str} {p : Pos} {te tf : TE} (hc : CallR X (.builtin id) r) (hg : Gl X x) (hm : X.mg x = none) (hv : bootBuiltins x = some (.builtin id)) (he : PE X a te) (hf : PE X b tf) (hp : plainE a = true) (hp2 : plainE b = true)
    (hn : x ≠ "__name__") (hdb : (x == ("__debug__" : Str)) = false) : PE X (.Call (.Name x p) [a, b] [] pos) (fun σ H Q => te σ H fun v H1 => tf σ H1 fun w H2 => r [v, w] H2 Q) :=
  pe_callB hc hg hm hv (pa_cons he (pa_cons hf pa_nil (starEach_plain (plainE_ne hp2))) (starEach_plain (plainE_ne hp))) hn hdb (starEach_plain (plainE_ne hp)) (plain_any (by simp [hp2]))
/-- of a list or a tuple -/
theorem runQ {α β : Type} {Rp : List Addr → Hp → α → β → Prop} {f : List D → S → R α} {K : PySem.W.Frag} {mg : Str → Option Value} {σ : St} {H : Hp} {Q : β → Hp → Prop}
    (h : ∃ μ env s, Now K mg μ H σ env s ∧ Ok K mg Rp μ H (m1 mq f env s) Q) : TDq K mg mq σ H fun x H1 => ∃ μ ds s, Sim K mg μ H1 s ∧ RepQ K mg μ H1 ds x ∧ Ok K mg Rp μ H1 (f ds s) Q := by
  obtain ⟨μ, env, s, N, h⟩ := h
  obtain ⟨d, s1, e1, h⟩ := Ok.bind h
  exact ⟨μ, env, s, N, Ok.thn e1 fun μ1 H1 x E1 M1 r1 => ⟨μ1, d, s1, M1, r1, h.base E1⟩⟩
theorem run1 {α β : Type} {Rp : List Addr → Hp → α → β → Prop} {f : D → S → R α} {K : PySem.W.Frag} {mg : Str → Option Value} {σ : St} {H : Hp} {Q : β → Hp → Prop}
    (h : ∃ μ env s, Now K mg μ H σ env s ∧ Ok K mg Rp μ H (m1 ma f env s) Q) : TDe K mg ma σ H fun x H1 => ∃ μ d s, Sim K mg μ H1 s ∧ Rep K mg μ H1 d x ∧ Ok K mg Rp μ H1 (f d s) Q := by
  obtain ⟨μ, env, s, N, h⟩ := h
  obtain ⟨d, s1, e1, h⟩ := Ok.bind h
  exact ⟨μ, env, s, N, Ok.thn e1 fun μ1 H1 x E1 M1 r1 => ⟨μ1, d, s1, M1, r1, h.base E1⟩⟩
/-- of a list (SqL) -/
def RepI (K : PySem.W.Frag) (mg : Str → Option Value) (μ : List Addr) (H : Hp) (ds : List D) (v : V) : Prop := ∃ a vs, v = .ref a ∧ SqL K H a vs ∧ RepL K mg μ H ds vs
def TDi (K : PySem.W.Frag) (mg : Str → Option Value) (m : M (List D)) : TE := fun σ H Q => ∃ μ env s, Now K mg μ H σ env s ∧ Ok K mg (RepI K mg) μ H (m env s) Q
def lsD (d : D) (s : S) : R (List D) := match d with
  | .ref n => match s[n]? with
    | some (.lst xs) => .ok xs s
    | _ => .bad
  | _ => .bad
theorem r_lsL (h : PE X e (TDl X.K X.mg mq)) : PE X e (TDi X.K X.mg mq) :=
  PEw h fun σ H Q ⟨μ, env, s, N, h⟩ => ⟨μ, env, s, N, h.imp (fun μ' H' ds v ⟨a, vs, h1, h2, h3, h4, h5⟩ => ⟨a, vs, h1, SqL.of h2, h5⟩) fun _ _ h => h⟩
theorem lsD_rep {K : PySem.W.Frag} {mg : Str → Option Value} {μ : List Addr} {H : Hp} {s s1 : S} {d : D} {v : V} {ds : List D} (M : Sim K mg μ H s) (r : Rep K mg μ H d v) (h : lsD d s = .ok ds s1) : s1 = s ∧ RepI K mg μ H ds v := by
  cases r with
  | @ref n a hn =>
    unfold lsD at h
    simp only at h
    split at h
    · rename_i xs hx
      cases h
      obtain ⟨vs, h1, h2⟩ := M.obj _ _ _ hn hx
      exact ⟨rfl, a, vs, rfl, SqL.of h1, h2⟩
    · cases h
  | _ => cases h
theorem r_ls (h : PE X e (TDe X.K X.mg ma)) : PE X e (TDi X.K X.mg (m1 ma lsD)) :=
  PEw h fun σ H Q ⟨μ, env, s, N, h⟩ => by
    obtain ⟨d, s1, e1, h⟩ := Ok.bind h
    refine ⟨μ, env, s, N, Ok.thn e1 fun μ1 H1 x E1 M1 r1 => ?_⟩
    cases e2 : lsD d s1 with
    | bad => rw [e2] at h; exact h.elim
    | ok ds s2 =>
      rw [e2] at h
      obtain ⟨rfl, q⟩ := lsD_rep M1 r1 e2
      exact h μ1 H1 x E1 M1 q
theorem runI {α β : Type} {Rp : List Addr → Hp → α → β → Prop} {f : List D → S → R α} {K : PySem.W.Frag} {mg : Str → Option Value} {σ : St} {H : Hp} {Q : β → Hp → Prop}
    (h : ∃ μ env s, Now K mg μ H σ env s ∧ Ok K mg Rp μ H (m1 mq f env s) Q) : TDi K mg mq σ H fun x H1 => ∃ μ ds s, Sim K mg μ H1 s ∧ RepI K mg μ H1 ds x ∧ Ok K mg Rp μ H1 (f ds s) Q := by
  obtain ⟨μ, env, s, N, h⟩ := h
  obtain ⟨d, s1, e1, h⟩ := Ok.bind h
  exact ⟨μ, env, s, N, Ok.thn e1 fun μ1 H1 x E1 M1 r1 => ⟨μ1, d, s1, M1, r1, h.base E1⟩⟩

variable {p : Pos}
/-- a reading made stronger under a first part -/
theorem TDe.imp {m : M D} {K : PySem.W.Frag} {mg : Str → Option Value} {σ : St} {H : Hp} {Q Q' : VK} (h : TDe K mg m σ H Q) (w : ∀ v H, Q v H → Q' v H) : TDe K mg m σ H Q' := by
  obtain ⟨μ, env, s, N, h⟩ := h
  exact ⟨μ, env, s, N, h.imp (fun _ _ _ _ r => r) w⟩
theorem TDq.imp {m : M (List D)} {K : PySem.W.Frag} {mg : Str → Option Value} {σ : St} {H : Hp} {Q Q' : VK} (h : TDq K mg m σ H Q) (w : ∀ v H, Q v H → Q' v H) : TDq K mg m σ H Q' := by
  obtain ⟨μ, env, s, N, h⟩ := h
  exact ⟨μ, env, s, N, h.imp (fun _ _ _ _ r => r) w⟩
theorem TDi.imp {m : M (List D)} {K : PySem.W.Frag} {mg : Str → Option Value} {σ : St} {H : Hp} {Q Q' : VK} (h : TDi K mg m σ H Q) (w : ∀ v H, Q v H → Q' v H) : TDi K mg m σ H Q' := by
  obtain ⟨μ, env, s, N, h⟩ := h
  exact ⟨μ, env, s, N, h.imp (fun _ _ _ _ r => r) w⟩
theorem r_len (hg : Gl X "len") (hm : X.mg "len" = none) (he : PE X e (TDq X.K X.mg mq)) (hp : plainE e = true) : PE X (.Call (.Name "len" p) [e] [] pos) (TDe X.K X.mg (m1 mq lenQ)) :=
  PEw (callB1 call_len_seq hg hm PySem.boot_len he hp (by decide) (by decide)) fun σ H Q h => (runQ h).imp fun x H1 ⟨μ, ds, s, M, ⟨a, vs, e, hq, rl⟩, h⟩ => ⟨a, vs, by rw [e], hq.imp id SqU.t, h.here M (by rw [rl.length]; exact .int _)⟩
theorem r_all (hc : X.calm = true) (hg : Gl X "all") (hm : X.mg "all" = none) (he : PE X e (TDi X.K X.mg mq)) (hp : plainE e = true) : PE X (.Call (.Name "all" p) [e] [] pos) (TDe X.K X.mg (m1 mq allQ)) :=
  PEw (callB1 (cr_all hc) hg hm (by decide +kernel) he hp (by decide) (by decide)) fun σ H Q h => (runI h).imp fun x H1 ⟨μ, ds, s, M, ⟨a, vs, e, hq, rl⟩, h⟩ => by
    unfold allQ at h
    split at h
    · rename_i bs hb
      have := bools_rep rl hb
      subst this
      exact ⟨a, bs, by rw [e], hq, h.here M (.bl _)⟩
    · exact h.elim
theorem r_any (hc : X.calm = true) (hg : Gl X "any") (hm : X.mg "any" = none) (he : PE X e (TDi X.K X.mg mq)) (hp : plainE e = true) : PE X (.Call (.Name "any" p) [e] [] pos) (TDe X.K X.mg (m1 mq anyQ)) :=
  PEw (callB1 (cr_any hc) hg hm (by decide +kernel) he hp (by decide) (by decide)) fun σ H Q h => (runI h).imp fun x H1 ⟨μ, ds, s, M, ⟨a, vs, e, hq, rl⟩, h⟩ => by
    unfold anyQ at h
    split at h
    · rename_i bs hb
      have := bools_rep rl hb
      subst this
      exact ⟨a, bs, by rw [e], hq, h.here M (.bl _)⟩
    · exact h.elim
theorem r_sum (hc : X.calm = true) (hg : Gl X "sum") (hm : X.mg "sum" = none) (he : PE X e (TDi X.K X.mg mq)) (hp : plainE e = true) : PE X (.Call (.Name "sum" p) [e] [] pos) (TDe X.K X.mg (m1 mq sumQ)) :=
  PEw (callB1 (cr_sum hc) hg hm (by decide +kernel) he hp (by decide) (by decide)) fun σ H Q h => (runI h).imp fun x H1 ⟨μ, ds, s, M, ⟨a, vs, e, hq, rl⟩, h⟩ => by
    unfold sumQ at h
    split at h
    · rename_i bs hb
      have := ints_rep rl hb
      subst this
      exact ⟨a, bs, by rw [e], hq, h.here M (.int _)⟩
    · exact h.elim
theorem r_min (hc : X.calm = true) (hg : Gl X "min") (hm : X.mg "min" = none) (he : PE X e (TDi X.K X.mg mq)) (hp : plainE e = true) : PE X (.Call (.Name "min" p) [e] [] pos) (TDe X.K X.mg (m1 mq minQ)) :=
  PEw (callB1 (cr_min hc) hg hm (by decide +kernel) he hp (by decide) (by decide)) fun σ H Q h => (runI h).imp fun x H1 ⟨μ, ds, s, M, ⟨a, vs, e, hq, rl⟩, h⟩ => by
    unfold minQ at h
    split at h
    · rename_i bs hb
      have := ints_rep rl hb
      subst this
      obtain ⟨c, h⟩ := ok_if h
      refine ⟨a, bs, by rw [e], hq, c, fun m h1 h2 => ?_⟩
      obtain ⟨k1, k2⟩ := minI_mem c
      have : m = minI bs := Int.le_antisymm (h2 _ k1) (k2 _ h1)
      rw [this]
      exact h.here M (.int _)
    · exact h.elim
theorem r_max (hc : X.calm = true) (hg : Gl X "max") (hm : X.mg "max" = none) (he : PE X e (TDi X.K X.mg mq)) (hp : plainE e = true) : PE X (.Call (.Name "max" p) [e] [] pos) (TDe X.K X.mg (m1 mq maxQ)) :=
  PEw (callB1 (cr_max hc) hg hm (by decide +kernel) he hp (by decide) (by decide)) fun σ H Q h => (runI h).imp fun x H1 ⟨μ, ds, s, M, ⟨a, vs, e, hq, rl⟩, h⟩ => by
    unfold maxQ at h
    split at h
    · rename_i bs hb
      have := ints_rep rl hb
      subst this
      obtain ⟨c, h⟩ := ok_if h
      refine ⟨a, bs, by rw [e], hq, c, fun m h1 h2 => ?_⟩
      obtain ⟨k1, k2⟩ := maxI_mem c
      have : m = maxI bs := Int.le_antisymm (k2 _ h1) (h2 _ k1)
      rw [this]
      exact h.here M (.int _)
    · exact h.elim
theorem r_tuple (hg : Gl X "tuple") (hm : X.mg "tuple" = none) (he : PE X e (TDq X.K X.mg mq)) (hp : plainE e = true) : PE X (.Call (.Name "tuple" p) [e] [] pos) (TDe X.K X.mg (m1 mq tupQ)) :=
  PEw (callT1 call_tuple_of hg hm (by decide +kernel) he hp (by decide) (by decide)) fun σ H Q h => (runQ h).imp fun x H1 ⟨μ, ds, s, M, ⟨a, vs, e, hq, rl⟩, h⟩ => by
    refine ⟨a, vs, by rw [e], ?_⟩
    rcases hq with hq | hq
    · exact .inl ⟨hq, fun l hl => h _ _ _ (Ext.laid hl) (M.laid hl) (.tup upd_same (rl.mono ⟨[], by simp⟩ (sqt_new hl)))⟩
    · exact .inr ⟨SqU.t hq, h.here M (.tup hq rl)⟩
theorem r_list (hg : Gl X "list") (hm : X.mg "list" = none) (he : PE X e (TDq X.K X.mg mq)) (hp : plainE e = true) : PE X (.Call (.Name "list" p) [e] [] pos) (TDl X.K X.mg mq) :=
  PEw (callT1 call_list_of hg hm (by decide +kernel) he hp (by decide) (by decide)) fun σ H Q ⟨μ, env, s, N, h⟩ => by
    refine ⟨μ, env, s, N, ?_⟩
    cases e1 : mq env s with
    | bad => rw [e1] at h; exact h.elim
    | ok ds s1 =>
      rw [e1] at h
      intro μ1 H1 x E1 M1 ⟨a, vs, e, hq, rl⟩
      refine ⟨a, vs, by rw [e], hq.imp id SqU.t, fun l hl => ?_⟩
      exact h μ1 _ _ (E1.trans (Ext.laid hl)) (M1.laid hl) ⟨l, vs, rfl, upd_same, E1.free M1 hl, M1.fresh hl, rl.mono ⟨[], by simp⟩ (sqt_new hl)⟩
theorem r_int (hg : Gl X "int") (hm : X.mg "int" = none) (he : PE X e (TDe X.K X.mg ma)) (hp : plainE e = true) : PE X (.Call (.Name "int" p) [e] [] pos) (TDe X.K X.mg (m1 ma intD)) :=
  PEw (callT1 call_int1 hg hm (by decide +kernel) he hp (by decide) (by decide)) fun σ H Q h => (run1 h).imp fun x H1 ⟨μ, d, s, M, r, h⟩ => by
    cases r <;> first
      | exact (h : False).elim
      | exact .inl ⟨_, rfl, h.here M (.int _)⟩
      | exact .inr ⟨_, rfl, h.here M (.int _)⟩
theorem r_abs (hg : Gl X "abs") (hm : X.mg "abs" = none) (he : PE X e (TDe X.K X.mg ma)) (hp : plainE e = true) : PE X (.Call (.Name "abs" p) [e] [] pos) (TDe X.K X.mg (m1 ma absD)) :=
  PEw (callB1 call_abs hg hm (by decide +kernel) he hp (by decide) (by decide)) fun σ H Q h => (run1 h).imp fun x H1 ⟨μ, d, s, M, r, h⟩ => by
    cases r <;> first
      | exact (h : False).elim
      | exact ⟨_, rfl, h.here M (.int _)⟩
theorem r_min2 (hc : X.calm = true) (hg : Gl X "min") (hm : X.mg "min" = none) (ha : PE X a (TDe X.K X.mg ma)) (hb : PE X b (TDe X.K X.mg mb)) (hp : plainE a = true) (hp2 : plainE b = true) : PE X (.Call (.Name "min" p) [a, b] [] pos) (TDe X.K X.mg (m2 ma mb min2D)) :=
  PEw (callB2 (call_min2 hc) hg hm (by decide +kernel) ha hb hp hp2 (by decide) (by decide)) fun σ H Q h => (run2 h).imp fun x H1 h => h.imp fun y H2 ⟨μ, d, e, s, M, r1, r2, h⟩ => by
    cases r1 <;> first
      | exact (h : False).elim
      | (cases r2 <;> first
          | exact (h : False).elim
          | exact ⟨_, _, rfl, h.here M (.int _)⟩)
theorem r_max2 (hc : X.calm = true) (hg : Gl X "max") (hm : X.mg "max" = none) (ha : PE X a (TDe X.K X.mg ma)) (hb : PE X b (TDe X.K X.mg mb)) (hp : plainE a = true) (hp2 : plainE b = true) : PE X (.Call (.Name "max" p) [a, b] [] pos) (TDe X.K X.mg (m2 ma mb max2D)) :=
  PEw (callB2 (call_max2 hc) hg hm (by decide +kernel) ha hb hp hp2 (by decide) (by decide)) fun σ H Q h => (run2 h).imp fun x H1 h => h.imp fun y H2 ⟨μ, d, e, s, M, r1, r2, h⟩ => by
    cases r1 <;> first
      | exact (h : False).elim
      | (cases r2 <;> first
          | exact (h : False).elim
          | exact ⟨_, _, rfl, h.here M (.int _)⟩)
theorem tyX_of {K : PySem.W.Frag} {mg : Str → Option Value} {μ : List Addr} {H : Hp} {s : S} {d : D} {v : V} {t : String} (M : Sim K mg μ H s) (r : Rep K mg μ H d v) (h : tyD d s = some t) : TyX K H v (.type t) := by
  cases r with
  | non => cases h; exact .base .non
  | bl b => cases h; exact .base (.bl b)
  | int b => cases h; exact .base (.int b)
  | str b => cases h; exact .base (.str b)
  | tup hs _ =>
    cases h
    exact .base (.tup hs)
  | @ref n a hn =>
    unfold tyD at h
    simp only at h
    split at h
    · rename_i xs hx
      cases h
      obtain ⟨vs, h1, _⟩ := M.obj _ _ _ hn hx
      exact .base (.lst h1)
    · cases h
  | scr _ => cases h
  | gl _ => cases h
  | ty _ => cases h
theorem r_isi (hg : Gl X "isinstance") (hm : X.mg "isinstance" = none) (ha : PE X a (TDe X.K X.mg ma)) (hb : PE X b (TDe X.K X.mg mb)) (hp : plainE a = true) (hp2 : plainE b = true) : PE X (.Call (.Name "isinstance" p) [a, b] [] pos) (TDe X.K X.mg (m2 ma mb isiD)) :=
  PEw (callB2 call_isi hg hm (by decide +kernel) ha hb hp hp2 (by decide) (by decide)) fun σ H Q h => (run2 h).imp fun x H1 h => h.imp fun y H2 ⟨μ, d, e, s, M, r1, r2, h⟩ => by
    cases r2 <;> first
      | exact (h : False).elim
      | (unfold isiD at h
         simp only at h
         split at h
         · rename_i t ht
           split at h
           · rename_i k hk
             exact ⟨x, _, _, _, k, rfl, .ty _, tyX_of M r1 ht, kit_ty (isiB_ok hk), h.here M (.bl _)⟩
           · exact h.elim
         · exact h.elim)
end
end Mini

set_option Elab.async false
set_option linter.all false
set_option maxRecDepth 100000
set_option maxHeartbeats 1000000
/-! Mini, part F: what is walked: lists and tuples, enumerate and zip over either. -/
namespace Mini
open PySem PySem.Spec PyProof.Rows L2

/-- a list or a tuple -/
inductive Src where
  | l | t
def SqS (K : PySem.W.Frag) (H : Hp) : Src → Addr → List V → Prop
  | .l, a, xs => SqL K H a xs
  | .t, a, xs => SqT K H a xs
def IterAt (h : Heap) : Src → Addr → Addr → Nat → Prop
  | .l, it, a, i => h.IsListIter it a i
  | .t, it, a, i => h.IsTupleIter it a i
def SeqOf (h : Heap) : Src → Addr → Array Value → Prop
  | .l, a, xs => h.IsList a xs
  | .t, a, xs => h.IsTuple a xs
def iterObj : Src → Addr → Obj
  | .l, a => { cls := .type "list_iterator", data := .fields #[.ref a, .int 0 0] }
  | .t, a => { cls := .type "tuple_iterator", data := .fields #[.ref a, .int 0 0] }
section
variable {X : Cx} {pins : List (Addr × Obj)} {σ : L2.St} {H : Hp} {s : Shared} {a b : Addr} {xs ys : List V} {k : Src}
theorem src_of (I : Inv X pins σ H s) (h : SqS X.K H k a xs) : ∃ its : List Value, Vals xs its ∧ SeqOf s.heap k a its.toArray := by
  cases k with
  | l => obtain ⟨its, rv, p, _⟩ := I.list h; exact ⟨its, rv, p.isList⟩
  | t => obtain ⟨its, rv, p, _⟩ := I.tuple h; exact ⟨its, rv, p⟩
theorem src_inj (I : Inv X pins σ H s) (h : SqS X.K H k a xs) (h' : SqS X.K H k a ys) : xs = ys := by
  cases k with
  | l => exact I.list_inj h h'
  | t => exact I.tuple_inj h h'
theorem SeqOf.lt {h : Heap} {k : Src} {a : Addr} {its : Array Value} (p : SeqOf h k a its) : a < h.objs.size := by
  cases k with
  | l => obtain ⟨o, e, _⟩ := p; exact Heap.lt_size e
  | t => obtain ⟨o, e, _⟩ := p; exact Heap.lt_size e
theorem SeqOf.ne {h : Heap} {k : Src} {a e : Addr} {its : Array Value} {o : Obj} {n : String} (p : SeqOf h k a its) (he : h.get? e = some o) (hc : o.cls = .type n) (h1 : n ≠ "list") (h2 : n ≠ "tuple") : e ≠ a := by
  rintro rfl
  cases k with
  | l =>
    obtain ⟨o', e', c', _⟩ := p
    rw [he] at e'
    cases e'
    rw [hc] at c'
    injection c' with c'
    exact h1 c'
  | t =>
    obtain ⟨o', e', c', _⟩ := p
    rw [he] at e'
    cases e'
    rw [hc] at c'
    injection c' with c'
    exact h2 c'
theorem IterAt.at {h h' : Heap} {k : Src} {it a : Addr} {i : Nat} (p : IterAt h k it a i) (q : ∀ o, h.get? it = some o → h'.get? it = some o) : IterAt h' k it a i := by
  cases k with
  | l => exact Heap.IsListIter.at p q
  | t => exact Heap.IsTupleIter.at p q
theorem IterAt.obj {h : Heap} {k : Src} {it a : Addr} {i : Nat} (p : IterAt h k it a i) : ∃ o n, h.get? it = some o ∧ o.cls = .type n ∧ n ≠ "list" ∧ n ≠ "tuple" ∧ n ≠ "enumerate" ∧ ∀ v, o.data ≠ .cell v := by
  cases k with
  | l =>
    obtain ⟨o, e, c, d⟩ := p
    exact ⟨o, _, e, c, by decide, by decide, by decide, fun v z => by rw [d] at z; cases z⟩
  | t =>
    obtain ⟨o, e, c, d⟩ := p
    exact ⟨o, _, e, c, by decide, by decide, by decide, fun v z => by rw [d] at z; cases z⟩
theorem draws_src {prog : Program} {w : World} {A : Around} (hh : A.handled = none) (k : Src) (it a : Addr) (hne : a ≠ it) (items : Array Value) :
    Draws prog w A it [it, a] items.size (fun i v => items[i]? = some v) (fun i h => IterAt h k it a i ∧ SeqOf h k a items) := by
  cases k with
  | l => exact Draws.list hh it a hne items
  | t => exact Draws.tuple hh it a hne items
theorem begins_src (k : Src) (a : Addr) (items : Array Value) : Begins (.ref a) (iterObj k a) fun h => SeqOf h k a items := by
  cases k with
  | l => exact begins_list a items
  | t => exact begins_tuple a items
theorem iterObj_at {h : Heap} {k : Src} {it a : Addr} (e : h.get? it = some (iterObj k a)) : IterAt h k it a 0 := by
  cases k with
  | l => exact ⟨_, e, rfl, rfl⟩
  | t => exact ⟨_, e, rfl, rfl⟩
end

/-! ### enumerate -/
def ItE (K : PySem.W.Frag) (k : Src) (a : Addr) : It :=
  ⟨fun i H => ∃ (xs : List V) (x : V), SqS K H k a xs ∧ xs[i]? = some x, fun i H v H' => ∃ T x, v = .ref T ∧ H T = none ∧ H' = upd H T (.tup [.int (i : Nat), x]) ∧ ∀ xs, SqS K H k a xs → xs[i]? = some x, fun i H => ∃ xs : List V, SqS K H k a xs ∧ xs.length = i⟩
theorem turn_enumS {P : Program} {w : World} {K : PySem.W.Frag} {elts : List Expr} {kk : Nat} {tpos : Pos} (k : Src) (a e it : Addr) :
    Turn P w K (.Tuple elts kk tpos) (ItE K k a) [e, it] e (fun i h => (∃ old, IsEnum h e it ((i : Nat) : Int) old) ∧ IterAt h k it a i ∧ e ≠ it) where
  mem := by simp
  obj := fun i h st b hb => by
    obtain ⟨⟨old, he⟩, hi, _⟩ := st
    obtain ⟨o, n, ho, hc, _, _, _, hd⟩ := hi.obj
    have e' : b = e ∨ b = it := by simpa using hb
    rcases e' with z | z
    · rw [z]; exact ⟨_, he, fun v q => nomatch q⟩
    · rw [z]; exact ⟨o, ho, hd⟩
  keep := fun i h h' st k => let ⟨⟨old, he⟩, hi, hne⟩ := st; ⟨⟨old, k e (by simp) _ he⟩, hi.at fun o q => k it (by simp) o q, hne⟩
  item := by
    intro X hP hw hK hc i pins s σ H E I hf st hg
    subst hP hw hK
    obtain ⟨⟨old, he⟩, hit, hne⟩ := st
    obtain ⟨xs, x, hq, hx⟩ := hg
    obtain ⟨its, rv, p⟩ := src_of I hq
    obtain ⟨u, hu, ru⟩ := rv.get hx
    have hel : e < s.heap.objs.size := Heap.lt_size he
    obtain ⟨oi, ni, hio, hic, hn1, hn2, hn3, _⟩ := hit.obj
    have hil : it < s.heap.objs.size := Heap.lt_size hio
    have hea : e ≠ a := p.ne he rfl (by decide) (by decide)
    have hia : it ≠ a := p.ne hio hic hn1 hn2
    have hlt : i < its.toArray.size := by
      have := (List.getElem?_eq_some_iff.mp hu).1
      simpa using this
    refine wpAny_pyNext_enum_itemD (draws_src (A := X.A.in1) (I.ok.hd hc) k it a (Ne.symm hia) its.toArray) he ⟨hit, p⟩ hlt hne (by simp [hne, hea]) fun y h' tk hy ho hit' hT hsz hk => ?_
    have ey : y = u := by
      have : its[i]? = some y := by simpa using hy
      rw [hu] at this
      exact (Option.some.inj this).symm
    subst ey
    refine ⟨_, rfl, wpAny_letOwnedTupleGo_enum (s := { s with heap := h', toks := tk + 1 }) ho fun h'' he' sb => ?_⟩
    have hT2 : h''.get? s.heap.objs.size = some { cls := .type "tuple", data := .seq #[.int i tk, y] } := (sb.2 _ (Nat.ne_of_gt hel)).trans hT
    have new : ObjOk X.prog X.w (upd H s.heap.objs.size (.tup [.int (i : Nat), x])) h'' s.heap.objs.size (.tup [.int (i : Nat), x]) :=
      ⟨by show 2 ≤ sizeLine; decide, [.int i tk, y], .cons ⟨_, rfl⟩ (.cons ru .nil), ⟨_, hT2, rfl, _, rfl⟩⟩
    have I1 : Inv X pins σ (upd H s.heap.objs.size (.tup [.int (i : Nat), x])) { s with heap := h'', toks := tk + 1 } :=
      I.turnedNew (ch := [e, it]) (fun b ob hb q => (sb.2 b (fun z => hb (by simp [z]))).trans (hk b ob (fun z => hb (by simp [z])) (fun z => hb (by simp [z])) q)) hf (Nat.le_refl _) new
    refine ⟨.ref s.heap.objs.size, _, I1, rfl, ⟨_, x, rfl, I.hok.fresh (Nat.le_refl _), rfl, fun ys hy => by rw [src_inj I hy hq]; exact hx⟩, ⟨⟨y, ?_⟩, hit'.1.at fun o q => (sb.2 it (Ne.symm hne)).trans q, hne⟩, fun b hb => ?_⟩
    · have e1 : ((i + 1 : Nat) : Int) = (i : Int) + 1 := by omega
      rw [e1]; exact he'
    · have hb' : b < s.heap.objs.size := by
        have e' : b = e ∨ b = it := by simpa using hb
        rcases e' with z | z
        · rw [z]; exact hel
        · rw [z]; exact hil
      rw [upd_ne (Nat.ne_of_lt hb')]
      exact (hf b hb).1
  done := by
    intro X hP hw hK hc i pins s σ H E I hf st hg
    subst hP hw hK
    obtain ⟨⟨old, he⟩, hit, hne⟩ := st
    obtain ⟨xs, hq, hx⟩ := hg
    obtain ⟨its, rv, p⟩ := src_of I hq
    obtain ⟨f0, f1, f2, f3, f4, f5⟩ := hf it (by simp)
    obtain ⟨oi, ni, hio, hic, hn1, hn2, hn3, _⟩ := hit.obj
    have hia : it ≠ a := p.ne hio hic hn1 hn2
    have hl := rv.length
    have hn : i = its.toArray.size := by rw [List.size_toArray, ← hl, hx]
    exact wpAny_pyNext_enum_endD (draws_src (A := X.A.in1) (I.ok.hd hc) k it a (Ne.symm hia) its.toArray) he ⟨by rw [← hn]; exact hit, p⟩ fun h' eb => ⟨rfl, I.turned (t' := s.toks) (fun b o hb q => eb b o hb q) f0 f1 f3 f4 f5⟩
  self := fun A i s Q E st h => let ⟨⟨_, he⟩, _⟩ := st; wpAny_pyIter_enum he h
def iEnumS (K : PySem.W.Frag) (te : TE) : TI := fun σ H R => te σ H fun v H1 => ∃ k a xs, [v] = [V.ref a] ∧ SqS K H1 k a xs ∧ R (ItE K k a) H1
open AutoSeq1 (wpAny_loadPart') in
theorem meets_enumerate_newT (l : Addr) (items : Array Value) (n : Nat) (dct : Option Addr) (sl : Array (Option Value)) :
    Meets (Builtin.«enumerate.__new__» ⟨[.type "enumerate", .ref l], []⟩) (fun _ R s => s.heap.get? l = some { cls := .type "tuple", dict := dct, data := .seq items n, slots := sl } ∧
      R (.ok (.ret (.ref (s.heap.push { cls := .type "tuple_iterator", data := .fields #[.ref l, .int 0 0] }).objs.size)))
        { s with heap := (s.heap.push { cls := .type "tuple_iterator", data := .fields #[.ref l, .int 0 0] }).push { cls := .type "enumerate", data := .fields #[.none, .bool false, .ref s.heap.objs.size, rawInt 0, .none, .none] } }) :=
  .of_wp fun prog w A R s h => by
    obtain ⟨hp, g, d, tk, os⟩ := s; obtain ⟨hl, h⟩ := h
    have hsub := sub_enumerate
    have hL : Heap.IsTuple (Shared.heap ⟨hp, g, d, tk, os⟩) l items := ⟨_, hl, rfl, n, rfl⟩
    wp_walk using wpAny_loadPart' hl
    refine wpAny_stack_any fun st => wpAny_pure ?_
    split
    · rename_i c _ _ _ _ _
      cases (c == Value.type "enumerate")
      · wp_walk using wpAny_loadPart' hl, wpAny_pyIter_tuple hL
        exact ⟨_, rfl, h⟩
      · wp_walk using wpAny_loadPart' hl, wpAny_pyIter_tuple hL
        exact ⟨_, rfl, h⟩
    · wp_walk using wpAny_loadPart' hl, wpAny_pyIter_tuple hL
      exact ⟨_, rfl, h⟩
theorem call_enumerate_tuple {prog : Program} {w : World} {A : Around} {E : Value → Shared → Prop} {s : Shared} {l : Addr} {items : Array Value} {Q : Value → Shared → Prop} (hL : s.heap.IsTuple l items)
    (h : ∀ h', IsEnum h' (s.heap.objs.size + 1) s.heap.objs.size 0 .none → h'.IsTupleIter s.heap.objs.size l 0 → h'.objs.size = s.heap.objs.size + 2 →
      (∀ b o, s.heap.get? b = some o → h'.get? b = some o) → Q (.ref (s.heap.objs.size + 1)) { s with heap := h' }) :
    wpAny (model prog w) A (call (.type "enumerate") [.ref l]) Q E s := by
  obtain ⟨⟨c, dct, dt, sl⟩, hl, hc, n, hd⟩ := hL
  replace hc : c = .type "tuple" := hc
  replace hd : dt = .seq items n := hd
  subst hc hd
  refine callType_new F.called_enumerate (by decide) (F.typeCall_enumerate_1 _) (F.newCall_enumerate_1 _) (fun obj => F.args_object_init_2 obj _) F.entry_enumerate_new
    (meets_enumerate_newT l items n dct sl) ⟨hl, ?_⟩
  have hz : (s.heap.push { cls := .type "tuple_iterator", data := .fields #[.ref l, .int 0 0] }).objs.size = s.heap.objs.size + 1 := Heap.size_push ..
  show _ ∧ _
  rw [hz]
  have he : IsEnum ((s.heap.push { cls := .type "tuple_iterator", data := .fields #[.ref l, .int 0 0] }).push
      { cls := .type "enumerate", data := .fields #[.none, .bool false, .ref s.heap.objs.size, rawInt 0, .none, .none] }) (s.heap.objs.size + 1) s.heap.objs.size 0 .none := by
    have := Heap.get?_push_size (s.heap.push { cls := .type "tuple_iterator", data := .fields #[.ref l, .int 0 0] })
      (o := { cls := .type "enumerate", data := .fields #[.none, .bool false, .ref s.heap.objs.size, rawInt 0, .none, .none] }) rfl
    rw [hz] at this; exact this
  refine ⟨⟨_, he, rfl⟩, h _ he ⟨_, Heap.get?_push_of_some _ (Heap.get?_push_size _ rfl), rfl, rfl⟩ (by rw [Heap.size_push, hz]) fun b o x => Heap.get?_push_of_some _ (Heap.get?_push_of_some _ x)⟩
theorem sq_begin {Q : Value → Shared → Prop} {X : Cx} {s : Shared} {E : Value → Shared → Prop} {its : Array Value} {k : Src} {a : Addr} (p : SeqOf s.heap k a its)
    (h : ∀ h', IsEnum h' (s.heap.objs.size + 1) s.heap.objs.size 0 .none → IterAt h' k s.heap.objs.size a 0 → (∀ b o, s.heap.get? b = some o → h'.get? b = some o) → Q (.ref (s.heap.objs.size + 1)) { s with heap := h' }) :
    wpAny (model X.prog X.w) X.A (call (.type "enumerate") [.ref a]) Q E s := by
  cases k with
  | l => exact call_enumerate_list p fun h' he hit hsz hk => h h' he hit hk
  | t => exact call_enumerate_tuple p fun h' he hit hsz hk => h h' he hit hk
theorem pi_enumS {X : Cx} {e : Expr} {te : TE} {p pos tpos : Pos} {elts : List Expr} {kk : Nat} (hg : Gl X "enumerate") (hm : X.mg "enumerate" = none) (he : PE X e te) (hp : plainE e = true) :
    PI X (.Tuple elts kk tpos) (.Call (.Name "enumerate" p) [e] [] pos) (iEnumS X.K te) := by
  refine ⟨fun pins s σ H R I h => ?_⟩
  have hs : starEach [e] X.env = [(false, eval e X.env)] := starEach_plain (plainE_ne hp)
  have hh : tCons te tNil σ H fun vs H1 => ∃ k a xs, vs = [V.ref a] ∧ SqS X.K H1 k a xs ∧ R (ItE X.K k a) H1 := h
  have ha := pa_cons he pa_nil (starEach_plain (es := []) (env := X.env) (plainE_ne hp))
  refine Call_ (ld_blt I hg hm boot_enumerate (PyProof.Rows.callWith_type1 (thn (ha.run pos pins s σ H _ I hh) fun us s1 ⟨vs, H1, I1, r1, q1⟩ => ?_) hs rfl))
  obtain ⟨k, a, xs, rfl, hq, q⟩ := q1
  cases r1 with
  | cons r rr =>
    cases rr
    cases r
    obtain ⟨its, rv, p'⟩ := src_of I1 hq
    refine sq_begin p' fun h' he hit hk => wpAny_pyIter_enum he ?_
    have I2 : Inv X pins σ H1 { s1 with heap := h' } := I1.kept (t' := s1.toks) hk
    refine ⟨s1.heap.objs.size + 1, [s1.heap.objs.size + 1, s1.heap.objs.size], _, _, H1, rfl, I2, turn_enumS k a (s1.heap.objs.size + 1) s1.heap.objs.size, ⟨⟨.none, he⟩, hit, Nat.succ_ne_self _⟩, fun b hb => ?_, q⟩
    have e' : b = s1.heap.objs.size + 1 ∨ b = s1.heap.objs.size := by simpa using hb
    have hle : s1.heap.objs.size ≤ b := by
      rcases e' with z | z
      · rw [z]; exact Nat.le_add_right _ _
      · rw [z]; exact Nat.le_refl _
    exact I1.fpOk hle (I1.hok.fresh hle)

/-! ### zip -/
def ItZ (K : PySem.W.Frag) (k : Src) (a : Addr) (k' : Src) (b : Addr) : It :=
  ⟨fun i H => ∃ (xs ys : List V) (x y : V), SqS K H k a xs ∧ SqS K H k' b ys ∧ xs[i]? = some x ∧ ys[i]? = some y,
    fun i H v H' => ∃ T x y, v = .ref T ∧ H T = none ∧ H' = upd H T (.tup [x, y]) ∧ (∀ xs, SqS K H k a xs → xs[i]? = some x) ∧ ∀ ys, SqS K H k' b ys → ys[i]? = some y,
    fun i H => ∃ xs ys : List V, SqS K H k a xs ∧ SqS K H k' b ys ∧ i ≤ xs.length ∧ i ≤ ys.length ∧ (i = xs.length ∨ i = ys.length)⟩
theorem turn_zipS {P : Program} {w : World} {K : PySem.W.Frag} {elts : List Expr} {kk : Nat} {tpos : Pos} (k k' : Src) {a b z TI TO i1 i2 : Addr} (D : ZipSep2 z TI TO i1 i2 [i1, a] [i2, b]) :
    Turn P w K (.Tuple elts kk tpos) (ItZ K k a k' b) [z, TI, TO, i1, i2] z (fun i h => IsZip h z TI TO .none ∧ IsTupOf2 h TI (.ref i1) (.ref i2) ∧ (∃ x y, IsTupOf2 h TO x y) ∧ IterAt h k i1 a i ∧ IterAt h k' i2 b i) where
  mem := by simp
  obj := fun i h st c hc => by
    obtain ⟨hz, hTI, ⟨x, y, hTO⟩, h1, h2⟩ := st
    obtain ⟨o1, _, e1, _, _, _, _, d1⟩ := h1.obj
    obtain ⟨o2, _, e2, _, _, _, _, d2⟩ := h2.obj
    have e' : c = z ∨ c = TI ∨ c = TO ∨ c = i1 ∨ c = i2 := by simpa using hc
    rcases e' with q | q | q | q | q
    · rw [q]; exact ⟨_, hz, fun v q => nomatch q⟩
    · rw [q]; exact ⟨_, hTI, fun v q => nomatch q⟩
    · rw [q]; exact ⟨_, hTO, fun v q => nomatch q⟩
    · rw [q]; exact ⟨o1, e1, d1⟩
    · rw [q]; exact ⟨o2, e2, d2⟩
  keep := fun i h h' st kp => by
    obtain ⟨hz, hTI, ⟨x, y, hTO⟩, h1, h2⟩ := st
    exact ⟨kp z (by simp) _ hz, kp TI (by simp) _ hTI, ⟨x, y, kp TO (by simp) _ hTO⟩, h1.at fun o q => kp i1 (by simp) o q, h2.at fun o q => kp i2 (by simp) o q⟩
  item := by
    intro X hP hw hK hc i pins s σ H E I hf st hg
    subst hP hw hK
    obtain ⟨hz, hTI, ⟨x0, y0, hTO⟩, h1, h2⟩ := st
    obtain ⟨xs, ys, x, y, hqx, hqy, hx, hy⟩ := hg
    obtain ⟨its, rv, p⟩ := src_of I hqx
    obtain ⟨its2, rv2, p2⟩ := src_of I hqy
    obtain ⟨u, hu, ru⟩ := rv.get hx
    obtain ⟨u2, hu2, ru2⟩ := rv2.get hy
    have hzl : z < s.heap.objs.size := Heap.lt_size hz
    obtain ⟨o1, n1, e1, c1, m1, m2, _, _⟩ := h1.obj
    obtain ⟨o2, n2, e2, c2, m3, m4, _, _⟩ := h2.obj
    have ha1 : i1 ≠ a := p.ne e1 c1 m1 m2
    have hb2 : i2 ≠ b := p2.ne e2 c2 m3 m4
    have hlt1 : i < its.toArray.size := by
      have := (List.getElem?_eq_some_iff.mp hu).1
      simpa using this
    have hlt2 : i < its2.toArray.size := by
      have := (List.getElem?_eq_some_iff.mp hu2).1
      simpa using this
    refine wpAny_pyNext_zipD2_item D (draws_src (A := X.A.in1) (I.ok.hd hc) k i1 a (Ne.symm ha1) its.toArray) (draws_src (A := X.A.in1) (I.ok.hd hc) k' i2 b (Ne.symm hb2) its2.toArray) hz hTI hTO ⟨h1, p⟩ ⟨h2, p2⟩ hlt1 hlt2
      fun y1 y2 h' tk g1 g2 z' TO' h1' h2' hT hsz hk => ?_
    have ey : y1 = u := by
      have : its[i]? = some y1 := by simpa using g1
      rw [hu] at this
      exact (Option.some.inj this).symm
    have ey2 : y2 = u2 := by
      have : its2[i]? = some y2 := by simpa using g2
      rw [hu2] at this
      exact (Option.some.inj this).symm
    subst ey ey2
    refine ⟨_, rfl, wpAny_letOwnedTupleGo_zip (s := { s with heap := h', toks := tk }) z' fun h'' z'' sb => ?_⟩
    have hT2 : h''.get? s.heap.objs.size = some { cls := .type "tuple", data := .seq #[y1, y2] } := (sb.2 _ (Nat.ne_of_gt hzl)).trans hT
    have new : ObjOk X.prog X.w (upd H s.heap.objs.size (.tup [x, y])) h'' s.heap.objs.size (.tup [x, y]) :=
      ⟨by show 2 ≤ sizeLine; decide, [y1, y2], .cons ru (.cons ru2 .nil), ⟨_, hT2, rfl, _, rfl⟩⟩
    have I1 : Inv X pins σ (upd H s.heap.objs.size (.tup [x, y])) { s with heap := h'', toks := tk } :=
      I.turnedNew (t' := tk) (ch := [z, TI, TO, i1, i2]) (fun c o hb q => (sb.2 c (fun q' => hb (by simp [q']))).trans (hk c o (fun q' => hb (by simp [q'])) (fun q' => hb (by simp [q'])) (fun q' => hb (by simp [q'])) (fun q' => hb (by simp [q'])) q)) hf (Nat.le_refl _) new
    refine ⟨.ref s.heap.objs.size, _, I1, rfl, ⟨_, x, y, rfl, I.hok.fresh (Nat.le_refl _), rfl, fun l hl => by rw [src_inj I hl hqx]; exact hx, fun l hl => by rw [src_inj I hl hqy]; exact hy⟩, ⟨z'', ?_, ⟨y1, y2, ?_⟩, ?_, ?_⟩, fun c hcm => ?_⟩
    · exact (sb.2 _ D.TIz).trans (hk _ _ D.TIz D.TITO D.TIi1 D.TIi2 hTI)
    · exact (sb.2 _ D.TOz).trans TO'
    · exact h1'.1.at fun o q => (sb.2 _ (Ne.symm D.zi1)).trans q
    · exact h2'.1.at fun o q => (sb.2 _ (Ne.symm D.zi2)).trans q
    · have hlt : c < s.heap.objs.size := by
        have e' : c = z ∨ c = TI ∨ c = TO ∨ c = i1 ∨ c = i2 := by simpa using hcm
        rcases e' with q | q | q | q | q
        · rw [q]; exact hzl
        · rw [q]; exact Heap.lt_size hTI
        · rw [q]; exact Heap.lt_size hTO
        · rw [q]; exact Heap.lt_size e1
        · rw [q]; exact Heap.lt_size e2
      rw [upd_ne (Nat.ne_of_lt hlt)]
      exact (hf c hcm).1
  done := by
    intro X hP hw hK hc i pins s σ H E I hf st hg
    subst hP hw hK
    obtain ⟨hz, hTI, ⟨x0, y0, hTO⟩, h1, h2⟩ := st
    obtain ⟨xs, ys, hqx, hqy, hle1, hle2, hend⟩ := hg
    obtain ⟨its, rv, p⟩ := src_of I hqx
    obtain ⟨its2, rv2, p2⟩ := src_of I hqy
    obtain ⟨o1, n1, e1, c1, m1, m2, _, _⟩ := h1.obj
    obtain ⟨o2, n2, e2, c2, m3, m4, _, _⟩ := h2.obj
    have ha1 : i1 ≠ a := p.ne e1 c1 m1 m2
    have hb2 : i2 ≠ b := p2.ne e2 c2 m3 m4
    have l1 := rv.length
    have l2 := rv2.length
    rw [l1] at hle1 hend
    rw [l2] at hle2 hend
    exact wpAny_pyNext_zipD2_end D (draws_src (A := X.A.in1) (I.ok.hd hc) k i1 a (Ne.symm ha1) its.toArray) (draws_src (A := X.A.in1) (I.ok.hd hc) k' i2 b (Ne.symm hb2) its2.toArray) hz hTI hTO ⟨h1, p⟩ ⟨h2, p2⟩
      (by simpa using hle1) (by simpa using hle2) (by simpa using hend) fun h' tk hk => ⟨rfl, I.turnedL (t' := tk) (ch := [z, TI, TO, i1, i2]) (fun c o hb q =>
      hk c o (fun q' => hb (by simp [q'])) (fun q' => hb (by simp [q'])) (fun q' => hb (by simp [q'])) (fun q' => hb (by simp [q'])) q) hf⟩
  self := fun A i s Q E st h => wpAny_pyIter_zip st.1 h
def iZipS (K : PySem.W.Frag) (te tf : TE) : TI := fun σ H R => te σ H fun v H1 => tf σ H1 fun w H2 => ∃ k a xs k' b ys, [v, w] = [V.ref a, V.ref b] ∧ SqS K H2 k a xs ∧ SqS K H2 k' b ys ∧ R (ItZ K k a k' b) H2
theorem pi_zipS {X : Cx} {e e2 : Expr} {te tf : TE} {p pos tpos : Pos} {elts : List Expr} {kk : Nat} (hg : Gl X "zip") (hm : X.mg "zip" = none) (he : PE X e te) (he2 : PE X e2 tf) (hp : plainE e = true) (hp2 : plainE e2 = true) :
    PI X (.Tuple elts kk tpos) (.Call (.Name "zip" p) [e, e2] [] pos) (iZipS X.K te tf) := by
  refine ⟨fun pins s σ H R I h => ?_⟩
  have hh : tCons te (tCons tf tNil) σ H fun vs H2 => ∃ k a xs k' b ys, vs = [V.ref a, V.ref b] ∧ SqS X.K H2 k a xs ∧ SqS X.K H2 k' b ys ∧ R (ItZ X.K k a k' b) H2 := h
  have ha := pa_cons he (pa_cons he2 pa_nil (starEach_plain (es := []) (env := X.env) (plainE_ne hp2))) (starEach_plain (es := [e2]) (env := X.env) (plainE_ne hp))
  refine Call_ (ld_blt I hg hm PyProof.Rows.boot_zip (PyProof.Rows.callWith_type1 (thn (ha.run pos pins s σ H _ I hh) fun us s1 ⟨vs, H1, I1, r1, q1⟩ => ?_)
    (starEach_plain (plainE_ne hp)) (plain_any (by simp [hp2]))))
  obtain ⟨k, a, xs, k', b, ys, rfl, hqx, hqy, q⟩ := q1
  cases r1 with
  | cons r rr =>
    cases rr with
    | cons r' rr =>
      cases rr
      cases r
      cases r'
      obtain ⟨its, rv, p1⟩ := src_of I1 hqx
      obtain ⟨its2, rv2, p2⟩ := src_of I1 hqy
      refine zip_begins2 (begins_src k a its.toArray) (begins_src k' b its2.toArray) p1 p2 fun h' hz hTI hTO h1 h2 hsz hk => wpAny_pyIter_zip hz ?_
      have I2 : Inv X pins σ H1 { s1 with heap := h' } := I1.kept (t' := s1.toks) hk
      have D := zip_sep2 (N := s1.heap.objs.size) (fp1 := [a]) (fp2 := [b]) (by simpa using p1.lt) (by simpa using p2.lt)
      refine ⟨s1.heap.objs.size + 4, [s1.heap.objs.size + 4, s1.heap.objs.size + 2, s1.heap.objs.size + 3, s1.heap.objs.size, s1.heap.objs.size + 1], _, _, H1, rfl, I2, turn_zipS k k' D, ⟨hz, hTI, ⟨_, _, hTO⟩, iterObj_at h1, iterObj_at h2⟩, fun c hcm => ?_, q⟩
      have e' : c = s1.heap.objs.size + 4 ∨ c = s1.heap.objs.size + 2 ∨ c = s1.heap.objs.size + 3 ∨ c = s1.heap.objs.size ∨ c = s1.heap.objs.size + 1 := by simpa using hcm
      have hle : s1.heap.objs.size ≤ c := by
        rcases e' with z | z | z | z | z
        · rw [z]; exact Nat.le_add_right _ _
        · rw [z]; exact Nat.le_add_right _ _
        · rw [z]; exact Nat.le_add_right _ _
        · rw [z]; exact Nat.le_refl _
        · rw [z]; exact Nat.le_add_right _ _
      exact I1.fpOk hle (I1.hok.fresh hle)
/-! ### a list or a tuple itself -/
def ItS (K : PySem.W.Frag) : Src → Addr → It
  | .l, a => Itl K a
  | .t, a => Itt K a
def iSeqS (K : PySem.W.Frag) (te : TE) : TI := fun σ H R => te σ H fun v H1 => ∃ k a xs, v = .ref a ∧ SqS K H1 k a xs ∧ R (ItS K k a) H1
theorem pi_seqS {X : Cx} {tg l : Expr} {tl : TE} (hl : PE X l tl) : PI X tg l (iSeqS X.K tl) := by
  refine ⟨fun pins s σ H R I h => ?_⟩
  refine thn (hl.run pins s σ H _ I h) fun v s1 ⟨x, H1, I1, r1, q1⟩ => ?_
  obtain ⟨k, a, xs, rfl, hq, q⟩ := q1
  cases r1
  have e : ∀ b, b ∈ [s1.heap.objs.size] → FpOk X pins H1 b := fun b hb => by
    have e : b = s1.heap.objs.size := by simpa using hb
    subst e
    exact I1.fpOk (Nat.le_refl _) (I1.hok.fresh (Nat.le_refl _))
  cases k with
  | l =>
    obtain ⟨its, rv, p, hz⟩ := I1.list hq
    refine wpAny_pyIter_list p.isList ?_
    exact ⟨s1.heap.objs.size, [s1.heap.objs.size], _, _, H1, rfl, I1.kept (t' := s1.toks) fun b o e => Heap.get?_push_of_some _ e, turn_list a _, ⟨_, Heap.get?_push_size _ rfl, rfl, rfl⟩, e, q⟩
  | t =>
    obtain ⟨its, rv, p, hz⟩ := I1.tuple hq
    refine wpAny_pyIter_tuple (show s1.heap.IsTuple a its.toArray from p) ?_
    exact ⟨s1.heap.objs.size, [s1.heap.objs.size], _, _, H1, rfl, I1.kept (t' := s1.toks) fun b o e => Heap.get?_push_of_some _ e, turn_tuple a _, ⟨_, Heap.get?_push_size _ rfl, rfl, rfl⟩, e, q⟩
end Mini

set_option Elab.async false
set_option linter.all false
set_option maxRecDepth 100000
set_option maxHeartbeats 1000000
/-! Mini, part G: what loops go over, targets, for, comprehensions. -/
namespace Mini
open PySem L2

/-! ### what a loop goes over: the items; the lists of the store that must stay while it goes -/
structure Its where
  ds : List D
  w : List (Nat × List D)
def watch (w : List (Nat × List D)) (s : S) : Bool := w.all fun p => decide (s[p.1]? = some (.lst p.2))
/-- what is watched of a value that is walked -/
def itsD (d : D) (s : S) : R Its := match d with
  | .tup ds => .ok ⟨ds, []⟩ s
  | .scr ns => .ok ⟨ns.map D.int, []⟩ s
  | .ref n => match s[n]? with
    | some (.lst xs) => .ok ⟨xs, [(n, xs)]⟩ s
    | _ => .bad
  | _ => .bad
def itsQ (ds : List D) (s : S) : R Its := .ok ⟨ds, []⟩ s
def pairsD (i : Nat) : List D → List D
  | [] => []
  | d :: ds => .tup [.int (i : Nat), d] :: pairsD (i + 1) ds
def zipD : List D → List D → List D
  | a :: as, b :: bs => .tup [a, b] :: zipD as bs
  | _, _ => []
def enumI (a : Its) (s : S) : R Its := .ok ⟨pairsD 0 a.ds, a.w⟩ s
def zipI (a b : Its) (s : S) : R Its := if watch a.w s = true ∧ watch b.w s = true then .ok ⟨zipD a.ds b.ds, a.w ++ b.w⟩ s else .bad
def rgI (l : List D) (s : S) : R Its := .ok ⟨l, []⟩ s

section
variable (K : PySem.W.Frag) (mg : Str → Option Value)
/-- J gives the items -/
def ItOk (J : It) (a : Its) (μ0 : List Addr) (H0 : Hp) : Prop := ∀ (i : Nat) (μ : List Addr) (H : Hp) (s : S), Ext K μ0 H0 μ H → Sim K mg μ H s → watch a.w s = true →
  (∀ d, a.ds[i]? = some d → J.go i H ∧ ∀ x H', J.yld i H x H' → Ext K μ H μ H' ∧ Sim K mg μ H' s ∧ Rep K mg μ H' d x) ∧ (i = a.ds.length → J.stop i H)
def TDit (m : M Its) : TI := fun σ H R => ∃ μ env s, Now K mg μ H σ env s ∧ match m env s with
  | .ok a s' => ∀ μ' H' J, Ext K μ H μ' H' → Sim K mg μ' H' s' → watch a.w s' = true → ItOk K mg J a μ' H' → R J H'
  | .bad => False
/-- something that can be walked: it stands as long as the watched lists do -/
def RepW (μ : List Addr) (H : Hp) (a : Its) (v : V) : Prop := ∃ k p, v = .ref p ∧ ∀ μ' H' s', Ext K μ H μ' H' → Sim K mg μ' H' s' → watch a.w s' = true → ∃ vs, SqS K H' k p vs ∧ RepL K mg μ' H' a.ds vs
def TDw (m : M Its) : TE := fun σ H Q => ∃ μ env s, Now K mg μ H σ env s ∧ match m env s with
  | .ok a s' => ∀ μ' H' v, Ext K μ H μ' H' → Sim K mg μ' H' s' → watch a.w s' = true → RepW K mg μ' H' a v → Q v H'
  | .bad => False
end
section
variable {K : PySem.W.Frag} {mg : Str → Option Value} {μ μ' : List Addr} {H H' : Hp} {s s' : S}
theorem watch_at {w : List (Nat × List D)} (h : watch w s = true) {n : Nat} {xs : List D} (hm : (n, xs) ∈ w) : s[n]? = some (.lst xs) := by
  unfold watch at h
  exact of_decide_eq_true (List.all_eq_true.mp h _ hm)
theorem watch_app {w w' : List (Nat × List D)} : watch (w ++ w') s = true ↔ watch w s = true ∧ watch w' s = true := by
  unfold watch
  rw [List.all_append, Bool.and_eq_true]
theorem itsD_rep {d : D} {v : V} {a : Its} {s1 : S} (M : Sim K mg μ H s) (r : Rep K mg μ H d v) (h : itsD d s = .ok a s1) : s1 = s ∧ watch a.w s = true ∧ RepW K mg μ H a v := by
  cases r with
  | tup hs hl =>
    cases h
    exact ⟨rfl, rfl, .t, _, rfl, fun μ' H' s' E M' _ => ⟨_, SqU.t (E.tup true _ _ hs), hl.ext E⟩⟩
  | scr hs =>
    cases h
    exact ⟨rfl, rfl, .l, _, rfl, fun μ' H' s' E M' _ => ⟨_, Scr.sq (E.tup false _ _ hs), scr_rep _⟩⟩
  | @ref n p hn =>
    unfold itsD at h
    simp only at h
    split at h
    · rename_i xs hx
      cases h
      refine ⟨rfl, by simp [watch, hx], .l, p, rfl, fun μ' H' s' E M' hw => ?_⟩
      have hx' := watch_at hw (n := n) (xs := xs) (by simp)
      obtain ⟨vs, h1, h2⟩ := M'.obj _ _ _ (pre_get E.pre hn) hx'
      exact ⟨vs, SqL.of h1, h2⟩
    · cases h
  | _ => cases h
theorem RepN.toW {H0 : Hp} {ds : List D} {v : V} (h : RepN K mg H0 μ H ds v) : RepW K mg μ H ⟨ds, []⟩ v := by
  obtain ⟨a, vs, rfl, h2, h3, h4, h5⟩ := h
  exact ⟨.l, a, rfl, fun μ' H' s' E M' _ => ⟨vs, SqL.of (E.keep a _ h2 h4), h5.ext E⟩⟩
theorem itS_ok {k : Src} {p : Addr} {a : Its} (h : ∀ μ' H' s', Ext K μ H μ' H' → Sim K mg μ' H' s' → watch a.w s' = true → ∃ vs, SqS K H' k p vs ∧ RepL K mg μ' H' a.ds vs) : ItOk K mg (ItS K k p) a μ H := by
  intro i μ' H' s' E M hw
  obtain ⟨vs, hq, rl⟩ := h μ' H' s' E M hw
  refine ⟨fun d hd => ?_, fun e => ?_⟩
  · obtain ⟨v, hv, rv⟩ := rl.get hd
    cases k with
    | l =>
      refine ⟨⟨vs, v, hq, hv⟩, fun x H'' y => ?_⟩
      obtain ⟨rfl, y⟩ := y
      have := y vs hq
      rw [hv] at this
      cases this
      exact ⟨.refl, M, rv⟩
    | t =>
      refine ⟨⟨vs, v, hq, hv⟩, fun x H'' y => ?_⟩
      obtain ⟨rfl, y⟩ := y
      have := y vs hq
      rw [hv] at this
      cases this
      exact ⟨.refl, M, rv⟩
  · rw [e, rl.length]
    cases k with
    | l => exact ⟨vs, hq, Nat.le_refl _⟩
    | t => exact ⟨vs, hq, Nat.le_refl _⟩
theorem pairsD_get : ∀ (ds : List D) (i j : Nat) (d : D), (pairsD i ds)[j]? = some d → ∃ x, ds[j]? = some x ∧ d = .tup [.int ((i + j : Nat) : Int), x]
  | [], _, _, _, h => by simp [pairsD] at h
  | x :: xs, i, 0, d, h => by
    simp [pairsD] at h
    exact ⟨x, rfl, h.symm⟩
  | x :: xs, i, j + 1, d, h => by
    obtain ⟨y, h1, h2⟩ := pairsD_get xs (i + 1) j d (by simpa [pairsD] using h)
    exact ⟨y, by simpa using h1, by rw [h2, show i + 1 + j = i + (j + 1) by omega]⟩
theorem pairsD_len : ∀ (ds : List D) (i : Nat), (pairsD i ds).length = ds.length
  | [], _ => rfl
  | _ :: xs, i => by simp [pairsD, pairsD_len xs]
theorem zipD_get : ∀ (as bs : List D) (j : Nat) (d : D), (zipD as bs)[j]? = some d → ∃ x y, as[j]? = some x ∧ bs[j]? = some y ∧ d = .tup [x, y]
  | [], _, _, _, h => by simp [zipD] at h
  | _ :: _, [], _, _, h => by simp [zipD] at h
  | a :: as, b :: bs, 0, d, h => by
    simp [zipD] at h
    exact ⟨a, b, rfl, rfl, h.symm⟩
  | a :: as, b :: bs, j + 1, d, h => by
    obtain ⟨x, y, h1, h2, h3⟩ := zipD_get as bs j d (by simpa [zipD] using h)
    exact ⟨x, y, by simpa using h1, by simpa using h2, h3⟩
theorem zipD_len : ∀ (as bs : List D), (zipD as bs).length = min as.length bs.length
  | [], _ => by simp [zipD]
  | _ :: _, [] => by simp [zipD]
  | _ :: as, _ :: bs => by
    simp only [zipD, List.length_cons, zipD_len as bs]
    omega
theorem itE_ok {k : Src} {p : Addr} {a : Its} (h : ∀ μ' H' s', Ext K μ H μ' H' → Sim K mg μ' H' s' → watch a.w s' = true → ∃ vs, SqS K H' k p vs ∧ RepL K mg μ' H' a.ds vs) : ItOk K mg (ItE K k p) ⟨pairsD 0 a.ds, a.w⟩ μ H := by
  intro i μ' H' s' E M hw
  obtain ⟨vs, hq, rl⟩ := h μ' H' s' E M hw
  refine ⟨fun d hd => ?_, fun e => ?_⟩
  · obtain ⟨y, hy, rfl⟩ := pairsD_get _ _ _ _ hd
    obtain ⟨v, hv, rv⟩ := rl.get hy
    refine ⟨⟨vs, v, hq, hv⟩, fun x H'' yl => ?_⟩
    obtain ⟨T, x', rfl, hT, rfl, g⟩ := yl
    have := g vs hq
    rw [hv] at this
    cases this
    refine ⟨Ext.laid hT, M.laid hT, .tup upd_same ?_⟩
    rw [Nat.zero_add]
    exact .cons (.int _) (.cons (rv.mono ⟨[], by simp⟩ (sqt_new hT)) .nil)
  · exact ⟨vs, hq, by rw [e, ← rl.length]; exact (pairsD_len _ _).symm⟩
theorem itZ_ok {k k' : Src} {p p' : Addr} {a b : Its} (h : ∀ μ' H' s', Ext K μ H μ' H' → Sim K mg μ' H' s' → watch a.w s' = true → ∃ vs, SqS K H' k p vs ∧ RepL K mg μ' H' a.ds vs)
    (h' : ∀ μ' H' s', Ext K μ H μ' H' → Sim K mg μ' H' s' → watch b.w s' = true → ∃ vs, SqS K H' k' p' vs ∧ RepL K mg μ' H' b.ds vs) : ItOk K mg (ItZ K k p k' p') ⟨zipD a.ds b.ds, a.w ++ b.w⟩ μ H := by
  intro i μ' H' s' E M hw
  obtain ⟨hw1, hw2⟩ := watch_app.mp hw
  obtain ⟨vs, hq, rl⟩ := h μ' H' s' E M hw1
  obtain ⟨ws, hq', rl'⟩ := h' μ' H' s' E M hw2
  refine ⟨fun d hd => ?_, fun e => ?_⟩
  · obtain ⟨y, z, hy, hz, rfl⟩ := zipD_get _ _ _ _ hd
    obtain ⟨v, hv, rv⟩ := rl.get hy
    obtain ⟨w, hw, rw'⟩ := rl'.get hz
    refine ⟨⟨vs, ws, v, w, hq, hq', hv, hw⟩, fun x H'' yl => ?_⟩
    obtain ⟨T, x', y', rfl, hT, rfl, g, g'⟩ := yl
    have := g vs hq
    rw [hv] at this
    cases this
    have := g' ws hq'
    rw [hw] at this
    cases this
    exact ⟨Ext.laid hT, M.laid hT, .tup upd_same (.cons (rv.mono ⟨[], by simp⟩ (sqt_new hT)) (.cons (rw'.mono ⟨[], by simp⟩ (sqt_new hT)) .nil))⟩
  · have e : i = min a.ds.length b.ds.length := e.trans (zipD_len _ _)
    rw [rl.length, rl'.length] at e
    exact ⟨vs, ws, hq, hq', by omega, by omega, by omega⟩
theorem rgD_get {a b : Int} {i : Nat} {d : D} (h : (rgD a b)[i]? = some d) : i < (b - a).toNat ∧ d = .int (a + (i : Nat)) := by
  unfold rgD at h
  rw [List.getElem?_map] at h
  cases e : (List.range (b - a).toNat)[i]? with
  | none => rw [e] at h; cases h
  | some j =>
    rw [e] at h
    cases h
    obtain ⟨h1, h2⟩ := List.getElem?_eq_some_iff.mp e
    rw [List.length_range] at h1
    rw [List.getElem_range] at h2
    subst h2
    exact ⟨h1, rfl⟩
theorem itR_ok {a b : Int} : ItOk K mg (Itr a (b - a).toNat) ⟨rgD a b, []⟩ μ H := by
  intro i μ' H' s' E M hw
  refine ⟨fun d hd => ?_, fun e => ?_⟩
  · obtain ⟨h1, rfl⟩ := rgD_get hd
    refine ⟨h1, fun x H'' y => ?_⟩
    obtain ⟨rfl, rfl⟩ := y
    exact ⟨.refl, M, .int _⟩
  · have e : i = (b - a).toNat := by rw [e]; show (rgD a b).length = _; unfold rgD; simp
    exact Nat.le_of_eq e.symm
end
section
variable {X : Cx} {e e2 tg : Expr} {ma mb : M D} {ml mq : M (List D)} {mw mv : M Its} {pos p : Pos}
theorem r_wV (h : PE X e (TDe X.K X.mg ma)) : PE X e (TDw X.K X.mg (m1 ma itsD)) :=
  PEw h fun σ H Q ⟨μ, env, s, N, h⟩ => by
    refine ⟨μ, env, s, N, ?_⟩
    unfold m1 at h
    cases e1 : ma env s with
    | bad => rw [e1] at h; exact h.elim
    | ok d s1 =>
      rw [e1, R.bind_ok] at h
      intro μ' H' v E M r
      cases e2 : itsD d s1 with
      | bad => rw [e2] at h; exact h.elim
      | ok a s2 =>
        rw [e2] at h
        obtain ⟨rfl, hw, q⟩ := itsD_rep M r e2
        exact h μ' H' v E M hw q
theorem r_wL (h : PE X e (TDl X.K X.mg ml)) : PE X e (TDw X.K X.mg (m1 ml itsQ)) :=
  PEw h fun σ H Q ⟨μ, env, s, N, h⟩ => by
    refine ⟨μ, env, s, N, ?_⟩
    unfold m1 at h
    cases e1 : ml env s with
    | bad => rw [e1] at h; exact h.elim
    | ok ds s1 =>
      rw [e1] at h
      intro μ' H' v E M r
      exact h μ' H' v E M rfl r.toW
theorem RepW.ext {K : PySem.W.Frag} {mg : Str → Option Value} {μ μ' : List Addr} {H H' : Hp} {a : Its} {v : V} (r : RepW K mg μ H a v) (E : Ext K μ H μ' H') : RepW K mg μ' H' a v := by
  obtain ⟨k, p, e, h⟩ := r
  exact ⟨k, p, e, fun μ2 H2 s2 E2 M2 hw => h μ2 H2 s2 (E.trans E2) M2 hw⟩
theorem r_itS (h : PE X e (TDw X.K X.mg mw)) : PI X tg e (TDit X.K X.mg mw) :=
  PIw (pi_seqS h) fun σ H R ⟨μ, env, s, N, h⟩ => by
    refine ⟨μ, env, s, N, ?_⟩
    cases e1 : mw env s with
    | bad => rw [e1] at h; exact h
    | ok a s1 =>
      rw [e1] at h
      intro μ' H' v E M hw ⟨k, q, ev, hp⟩
      obtain ⟨vs, hq, _⟩ := hp μ' H' s1 .refl M hw
      exact ⟨k, q, vs, ev, hq, h μ' H' _ E M hw (itS_ok hp)⟩
theorem r_itE {elts : List Expr} {kk : Nat} {tpos : Pos} (hg : Gl X "enumerate") (hm : X.mg "enumerate" = none) (h : PE X e (TDw X.K X.mg mw)) (hp : plainE e = true) : PI X (.Tuple elts kk tpos) (.Call (.Name "enumerate" p) [e] [] pos) (TDit X.K X.mg (m1 mw enumI)) :=
  PIw (pi_enumS hg hm h hp) fun σ H R ⟨μ, env, s, N, h⟩ => by
    refine ⟨μ, env, s, N, ?_⟩
    unfold m1 at h
    cases e1 : mw env s with
    | bad => rw [e1] at h; exact h
    | ok a s1 =>
      rw [e1] at h
      intro μ' H' v E M hw ⟨k, q, ev, hp⟩
      obtain ⟨vs, hq, _⟩ := hp μ' H' s1 .refl M hw
      exact ⟨k, q, vs, by rw [ev], hq, h μ' H' _ E M hw (itE_ok hp)⟩
theorem r_itZ {elts : List Expr} {kk : Nat} {tpos : Pos} (hg : Gl X "zip") (hm : X.mg "zip" = none) (h : PE X e (TDw X.K X.mg mw)) (h' : PE X e2 (TDw X.K X.mg mv)) (hp : plainE e = true) (hp2 : plainE e2 = true) :
    PI X (.Tuple elts kk tpos) (.Call (.Name "zip" p) [e, e2] [] pos) (TDit X.K X.mg (m2 mw mv zipI)) :=
  PIw (pi_zipS hg hm h h' hp hp2) fun σ H R ⟨μ, env, s, N, h⟩ => by
    refine ⟨μ, env, s, N, ?_⟩
    unfold m2 at h
    cases e1 : mw env s with
    | bad => rw [e1] at h; exact h
    | ok a s1 =>
      rw [e1, Mini.R.bind_ok] at h
      intro μ1 H1 v E1 M1 hw1 r1
      refine ⟨μ1, env, s1, N.step E1 M1, ?_⟩
      cases e2 : mv env s1 with
      | bad => rw [e2] at h; exact h
      | ok b s2 =>
        rw [e2, Mini.R.bind_ok] at h
        intro μ2 H2 w E2 M2 hw2 r2
        obtain ⟨k, q, ev, hq⟩ := r1.ext E2
        obtain ⟨k', q', ew, hq'⟩ := r2
        unfold zipI at h
        by_cases hc : watch a.w s2 = true ∧ watch b.w s2 = true
        · rw [if_pos hc] at h
          obtain ⟨vs, g1, _⟩ := hq μ2 H2 s2 .refl M2 hc.1
          obtain ⟨ws, g2, _⟩ := hq' μ2 H2 s2 .refl M2 hc.2
          exact ⟨k, q, vs, k', q', ws, by rw [ev, ew], g1, g2, h μ2 H2 _ (E1.trans E2) M2 (watch_app.mpr hc) (itZ_ok hq hq')⟩
        · rw [if_neg hc] at h
          exact h.elim
/-! range -/
theorem r_itR1 (hg : Gl X "range") (hm : X.mg "range" = none) (h : PE X e (TDe X.K X.mg ma)) (hp : plainE e = true) : PI X tg (.Call (.Name "range" p) [e] [] pos) (TDit X.K X.mg (m1 (rg1 ma) rgI)) :=
  PIw (pi_range1 hg hm (pa_cons h pa_nil (starEach_plain (plainE_ne hp))) (starEach_plain (plainE_ne hp))) fun σ H R ⟨μ, env, s, N, h⟩ => by
    refine ⟨μ, env, s, N, ?_⟩
    unfold m1 rg1 m1 at h
    cases e1 : ma env s with
    | bad => rw [e1] at h; exact h
    | ok d s1 =>
      rw [e1, Mini.R.bind_ok] at h
      intro μ' H' v E M r
      cases r <;> first
        | exact (h : False).elim
        | (rename_i n
           simp only at h
           by_cases hc : rgOk 0 n = true
           · rw [if_pos hc] at h
             have q := rgOk_ok hc
             refine ⟨n, rfl, q.2.2.1, q.2.2.2.1, h μ' H' _ E M rfl ?_⟩
             have := itR_ok (K := X.K) (mg := X.mg) (μ := μ') (H := H') (a := 0) (b := n)
             rwa [Int.sub_zero] at this
           · rw [if_neg hc] at h
             exact h.elim)
theorem r_itR2 (hg : Gl X "range") (hm : X.mg "range" = none) (h : PE X e (TDe X.K X.mg ma)) (h2 : PE X e2 (TDe X.K X.mg mb)) (hp : plainE e = true) (hp2 : plainE e2 = true) : PI X tg (.Call (.Name "range" p) [e, e2] [] pos) (TDit X.K X.mg (m1 (rg2 ma mb) rgI)) :=
  PIw (pi_range2 hg hm (pa_cons h (pa_cons h2 pa_nil (starEach_plain (plainE_ne hp2))) (starEach_plain (plainE_ne hp))) (by rw [starEach_plain (plainE_ne hp), starEach_plain (plainE_ne hp2)]; rfl) (starEach_plain (plainE_ne hp2))) fun σ H R ⟨μ, env, s, N, h⟩ => by
    refine ⟨μ, env, s, N, ?_⟩
    unfold m1 rg2 m2 at h
    cases e1 : ma env s with
    | bad => rw [e1] at h; exact h
    | ok d s1 =>
      rw [e1, Mini.R.bind_ok] at h
      intro μ1 H1 v E1 M1 r1
      refine ⟨μ1, env, s1, N.step E1 M1, ?_⟩
      cases e2 : mb env s1 with
      | bad => rw [e2] at h; exact h
      | ok d2 s2 =>
        rw [e2, Mini.R.bind_ok] at h
        intro μ' H' w E M r
        cases r1 <;> first
          | exact (h : False).elim
          | (cases r <;> first
              | exact (h : False).elim
              | (rename_i i j
                 simp only at h
                 by_cases hc : rgOk i j = true
                 · rw [if_pos hc] at h
                   have q := rgOk_ok hc
                   exact ⟨i, j, rfl, ⟨q.1, q.2.1, q.2.2.1, q.2.2.2.1⟩, h μ' H' _ (E1.trans E) M rfl itR_ok⟩
                 · rw [if_neg hc] at h
                   exact h.elim))
end

/-! ### targets -/
inductive Tg where
  | nm (i : Nat) | tp (ts : List Tg)
mutual
def Tg.set : Tg → D → Env → Option Env
  | .nm i, d, env => some (env.set i (some d))
  | .tp ts, .tup ds, env => Tg.setL ts ds env
  | .tp _, _, _ => none
def Tg.setL : List Tg → List D → Env → Option Env
  | [], [], env => some env
  | t :: ts, d :: ds, env => (Tg.set t d env).bind fun env' => Tg.setL ts ds env'
  | _, _, _ => none
end
mutual
def Tg.slots : Tg → List Nat
  | .nm i => [i]
  | .tp ts => Tg.slotsL ts
def Tg.slotsL : List Tg → List Nat
  | [] => []
  | t :: ts => Tg.slots t ++ Tg.slotsL ts
end
def slot (N : List Str) (x : Str) : Option Nat := N.findIdx? fun y => decide (y = x)
theorem slot_get {N : List Str} {x : Str} {i : Nat} (h : slot N x = some i) : N[i]? = some x := by
  unfold slot at h
  obtain ⟨h1, h2, _⟩ := List.findIdx?_eq_some_iff_getElem.mp h
  rw [List.getElem?_eq_getElem h1]
  exact congrArg some (of_decide_eq_true h2)
def tgL (f : Expr → Option Tg) : List Expr → Option (List Tg)
  | [] => some []
  | e :: es => match f e, tgL f es with
    | some t, some ts => some (t :: ts)
    | _, _ => none
def tgE (N : List Str) (ok : Str → Bool) : Nat → Expr → Option Tg
  | 0, _ => none
  | n + 1, e => match e with
    | .Name x _ => if ok x = true then (slot N x).map .nm else none
    | .Tuple es _ _ => (tgL (tgE N ok n) es).map .tp
    | _ => none
theorem wipe_at (σ : St) : ∀ (vs : List Nat) (j : Nat), (wipe σ vs)[j]? = if j ∈ vs then (σ[j]?).map fun _ => none else σ[j]?
  | [], j => by simp [wipe]
  | v :: vs, j => by
    unfold wipe
    rw [List.getElem?_set]
    by_cases e : v = j
    · subst e
      have hm : v ∈ v :: vs := List.mem_cons_self
      rw [if_pos rfl, wipe_length, if_pos hm]
      by_cases hl : v < σ.length
      · simp [hl]
      · simp [hl]
    · rw [if_neg e, wipe_at σ vs j]
      by_cases hj : j ∈ vs
      · rw [if_pos hj, if_pos (List.mem_cons_of_mem _ hj)]
      · rw [if_neg hj, if_neg (fun h => by rcases List.mem_cons.mp h with h | h; exact e h.symm; exact hj h)]
theorem wipe_set {σ : St} {i : Nat} {x : Option V} {vs : List Nat} (h : i ∈ vs) : wipe (σ.set i x) vs = wipe σ vs := by
  apply List.ext_getElem?
  intro j
  rw [wipe_at, wipe_at]
  by_cases hj : j ∈ vs
  · rw [if_pos hj, if_pos hj, List.getElem?_set]
    by_cases e : i = j
    · subst e
      rw [if_pos rfl]
      by_cases hl : i < σ.length
      · simp [hl]
      · simp [hl]
    · rw [if_neg e]
  · have ne : i ≠ j := fun e => hj (by rw [← e]; exact h)
    rw [if_neg hj, if_neg hj, List.getElem?_set_ne ne]
section
variable (K : PySem.W.Frag) (mg : Str → Option Value)
def TDg (t : Tg) : TG := fun v σ H Q => ∃ μ env d env1, EnvRep K mg μ H env σ ∧ Rep K mg μ H d v ∧ t.set d env = some env1 ∧ ∀ σ', EnvRep K mg μ H env1 σ' → (∀ vs, (∀ i ∈ t.slots, i ∈ vs) → wipe σ' vs = wipe σ vs) → Q σ' H
def TDgs (ts : List Tg) : TGs := fun vs σ H Q => ∃ μ env ds env1, EnvRep K mg μ H env σ ∧ RepL K mg μ H ds vs ∧ Tg.setL ts ds env = some env1 ∧ ∀ σ', EnvRep K mg μ H env1 σ' → (∀ ws, (∀ i ∈ Tg.slotsL ts, i ∈ ws) → wipe σ' ws = wipe σ ws) → Q σ' H
end
section
variable {X : Cx}
theorem PGw {e : Expr} {t t' : TG} (h : PG X e t) (w : ∀ v σ H Q, t' v σ H Q → t v σ H Q) : PG X e t' := ⟨fun pins s σ H v u Q I r q => h.run pins s σ H v u Q I r (w v σ H Q q)⟩
theorem PGsw {es : List Expr} {t t' : TGs} (h : PGs X es t) (w : ∀ vs σ H Q, t' vs σ H Q → t vs σ H Q) : PGs X es t' := ⟨fun pins s σ H vs us Q I r q => h.run pins s σ H vs us Q I r (w vs σ H Q q)⟩
def isTg : Expr → Bool
  | .Name .. => true
  | .Tuple .. => true
  | _ => false
theorem assignEach_tg {e : Expr} {es : List Expr} {env : PySem.Env} (h : isTg e = true) : assignEach (e :: es) env = (false, assign e env) :: assignEach es env := by
  cases e <;> first | rfl | cases h
theorem tgE_is {N : List Str} {ok : Str → Bool} {n : Nat} {e : Expr} {t : Tg} (h : tgE N ok n e = some t) : isTg e = true := by
  cases n with
  | zero => cases h
  | succ n => cases e <;> first | rfl | cases h
theorem tgL_cons {f : Expr → Option Tg} {e : Expr} {es : List Expr} {ts : List Tg} (h : tgL f (e :: es) = some ts) : ∃ t r, f e = some t ∧ tgL f es = some r ∧ ts = t :: r := by
  unfold tgL at h
  split at h
  · rename_i t r h1 h2
    cases h
    exact ⟨t, r, h1, h2, rfl⟩
  · cases h
theorem assignEach_len {N : List Str} {ok : Str → Bool} {n : Nat} {env : PySem.Env} : ∀ {es : List Expr} {ts : List Tg}, tgL (tgE N ok n) es = some ts → (assignEach es env).length = es.length ∧ (assignEach es env).findIdx? (·.1) = none
  | [], _, _ => ⟨rfl, rfl⟩
  | e :: es, ts, h => by
    obtain ⟨t, r, h1, h2, rfl⟩ := tgL_cons h
    obtain ⟨a, b⟩ := assignEach_len (env := env) h2
    rw [assignEach_tg (tgE_is h1)]
    refine ⟨by simp [a], ?_⟩
    rw [List.findIdx?_cons]
    simp [b]
theorem setL_len : ∀ {ts : List Tg} {ds : List D} {env env1 : Env}, Tg.setL ts ds env = some env1 → ds.length = ts.length
  | [], [], _, _, _ => rfl
  | [], _ :: _, _, _, h => by simp [Tg.setL] at h
  | _ :: _, [], _, _, h => by simp [Tg.setL] at h
  | t :: ts, d :: ds, env, env1, h => by
    simp only [Tg.setL, Option.bind_eq_some_iff] at h
    obtain ⟨e2, _, h2⟩ := h
    simp [setL_len h2]
theorem tgL_len {f : Expr → Option Tg} : ∀ {es : List Expr} {ts : List Tg}, tgL f es = some ts → ts.length = es.length
  | [], ts, h => by cases h; rfl
  | e :: es, ts, h => by
    obtain ⟨t, r, h1, h2, rfl⟩ := tgL_cons h
    simp [tgL_len h2]
theorem r_tg (hN : X.N.Nodup) (hc : X.calm = true) {ok : Str → Bool} (hok : ∀ x, ok x = true → Loc X.env.scope x ∧ (X.fn x = true ∨ X.env.scope.names.lookup x = some .local)) :
    ∀ (n : Nat) (e : Expr) (t : Tg), tgE X.N ok n e = some t → PG X e (TDg X.K X.mg t)
  | 0, _, _, h => by cases h
  | n + 1, e, t, h => by
    have ih := r_tg hN hc hok n
    cases e <;> first
      | cases h; done
      | skip
    case Name x pos =>
      unfold tgE at h
      simp only at h
      by_cases hx : ok x = true
      · rw [if_pos hx] at h
        simp only [Option.map_eq_some_iff] at h
        obtain ⟨i, hi, rfl⟩ := h
        obtain ⟨h1, h2⟩ := hok x hx
        refine PGw (pg_name hN (slot_get hi) h1 h2) fun v σ H Q ⟨μ, env, d, env1, er, rv, hs, k⟩ => ?_
        simp only [Tg.set, Option.some.injEq] at hs
        subst hs
        exact k _ (er.set rv) fun vs hv => wipe_set (hv i (by simp [Tg.slots]))
      · rw [if_neg hx] at h
        cases h
    case Tuple es kk pos =>
      unfold tgE at h
      simp only [Option.map_eq_some_iff] at h
      obtain ⟨ts, hts, rfl⟩ := h
      have many : ∀ (es : List Expr) (ts : List Tg), tgL (tgE X.N ok n) es = some ts → PGs X es (TDgs X.K X.mg ts) := by
        intro es
        induction es with
        | nil =>
          intro ts h
          cases h
          refine PGsw pgs_nil fun vs σ H Q ⟨μ, env, ds, env1, er, rl, hs, k⟩ => ?_
          cases rl with
          | nil =>
            simp only [Tg.setL, Option.some.injEq] at hs
            subst hs
            exact ⟨rfl, k σ er fun _ _ => rfl⟩
          | cons _ _ => simp [Tg.setL] at hs
        | cons e es ihe =>
          intro ts h
          obtain ⟨t, r, h1, h2, rfl⟩ := tgL_cons h
          have p3 : (assignEach (e :: es) X.env).map (·.2) = assign e X.env :: (assignEach es X.env).map (·.2) := by
            rw [assignEach_tg (tgE_is h1)]
            rfl
          refine PGsw (pgs_cons (ih e t h1) (ihe r h2) p3) fun vs σ H Q ⟨μ, env, ds, env1, er, rl, hs, k⟩ => ?_
          cases rl with
          | nil => simp [Tg.setL] at hs
          | cons rd rl =>
            simp only [Tg.setL, Option.bind_eq_some_iff] at hs
            obtain ⟨e2, g1, g2⟩ := hs
            refine ⟨_, _, rfl, μ, env, _, e2, er, rd, g1, fun σ' er' w' => ?_⟩
            refine ⟨μ, e2, _, env1, er', rl, g2, fun σ'' er'' w'' => k σ'' er'' fun ws hw => ?_⟩
            rw [w'' ws fun i hi => hw i (by simp [Tg.slotsL, hi]), w' ws fun i hi => hw i (by simp [Tg.slotsL, hi])]
      obtain ⟨a1, a2⟩ := assignEach_len (env := X.env) hts
      refine PGw (pg_tup hc (many es ts hts) a1 a2) fun v σ H Q ⟨μ, env, d, env1, er, rv, hs, k⟩ => ?_
      cases rv with
      | @tup a vs ds hq rl =>
        have hs : Tg.setL ts ds env = some env1 := by simpa [Tg.set] using hs
        refine ⟨_, _, rfl, hq.t, ?_, μ, env, _, env1, er, rl, hs, fun σ' er' w' => k σ' er' fun ws hw => w' ws fun i hi => hw i (by simpa [Tg.slots] using hi)⟩
        rw [← rl.length, setL_len hs, tgL_len hts]
      | _ => simp [Tg.set] at hs
end

/-! ### for -/
def forGo (tg : Tg) (body : M Fl) (w : List (Nat × List D)) : List D → M Fl
  | [], env, s => .ok (.nx env) s
  | d :: ds, env, s => match tg.set d env with
    | none => .bad
    | some env1 => (body env1 s).bind fun f s2 => match f with
      | .nx e => if watch w s2 = true then forGo tg body w ds e s2 else .bad
      | .ct e => if watch w s2 = true then forGo tg body w ds e s2 else .bad
      | .bk e => .ok (.nx e) s2
      | .rt d => .ok (.rt d) s2
def forM' (it : M Its) (tg : Tg) (body : M Fl) : M Fl := fun env s => (it env s).bind fun a s1 => forGo tg body a.w a.ds env s1
section
variable {X : Cx} {tg iter : Expr} {body : List Stmt} {mi : M Its} {t : Tg} {mb : M Fl} {pos : Pos}
theorem foldedPlain {env : PySem.Env} (h : ∀ es k p, iter ≠ .Set es k p) : ∀ x, foldedSetIterable iter env x = pure x := by
  intro x
  cases iter <;> first | rfl | exact absurd rfl (h _ _ _)
theorem r_for (hp : PassesOwn (model X.prog X.w) X.A X.env X.xe) (hc : X.calm = true) (hi : PI X tg iter (TDit X.K X.mg mi)) (hg : PG X tg (TDg X.K X.mg t)) (hb : PSs X body (TDs X.K X.mg mb)) (hs : ∀ es k p, iter ≠ .Set es k p) :
    PS X (.For tg iter body [] pos) (TDs X.K X.mg (forM' mi t mb)) :=
  PSw (ps_for hp hc hi hg hb (foldedPlain hs)) fun Dn σ H ⟨μ, env, s, N, h⟩ => by
    refine ⟨μ, env, s, N, ?_⟩
    unfold forM' at h
    cases e1 : mi env s with
    | bad => rw [e1] at h; exact h
    | ok a s1 =>
      rw [e1, Mini.R.bind_ok] at h
      intro μ1 H1 J E1 M1 hw hJ
      refine ⟨fun i m σ' H' => m = a.ds.length - i ∧ i ≤ a.ds.length ∧ ∃ μ' env' s', Now X.K X.mg μ' H' σ' env' s' ∧ Ext X.K μ1 H1 μ' H' ∧ watch a.w s' = true ∧ OkS X.K X.mg Dn μ' H' (forGo t mb a.w (a.ds.drop i) env' s'),
        ⟨_, rfl, Nat.zero_le _, μ1, env, s1, N.step E1 M1, .refl, hw, OkS.base h E1⟩, ?_⟩
      rintro i m σ' H' ⟨rfl, hi, μ', env', s', N', E', hw', h'⟩
      obtain ⟨g1, g2⟩ := hJ i μ' H' s' E' N'.sim hw'
      by_cases hlt : i < a.ds.length
      · have hd : a.ds[i]? = some a.ds[i] := List.getElem?_eq_getElem hlt
        obtain ⟨hgo, hyl⟩ := g1 _ hd
        rw [List.drop_eq_getElem_cons hlt] at h'
        refine .inr ⟨hgo, fun σ2 H2 => ∃ μ' env' s', Now X.K X.mg μ' H2 σ2 env' s' ∧ Ext X.K μ1 H1 μ' H2 ∧ watch a.w s' = true ∧ OkS X.K X.mg Dn μ' H2 (forGo t mb a.w (a.ds.drop (i + 1)) env' s'),
          fun σ2 H2 q => ⟨a.ds.length - (i + 1), by omega, rfl, hlt, q⟩, fun x H'' y => ?_⟩
        obtain ⟨Ey, My, ry⟩ := hyl x H'' y
        unfold forGo at h'
        cases et : t.set a.ds[i] env' with
        | none => rw [et] at h'; exact h'.elim
        | some env1 =>
          rw [et] at h'
          simp only at h'
          refine ⟨μ', env', _, env1, N'.er.mono Ey, ry, et, fun σ2 er2 _ => ?_⟩
          refine ⟨μ', env1, s', ⟨er2, My⟩, ?_⟩
          cases eb : mb env1 s' with
          | bad => rw [eb] at h'; exact h'.elim
          | ok f s2 =>
            rw [eb, Mini.R.bind_ok] at h'
            intro μ2 H2 E2 M2
            have E12 : Ext X.K μ' H' μ2 H2 := Ey.trans E2
            cases f with
            | nx e =>
              intro σ3 er3
              simp only at h'
              by_cases hw2 : watch a.w s2 = true
              · rw [if_pos hw2] at h'
                exact ⟨μ2, e, s2, ⟨er3, M2⟩, E'.trans E12, hw2, h'.base E12⟩
              · rw [if_neg hw2] at h'; exact h'.elim
            | ct e =>
              intro σ3 er3
              simp only at h'
              by_cases hw2 : watch a.w s2 = true
              · rw [if_pos hw2] at h'
                exact ⟨μ2, e, s2, ⟨er3, M2⟩, E'.trans E12, hw2, h'.base E12⟩
              · rw [if_neg hw2] at h'; exact h'.elim
            | bk e => exact h' μ2 H2 E12 M2
            | rt d => exact h' μ2 H2 E12 M2
      · have e : i = a.ds.length := by omega
        refine .inl ⟨g2 e, ?_⟩
        rw [e, List.drop_length] at h'
        exact h' μ' H' .refl N'.sim σ' N'.er
end
end Mini

set_option Elab.async false
set_option linter.all false
set_option maxRecDepth 100000
set_option maxHeartbeats 1000000
/-! Mini, part H: comprehensions, statements, calls. -/
namespace Mini
open PySem L2

/-! ### comprehensions -/
def wipeE (env : Env) : List Nat → Env
  | [] => env
  | v :: vs => (wipeE env vs).set v none
def lcGo (w : List (Nat × List D)) (tg : Tg) (tt : M Bool) (te : M D) (env : Env) : List D → S → R (List D)
  | [], s => .ok [] s
  | d :: ds, s => match tg.set d env with
    | none => .bad
    | some env1 => (tt env1 s).bind fun b s1 =>
      if b = true then (te env1 s1).bind fun x s2 => if watch w s2 = true then (lcGo w tg tt te env ds s2).bind fun xs s3 => .ok (x :: xs) s3 else .bad
      else if watch w s1 = true then lcGo w tg tt te env ds s1 else .bad
def lcM (it : M Its) (own : List Nat) (tg : Tg) (tt : M Bool) (te : M D) : M (List D) := fun env s => (it env s).bind fun a s1 =>
  if a.ds.length ≤ sizeLine then lcGo a.w tg tt te (wipeE env own) a.ds s1 else .bad
def yesM : M Bool := fun _ s => .ok true s

section
variable {K : PySem.W.Frag} {mg : Str → Option Value} {μ μ' : List Addr} {H H' : Hp} {s s' : S} {σ : St} {env : Env}
theorem EnvRep.wipe (h : EnvRep K mg μ H env σ) : ∀ vs : List Nat, EnvRep K mg μ H (wipeE env vs) (wipe σ vs)
  | [] => h
  | v :: vs => by
    have ih := EnvRep.wipe h vs
    unfold wipeE L2.wipe
    refine ⟨by simp [ih.len], fun i d q => ?_⟩
    by_cases e : v = i
    · subst e
      by_cases hl : v < (wipeE env vs).length
      · rw [List.getElem?_set_self hl] at q
        cases q
      · rw [List.getElem?_eq_none (by simpa using hl)] at q
        cases q
    · rw [List.getElem?_set_ne e] at q
      obtain ⟨x, h1, h2⟩ := ih.get i d q
      exact ⟨x, by rw [List.getElem?_set_ne e]; exact h1, h2⟩
/-- an object of our own (not of the store, younger than the base) is changed -/
theorem Ext.own {p : Addr} {u o : HO} (E : Ext K μ H μ' H') (h0 : H p = none) (h1 : H' p = some u) (hf : fixedO u = false) : Ext K μ H μ' (upd H' p o) := by
  have ne : ∀ a v, H a = some v → a ≠ p := fun a v h e => by rw [e, h0] at h; cases h
  have hf' : ∀ v, H' p = some v → fixedO v = false := fun v h => by rw [h1] at h; cases h; exact hf
  exact ⟨E.pre, fun t a xs h => sqt_upd hf' t a xs (E.tup t a xs h), fun a o u h => by rw [upd_ne (ne a _ h)]; exact E.lock a o u h, fun a v h n => by rw [upd_ne (ne a _ h)]; exact E.keep a v h n, E.new⟩
theorem Sim.own {p : Addr} {u o : HO} (M : Sim K mg μ H s) (hn : p ∉ μ) (h1 : H p = some u) (hf : fixedO u = false) : Sim K mg μ (upd H p o) s := by
  have hf' : ∀ v, H p = some v → fixedO v = false := fun v h => by rw [h1] at h; cases h; exact hf
  exact ⟨M.len, M.nd, fun n a ob g1 g2 => (M.obj n a ob g1 g2).same (fun v h => by rw [upd_ne (fun e : a = p => hn (by rw [← e]; exact List.mem_of_getElem? g1))]; exact h) ⟨[], by simp⟩ (sqt_upd hf')⟩
theorem EnvRep.own {p : Addr} {u o : HO} (h : EnvRep K mg μ H env σ) (h1 : H p = some u) (hf : fixedO u = false) : EnvRep K mg μ (upd H p o) env σ := by
  have hf' : ∀ v, H p = some v → fixedO v = false := fun v h => by rw [h1] at h; cases h; exact hf
  exact ⟨h.len, fun i d q => let ⟨v, a, b⟩ := h.get i d q; ⟨v, a, b.mono ⟨[], by simp⟩ (sqt_upd hf')⟩⟩
end
section
variable {X : Cx} {tg iter elt : Expr} {ifs : List Expr} {scope : Scope} {own : List (Str × Nat)} {mi : M Its} {t : Tg} {mt : M Bool} {me : M D} {pos : Pos}
theorem PTsw {ifs : List Expr} {t t' : TT} (h : PTs X ifs t) (w : ∀ σ H Q, t' σ H Q → t σ H Q) : PTs X ifs t' := ⟨fun pins s σ H Q I q => h.run pins s σ H Q I (w σ H Q q)⟩
theorem r_noIf : PTs X [] (TDt X.K X.mg yesM) := PTsw pts_nil fun σ H Q ⟨μ, env, s, N, h⟩ => h.here N.sim rfl
theorem r_oneIf {c : Expr} (h : PT X c (TDt X.K X.mg mt)) : PTs X [c] (TDt X.K X.mg mt) := pts_one h
theorem wipe_wipe (σ : St) (vs : List Nat) : wipe (wipe σ vs) vs = wipe σ vs := by
  apply List.ext_getElem?
  intro j
  rw [wipe_at, wipe_at]
  by_cases hj : j ∈ vs
  · simp only [if_pos hj, wipe_at]
    cases σ[j]? <;> rfl
  · simp [hj]
theorem lc_run {K : PySem.W.Frag} {mg : Str → Option Value} {own : List Nat} (ht : ∀ i ∈ t.slots, i ∈ own) {σ : St} {H : Hp} {Q : VK} (h : TDl K mg (lcM mi own t mt me) σ H Q) :
    tLc (TDit K mg mi) (TDg K mg t) (TDt K mg mt) (TDe K mg me) own σ H Q := by
  obtain ⟨μ, env, s, N, h⟩ := h
  refine ⟨μ, env, s, N, ?_⟩
  unfold lcM at h
  cases e1 : mi env s with
  | bad => rw [e1] at h; exact h
  | ok a s1 =>
    rw [e1, R.bind_ok] at h
    intro μ1 H1 J E1 M1 hw hJ D hD
    by_cases hlen : a.ds.length ≤ sizeLine
    · rw [if_pos hlen] at h
      have D0 : H D = none := E1.free M1 hD
      obtain ⟨T, hT⟩ : ∃ T, lcGo a.w t mt me (wipeE env own) a.ds s1 = T := ⟨_, rfl⟩
      rw [hT] at h
      -- the invariant
      let Inv := fun (i : Nat) (H' : Hp) => ∃ μ' s' acc vs, EnvRep K mg μ' H' (wipeE env own) (wipe σ own) ∧ Sim K mg μ' H' s' ∧ Ext K μ1 H1 μ' H' ∧ watch a.w s' = true ∧ H' D = some (.lst vs) ∧ D ∉ μ' ∧ RepL K mg μ' H' acc vs ∧ acc.length ≤ i ∧
        T = (lcGo a.w t mt me (wipeE env own) (a.ds.drop i) s').bind fun xs s3 => .ok (acc ++ xs) s3
      have hDμ : D ∉ μ1 := M1.fresh hD
      refine ⟨fun i m H' => m = a.ds.length - i ∧ i ≤ a.ds.length ∧ Inv i H', ⟨_, rfl, Nat.zero_le _, μ1, s1, [], [], ?_, M1.laid hD, Ext.laid hD, hw, upd_same, hDμ, .nil, Nat.zero_le _, ?_⟩, ?_⟩
      · exact ((N.er.mono E1).wipe own).mono (Ext.laid hD)
      · rw [List.drop_zero, hT]
        cases T <;> rfl
      rintro i m H' ⟨rfl, hi, μ', s', acc, vs, er, M', E', hw', hv, hnD, rl, hal, heq⟩
      obtain ⟨g1, g2⟩ := hJ i μ' H' s' E' M' hw'
      by_cases hlt : i < a.ds.length
      · have hd : a.ds[i]? = some a.ds[i] := List.getElem?_eq_getElem hlt
        obtain ⟨hgo, hyl⟩ := g1 _ hd
        rw [List.drop_eq_getElem_cons hlt] at heq
        refine .inr ⟨hgo, fun H2 => Inv (i + 1) H2, fun H2 q => ⟨a.ds.length - (i + 1), by omega, rfl, hlt, q⟩, fun x H'' y => ?_⟩
        obtain ⟨Ey, My, ry⟩ := hyl x H'' y
        unfold lcGo at heq
        cases et : t.set a.ds[i] (wipeE env own) with
        | none =>
          rw [et] at heq
          have heq : T = .bad := heq
          rw [heq] at h
          exact h.elim
        | some env1 =>
          rw [et] at heq
          simp only at heq
          refine ⟨μ', _, _, env1, er.mono Ey, ry, et, fun σ2 er2 w2 => ⟨(w2 own ht).trans (wipe_wipe σ own), ?_⟩⟩
          refine ⟨μ', env1, s', ⟨er2, My⟩, ?_⟩
          cases eb : mt env1 s' with
          | bad =>
            rw [eb] at heq
            have heq : T = .bad := heq
            rw [heq] at h
            exact h.elim
          | ok b s2 =>
            rw [eb, R.bind_ok] at heq
            intro μ2 H2 b' E2 M2 rb
            subst rb
            have Ey2 := Ey.trans E2
            have hv2 : H2 D = some (.lst vs) := Ey2.keep D _ hv hnD
            have hn2 : D ∉ μ2 := fun hm => by
              have := Ey2.new D hm hnD
              rw [hv] at this
              cases this
            cases b with
            | false =>
              simp only [Bool.false_eq_true, if_false] at heq ⊢
              by_cases hw2 : watch a.w s2 = true
              · rw [if_pos hw2] at heq
                exact ⟨μ2, s2, acc, vs, er.mono Ey2, M2, E'.trans Ey2, hw2, hv2, hn2, rl.ext Ey2, by omega, heq⟩
              · rw [if_neg hw2] at heq
                have heq : T = .bad := heq
                rw [heq] at h
                exact h.elim
            | true =>
              simp only [if_true] at heq ⊢
              refine ⟨μ2, env1, s2, ⟨er2.mono E2, M2⟩, ?_⟩
              cases ee : me env1 s2 with
              | bad =>
                rw [ee] at heq
                have heq : T = .bad := heq
                rw [heq] at h
                exact h.elim
              | ok z s3 =>
                rw [ee, R.bind_ok] at heq
                intro μ3 H3 zv E3 M3 rz
                have Ey3 := Ey2.trans E3
                have hv3 : H3 D = some (.lst vs) := Ey3.keep D _ hv hnD
                have hn3 : D ∉ μ3 := fun hm => by
                  have := Ey3.new D hm hnD
                  rw [hv] at this
                  cases this
                by_cases hw3 : watch a.w s3 = true
                · rw [if_pos hw3] at heq
                  have rl3 := rl.ext Ey3
                  refine ⟨vs, hv3, by rw [← rl.length]; omega, μ3, s3, acc ++ [z], vs ++ [zv], (er.mono Ey3).own hv3 rfl, M3.own hn3 hv3 rfl, (E'.trans Ey3).own hD hv3 rfl, hw3, upd_same, hn3, ?_, by simp; omega, ?_⟩
                  · exact (rl3.append (.cons rz .nil)).mono ⟨[], by simp⟩ (sqt_upd fun u hu => by rw [hv3] at hu; cases hu; rfl)
                  · rw [heq]
                    cases lcGo a.w t mt me (wipeE env own) (a.ds.drop (i + 1)) s3 with
                    | bad => rfl
                    | ok xs s4 => show R.ok (acc ++ (z :: xs)) s4 = R.ok (acc ++ [z] ++ xs) s4; simp
                · rw [if_neg hw3] at heq
                  have heq : T = .bad := heq
                  rw [heq] at h
                  exact h.elim
      · have e : i = a.ds.length := by omega
        refine .inl ⟨g2 e, ?_⟩
        rw [e, List.drop_length] at heq
        have heq : T = .ok (acc ++ []) s' := heq
        rw [heq, List.append_nil] at h
        refine h μ' H' (.ref D) (E1.trans E') M' ⟨D, vs, rfl, hv, D0, hnD, rl⟩
    · rw [if_neg hlen] at h
      exact h.elim
theorem r_lc (hc : X.calm = true) (hN : X.N.Nodup) (hi : PI X tg iter (TDit X.K X.mg mi)) (ok : BlkOk X.N X.env.scope scope own) (hsl : ∀ i ∈ t.slots, i ∈ own.map (·.2))
    (hg : ∀ (s : Shared) (H : Hp) (C : Addr) (cl : List (Str × Addr)) (fp : List Addr), PG (X.blk s H scope (compEnvC scope cl C X.env) fp) tg (TDg X.K X.mg t))
    (ht : ∀ (s : Shared) (H : Hp) (C : Addr) (cl : List (Str × Addr)) (fp : List Addr), PTs (X.blk s H scope (compEnvC scope cl C X.env) fp) ifs (TDt X.K X.mg mt))
    (he : ∀ (s : Shared) (H : Hp) (C : Addr) (cl : List (Str × Addr)) (fp : List Addr), PE (X.blk s H scope (compEnvC scope cl C X.env) fp) elt (TDe X.K X.mg me)) (hs : ∀ es k p, iter ≠ .Set es k p) :
    PE X (.ListComp elt [⟨tg, iter, ifs, 0⟩] scope pos) (TDl X.K X.mg (lcM mi (own.map (·.2)) t mt me)) :=
  PEw (pe_lc hc hN hi ok hg ht he (foldedPlain hs)) fun σ H Q h => lc_run hsl h
end

/-! ### while -/
def whGo (c : M Bool) (body : M Fl) : Nat → M Fl
  | 0, _, _ => .bad
  | n + 1, env, s => (c env s).bind fun b s1 => if b = true then (body env s1).bind fun f s2 => match f with
      | .nx e => whGo c body n e s2
      | .ct e => whGo c body n e s2
      | .bk e => .ok (.nx e) s2
      | .rt d => .ok (.rt d) s2
    else .ok (.nx env) s1
section
variable {X : Cx} {c : Expr} {body : List Stmt} {mc : M Bool} {mb : M Fl} {pos : Pos}
theorem r_while (n : Nat) (hp : PassesOwn (model X.prog X.w) X.A X.env X.xe) (hc : PT X c (TDt X.K X.mg mc)) (hb : PSs X body (TDs X.K X.mg mb)) : PS X (.While c body [] pos) (TDs X.K X.mg (whGo mc mb n)) :=
  PSw (ps_while hp hc hb) fun Dn σ H ⟨μ, env, s, N, h⟩ => by
    refine ⟨fun m σ' H' => ∃ μ' env' s', Now X.K X.mg μ' H' σ' env' s' ∧ Ext X.K μ H μ' H' ∧ OkS X.K X.mg Dn μ' H' (whGo mc mb m env' s'), ⟨n, μ, env, s, N, .refl, h⟩, ?_⟩
    rintro m σ' H' ⟨μ', env', s', N', E', h'⟩
    cases m with
    | zero => exact (h' : False).elim
    | succ m =>
      unfold whGo at h'
      refine ⟨μ', env', s', N', ?_⟩
      cases ec : mc env' s' with
      | bad => rw [ec] at h'; exact h'.elim
      | ok b s1 =>
        rw [ec, R.bind_ok] at h'
        intro μ1 H1 b' E1 M1 rb
        subst rb
        cases b with
        | false =>
          simp only [Bool.false_eq_true, if_false] at h' ⊢
          exact h' μ1 H1 E1 M1 _ (N'.er.mono E1)
        | true =>
          simp only [if_true] at h' ⊢
          refine ⟨fun σ2 H2 => ∃ μ' env' s', Now X.K X.mg μ' H2 σ2 env' s' ∧ Ext X.K μ H μ' H2 ∧ OkS X.K X.mg Dn μ' H2 (whGo mc mb m env' s'), fun σ2 H2 q => ⟨m, Nat.lt_succ_self _, q⟩, ?_⟩
          refine ⟨μ1, env', s1, N'.step E1 M1, ?_⟩
          cases eb : mb env' s1 with
          | bad => rw [eb] at h'; exact h'.elim
          | ok f s2 =>
            rw [eb, R.bind_ok] at h'
            intro μ2 H2 E2 M2
            have E12 := E1.trans E2
            cases f with
            | nx e => exact fun σ3 er3 => ⟨μ2, e, s2, ⟨er3, M2⟩, E'.trans E12, OkS.base h' E12⟩
            | ct e => exact fun σ3 er3 => ⟨μ2, e, s2, ⟨er3, M2⟩, E'.trans E12, OkS.base h' E12⟩
            | bk e => exact h' μ2 H2 E12 M2
            | rt d => exact h' μ2 H2 E12 M2
end

/-! ### statements -/
def skipM : M Fl := fun env s => .ok (.nx env) s
def seqS (a b : M Fl) : M Fl := fun env s => (a env s).bind fun f s1 => match f with
  | .nx e => b e s1
  | f => .ok f s1
def dropM {α : Type} (a : M α) : M Fl := fun env s => (a env s).bind fun _ s1 => .ok (.nx env) s1
def retM (a : M D) : M Fl := m1 a fun d s => .ok (.rt d) s
def brkM : M Fl := fun env s => .ok (.bk env) s
def cntM : M Fl := fun env s => .ok (.ct env) s
def setM (t : Tg) (a : M D) : M Fl := fun env s => (a env s).bind fun d s1 => match t.set d env with
  | some e => .ok (.nx e) s1
  | none => .bad
def setFD (ok : Str → Bool) (f : Str) (d o : D) (s : S) : R Unit := match o with
  | .ref n => match s[n]? with
    | some (.ins C fs) => if ok C = true ∧ fs.length < 1000 then .ok () (s.set n (.ins C (putD f d fs))) else .bad
    | _ => .bad
  | _ => .bad
/-- o.f = v -/
def setFM (ok : Str → Bool) (f : Str) (v o : M D) : M Fl := fun env s => (v env s).bind fun d s1 => (o env s1).bind fun x s2 => (setFD ok f d x s2).bind fun _ s3 => .ok (.nx env) s3
def setID (d o i : D) (s : S) : R Unit := match o, i with
  | .ref n, .int k => match s[n]? with
    | some (.lst xs) => match ixN xs.length k with
      | some j => .ok () (s.set n (.lst (xs.set j d)))
      | none => .bad
    | _ => .bad
  | _, _ => .bad
/-- o[i] = v -/
def setIM (v o i : M D) : M Fl := fun env s => (v env s).bind fun d s1 => (o env s1).bind fun x s2 => (i env s2).bind fun k s3 => (setID d x k s3).bind fun _ s4 => .ok (.nx env) s4
section
variable {X : Cx} {pos : Pos} {st : Stmt} {rest : List Stmt} {ms mr : M Fl} {e o i c : Expr} {me mo mi : M D} {mc : M Bool}
theorem r_snil : PSs X [] (TDs X.K X.mg skipM) := PSsw pss_nil fun Dn σ H ⟨μ, env, s, N, h⟩ => h μ H .refl N.sim σ N.er
theorem r_scons (h1 : PS X st (TDs X.K X.mg ms)) (h2 : PSs X rest (TDs X.K X.mg mr)) : PSs X (st :: rest) (TDs X.K X.mg (seqS ms mr)) :=
  PSsw (pss_cons h1 h2) fun Dn σ H ⟨μ, env, s, N, h⟩ => by
    obtain ⟨f, s1, e1, h⟩ := OkS.bind h
    refine ⟨μ, env, s, N, ?_⟩
    rw [e1]
    intro μ1 H1 E1 M1
    cases f with
    | nx e => exact fun σ' er => ⟨μ1, e, s1, ⟨er, M1⟩, OkS.base h E1⟩
    | rt d => exact h μ1 H1 E1 M1
    | bk e => exact h μ1 H1 E1 M1
    | ct e => exact h μ1 H1 E1 M1
theorem r_sone (h1 : PS X st (TDs X.K X.mg ms)) : PSs X [st] (TDs X.K X.mg ms) := PSsw (pss_one h1) fun _ _ _ h => h
theorem r_pass : PS X (.Pass pos) (TDs X.K X.mg skipM) := PSw ps_pass fun Dn σ H ⟨μ, env, s, N, h⟩ => h μ H .refl N.sim σ N.er
theorem r_break : PS X (.Break pos) (TDs X.K X.mg brkM) := PSw ps_break fun Dn σ H ⟨μ, env, s, N, h⟩ => h μ H .refl N.sim σ N.er
theorem r_continue : PS X (.Continue pos) (TDs X.K X.mg cntM) := PSw ps_continue fun Dn σ H ⟨μ, env, s, N, h⟩ => h μ H .refl N.sim σ N.er
theorem run_drop {K : PySem.W.Frag} {mg : Str → Option Value} {m : M D} {Dn : Ends} {σ : St} {H : Hp} (h : TDs K mg (dropM m) Dn σ H) : TDe K mg m σ H fun _ H1 => Dn.nx σ H1 := by
  obtain ⟨μ, env, s, N, h⟩ := h
  obtain ⟨d, s1, e1, h⟩ := OkS.bind h
  exact ⟨μ, env, s, N, Ok.thn e1 fun μ1 H1 v E1 M1 _ => h μ1 H1 E1 M1 σ (N.er.mono E1)⟩
def notComp : Expr → Bool
  | .ListComp .. | .SetComp .. | .DictComp .. => false
  | _ => true
theorem swaps_no {target : Option Expr} {l : Nat} {env : PySem.Env} (h : notComp e = true) : swapsWith e target l env = pure false := by
  cases e <;> first | rfl | cases h
theorem r_expr (he : PE X e (TDe X.K X.mg me)) (h : notComp e = true) : PS X (.Expr e pos) (TDs X.K X.mg (dropM me)) := PSw (ps_expr he (swaps_no h)) fun Dn σ H h => run_drop h
theorem r_ret (he : PE X e (TDe X.K X.mg me)) : PS X (.Return (some e) pos) (TDs X.K X.mg (retM me)) := PSw (ps_ret he) fun Dn σ H ⟨μ, env, s, N, h⟩ => by
  obtain ⟨d, s1, e1, h⟩ := OkS.bind h
  exact ⟨μ, env, s, N, Ok.thn e1 fun μ1 H1 v E1 M1 r1 => h μ1 H1 E1 M1 v r1⟩
theorem r_retN : PS X (.Return none pos) (TDs X.K X.mg (retM (constM .non))) := PSw ps_retN fun Dn σ H ⟨μ, env, s, N, h⟩ => h μ H .refl N.sim .non .non
theorem r_if {a b : List Stmt} {ma mb : M Fl} (hc : PT X c (TDt X.K X.mg mc)) (ha : PSs X a (TDs X.K X.mg ma)) (hb : PSs X b (TDs X.K X.mg mb)) : PS X (.If c a b pos) (TDs X.K X.mg (iteM mc ma mb)) :=
  PSw (ps_if hc ha hb) fun Dn σ H ⟨μ, env, s, N, h⟩ => by
    obtain ⟨k, s1, e1, h⟩ := OkS.bind h
    refine ⟨μ, env, s, N, Ok.thn e1 fun μ1 H1 v E1 M1 r1 => ?_⟩
    subst r1
    cases k with
    | true => exact ⟨μ1, env, s1, N.step E1 M1, OkS.base h E1⟩
    | false => exact ⟨μ1, env, s1, N.step E1 M1, OkS.base h E1⟩
/-- x, (x, y) .. = e -/
theorem run_set {K : PySem.W.Frag} {mg : Str → Option Value} {m : M D} {t : Tg} {Dn : Ends} {σ : St} {H : Hp} (h : TDs K mg (setM t m) Dn σ H) : tAsg (TDe K mg m) (TDg K mg t) Dn σ H := by
  obtain ⟨μ, env, s, N, h⟩ := h
  obtain ⟨d, s1, e1, h⟩ := OkS.bind h
  refine ⟨μ, env, s, N, Ok.thn e1 fun μ1 H1 v E1 M1 r1 => ?_⟩
  cases et : t.set d env with
  | none => rw [et] at h; exact (h : False).elim
  | some e =>
    rw [et] at h
    exact ⟨μ1, env, d, e, N.er.mono E1, r1, et, fun σ' er _ => h μ1 H1 E1 M1 σ' er⟩
theorem r_set {tg : Expr} {t : Tg} (he : PE X e (TDe X.K X.mg me)) (hg : PG X tg (TDg X.K X.mg t)) (hs : swapsWithSole [tg] e pos.line X.env = pure false) (hw : swappedStores [tg] e X.env = pure none) (h1 : isTg tg = true) :
    PS X (.Assign [tg] e pos) (TDs X.K X.mg (setM t me)) := PSw (ps_asg he hg hs hw (by rw [assignEach_tg h1]; rfl)) fun Dn σ H h => run_set h
/-- x = [..] -/
theorem run_setL {K : PySem.W.Frag} {mg : Str → Option Value} {m : M (List D)} {n : Nat} {Dn : Ends} {σ : St} {H : Hp} (h : TDs K mg (setM (.nm n) (newM m)) Dn σ H) : tAsg (TDl K mg m) (gName n) Dn σ H := by
  obtain ⟨μ, env, s, N, h⟩ := h
  obtain ⟨d, s1, e1, h⟩ := OkS.bind h
  unfold newM m1 at e1
  cases em : m env s with
  | bad => rw [em] at e1; cases e1
  | ok ds s0 =>
    rw [em, R.bind_ok] at e1
    cases e1
    refine ⟨μ, env, s, N, ?_⟩
    rw [em]
    intro μ1 H1 v E1 M1 ⟨a, vs, g1, g2, g3, g4, g5⟩
    subst g1
    have r5 := g5.mono (μ' := μ1 ++ [a]) ⟨[a], rfl⟩ fun _ _ _ h => h
    have E2 := E1.push g3
    refine h (μ1 ++ [a]) H1 E2 (M1.push g4 ⟨vs, g2, r5⟩) _ ((N.er.mono E2).set (.ref ?_))
    rw [← M1.len]
    simp
/-- o.f = e -/
theorem r_setF {f : Str} {ok : Str → Bool} {pos' : Pos} (ho : PE X o (TDe X.K X.mg mo)) (hv : PE X e (TDe X.K X.mg me)) (h1 : swapsWith e (some (.Attribute o f pos')) pos.line X.env = pure false)
    (hc : ∀ C c, ok C = true → X.mg C = some (.ref c) → Cls X.K c ∧ NoAttr X.K c f) : PS X (.Assign [.Attribute o f pos'] e pos) (TDs X.K X.mg (setFM ok f me mo)) :=
  PSw (ps_fld ho hv h1) fun Dn σ H ⟨μ, env, s, N, h⟩ => by
    obtain ⟨d, s1, e1, h⟩ := OkS.bind h
    obtain ⟨x, s2, e2, h⟩ := OkS.bind h
    obtain ⟨_, s3, e3, h⟩ := OkS.bind h
    refine ⟨μ, env, s, N, Ok.thn e1 fun μ1 H1 v E1 M1 r1 => ?_⟩
    refine ⟨μ1, env, s1, N.step E1 M1, Ok.thn e2 fun μ2 H2 w E2 M2 r2 => ?_⟩
    cases r2 with
    | @ref n p hn =>
      unfold setFD at e3
      simp only at e3
      split at e3
      · rename_i C fs hx
        obtain ⟨cc, dx, gs, g0, g1, g2⟩ := M2.obj _ _ _ hn hx
        by_cases hk : ok C = true ∧ fs.length < 1000
        · rw [if_pos hk] at e3
          cases e3
          obtain ⟨k1, k2⟩ := hc C cc hk.1 g0
          refine ⟨p, cc, dx, gs, rfl, g1, k1, k2, by rw [← g2.length]; exact hk.2, ?_⟩
          have hf : ∀ u, H2 p = some u → fixedO u = false := fun u hu => by rw [g1] at hu; cases hu; rfl
          have EW := Ext.write (K := X.K) (o := .ins cc dx (putF f v gs)) hn hf
          refine h μ2 _ ((E1.trans E2).trans EW) (M2.write hn hf ⟨cc, dx, _, g0, upd_same, (g2.put (r1.ext E2)).mono ⟨[], by simp⟩ (sqt_upd hf)⟩) σ (N.er.mono ((E1.trans E2).trans EW))
        · rw [if_neg hk] at e3
          cases e3
      · cases e3
    | _ => cases e3
/-- o[i] = e -/
theorem r_setI {p : Pos} (ho : PE X o (TDe X.K X.mg mo)) (hi : PE X i (TDe X.K X.mg mi)) (hv : PE X e (TDe X.K X.mg me)) (hn : notSlice i = true) (h1 : notComp e = true) (hw : swappedStores [.Subscript o i p] e X.env = pure none) :
    PS X (.Assign [.Subscript o i p] e pos) (TDs X.K X.mg (setIM me mo mi)) :=
  PSw (ps_asg hv (pg_sub ho hi set_list (by intro v; cases i <;> first | rfl | cases hn)) (by show swapsWith e (some (.Subscript o i p)) pos.line X.env = _; exact swaps_no h1) hw rfl) fun Dn σ H ⟨μ, env, s, N, h⟩ => by
    obtain ⟨d, s1, e1, h⟩ := OkS.bind h
    obtain ⟨x, s2, e2, h⟩ := OkS.bind h
    obtain ⟨k, s3, e3, h⟩ := OkS.bind h
    obtain ⟨_, s4, e4, h⟩ := OkS.bind h
    refine ⟨μ, env, s, N, Ok.thn e1 fun μ1 H1 v E1 M1 r1 => ?_⟩
    refine ⟨μ1, env, s1, N.step E1 M1, Ok.thn e2 fun μ2 H2 w E2 M2 r2 => ?_⟩
    refine ⟨μ2, env, s2, N.step (E1.trans E2) M2, Ok.thn e3 fun μ3 H3 z E3 M3 r3 => ?_⟩
    have E23 := E2.trans E3
    have r2 := r2.ext E3
    unfold setID at e4
    cases r2 with
    | @ref n p hn =>
      cases r3 with
      | int j =>
        simp only at e4
        split at e4
        · rename_i xs hx
          obtain ⟨vs, g1, g2⟩ := M3.obj _ _ _ hn hx
          split at e4
          · rename_i q hq
            cases e4
            refine ⟨p, vs, j, q, rfl, rfl, g1, by rw [← g2.length]; exact hq, ?_⟩
            have hf : ∀ u, H3 p = some u → fixedO u = false := fun u hu => by rw [g1] at hu; cases hu; rfl
            have EW := Ext.write (K := X.K) (o := .lst (vs.set q v)) hn hf
            refine h μ3 _ ((E1.trans E23).trans EW) (M3.write hn hf ⟨_, upd_same, (g2.set q (r1.ext E23)).mono ⟨[], by simp⟩ (sqt_upd hf)⟩) σ (N.er.mono ((E1.trans E23).trans EW))
          · cases e4
        · cases e4
      | _ => cases e4
    | _ => cases e4
end
end Mini

set_option Elab.async false
set_option linter.all false
set_option maxRecDepth 100000
set_option maxHeartbeats 1000000
/-! Mini, part I: methods of lists, calls of defs, new instances, a, b = x, y. -/
namespace Mini
open PySem L2

/-! ### methods of lists -/
def isLst (d : D) (s : S) : Bool := match d with
  | .ref n => match s[n]? with
    | some (.lst _) => true
    | _ => false
  | _ => false
/-- the receiver is a list when it comes, too -/
def methM (o : M D) (as : M (List D)) (f : D → List D → S → R D) : M D := fun env s => (o env s).bind fun x s1 => if isLst x s1 = true then (as env s1).bind fun ds s2 => f x ds s2 else .bad
def appD (x : D) (ds : List D) (s : S) : R D := match x, ds with
  | .ref n, [d] => match s[n]? with
    | some (.lst xs) => if xs.length < sizeLine then .ok .non (s.set n (.lst (xs ++ [d]))) else .bad
    | _ => .bad
  | _, _ => .bad
def popD (x : D) (ds : List D) (s : S) : R D := match x, ds with
  | .ref n, [] => match s[n]? with
    | some (.lst xs) => match xs[xs.length - 1]? with
      | some d => .ok d (s.set n (.lst xs.dropLast))
      | none => .bad
    | _ => .bad
  | .ref n, [.int i] => match s[n]? with
    | some (.lst xs) => match ixN xs.length i with
      | some j => match xs[j]? with
        | some d => if xs.length ≤ sizeLine then .ok d (s.set n (.lst (xs.eraseIdx j))) else .bad
        | none => .bad
      | none => .bad
    | _ => .bad
  | _, _ => .bad
/-- extend: the argument's items -/
def extM (o : M D) (l : M (List D)) : M D := fun env s => (o env s).bind fun x s1 => if isLst x s1 = true then (l env s1).bind fun ds s2 => match x with
    | .ref n => match s2[n]? with
      | some (.lst xs) => if xs.length + ds.length ≤ sizeLine then .ok .non (s2.set n (.lst (xs ++ ds))) else .bad
      | _ => .bad
    | _ => .bad
  else .bad
section
variable {K : PySem.W.Frag} {mg : Str → Option Value} {μ : List Addr} {H : Hp} {s : S}
theorem isLst_rep {d : D} {v : V} (M : Sim K mg μ H s) (r : Rep K mg μ H d v) (h : isLst d s = true) : tyV K "list" v H := by
  cases r with
  | @ref n a hn =>
    unfold isLst at h
    simp only at h
    split at h
    · rename_i xs hx
      obtain ⟨vs, h1, _⟩ := M.obj _ _ _ hn hx
      exact .inl ⟨rfl, vs, SqL.of h1⟩
    · cases h
  | _ => cases h
end
section
variable {X : Cx} {o e : Expr} {es : List Expr} {mo me : M D} {mas : M (List D)} {apos cpos pos p : Pos}
/-- any list where a list must be open -/
def RepX (K : PySem.W.Frag) (mg : Str → Option Value) (μ : List Addr) (H : Hp) (ds : List D) (v : V) : Prop := ∃ a vs, v = .ref a ∧ H a = some (.lst vs) ∧ RepL K mg μ H ds vs
def TDx (K : PySem.W.Frag) (mg : Str → Option Value) (m : M (List D)) : TE := fun σ H Q => ∃ μ env s, Now K mg μ H σ env s ∧ Ok K mg (RepX K mg) μ H (m env s) Q
def lstD (d : D) (s : S) : R (List D) := match d with
  | .ref n => match s[n]? with
    | some (.lst xs) => .ok xs s
    | _ => .bad
  | _ => .bad
theorem r_xL {ml : M (List D)} (h : PE X e (TDl X.K X.mg ml)) : PE X e (TDx X.K X.mg ml) :=
  PEw h fun σ H Q ⟨μ, env, s, N, h⟩ => ⟨μ, env, s, N, h.imp (fun μ' H' ds v ⟨a, vs, h1, h2, h3, h4, h5⟩ => ⟨a, vs, h1, h2, h5⟩) fun _ _ h => h⟩
theorem r_xV (h : PE X e (TDe X.K X.mg me)) : PE X e (TDx X.K X.mg (m1 me lstD)) :=
  PEw h fun σ H Q ⟨μ, env, s, N, h⟩ => by
    obtain ⟨d, s1, e1, h⟩ := Ok.bind h
    refine ⟨μ, env, s, N, Ok.thn e1 fun μ1 H1 x E1 M1 r1 => ?_⟩
    cases r1 with
    | @ref n a hn =>
      unfold lstD at h
      simp only at h
      split at h
      · rename_i xs hx
        obtain ⟨vs, h1, h2⟩ := M1.obj _ _ _ hn hx
        exact h μ1 H1 _ E1 M1 ⟨a, vs, rfl, h1, h2⟩
      · exact h.elim
    | _ => exact (h : False).elim
theorem few_plain {env : PySem.Env} (h : es.all plainE = true) : ((backTo cpos (starEach es env)).all fun x => !x.1) = true := by
  induction es with
  | nil => rfl
  | cons e es ih =>
    rw [List.all_cons, Bool.and_eq_true] at h
    rw [starEach_plain (plainE_ne h.1)]
    show (true && (backTo cpos (starEach es env)).all fun x => !x.1) = true
    rw [ih h.2]
    rfl
theorem r_append (ho : PE X o (TDe X.K X.mg mo)) (he : PE X e (TDe X.K X.mg me)) (hb : notBareCall o = true) (hp : plainE e = true) (hl : (apos.endLine == cpos.line) = true) :
    PE X (.Call (.Attribute o "append" apos) [e] [] cpos) (TDe X.K X.mg (methM mo (consM me nilM) appD)) :=
  PEw (pe_bm PySem.F.plainAttrs_list PySem.F.slot_list_append PySem.F.type_list_append mt_append ho (r_cons he r_nil (plainE_ne hp)) (attrBase hb) (by rw [few_plain (by simp [hp])]; rfl) hl (starEach_plain (plainE_ne hp)) rfl) fun σ H Q ⟨μ, env, s, N, h⟩ => by
    obtain ⟨x, s1, e1, h⟩ := Ok.bind h
    obtain ⟨hc, h⟩ := ok_if h
    obtain ⟨ds, s2, e2, h⟩ := Ok.bind h
    refine ⟨μ, env, s, N, Ok.thn e1 fun μ1 H1 v E1 M1 r1 => ⟨isLst_rep M1 r1 hc, ?_⟩⟩
    refine ⟨μ1, env, s1, N.step E1 M1, Ok.thn e2 fun μ2 H2 vs E2 M2 r2 => ?_⟩
    have r1 := r1.ext E2
    unfold appD at h
    cases r1 with
    | @ref n a hn =>
      cases r2 with
      | nil => exact (h : False).elim
      | cons rd rt =>
        cases rt with
        | cons _ _ => exact (h : False).elim
        | nil =>
          simp only at h
          split at h
          · rename_i xs hx
            obtain ⟨ws, g1, g2⟩ := M2.obj _ _ _ hn hx
            obtain ⟨c, h⟩ := ok_if h
            rw [g2.length] at c
            refine ⟨a, ws, _, rfl, rfl, g1, c, ?_⟩
            have hf : ∀ u, H2 a = some u → fixedO u = false := fun u hu => by rw [g1] at hu; cases hu; rfl
            exact h μ2 _ _ ((E1.trans E2).trans (Ext.write hn hf)) (M2.write hn hf ⟨_, upd_same, (g2.append (.cons rd .nil)).mono ⟨[], by simp⟩ (sqt_upd hf)⟩) .non
          · exact h.elim
    | _ => exact (h : False).elim
theorem r_extend {ml : M (List D)} (ho : PE X o (TDe X.K X.mg mo)) (he : PE X e (TDx X.K X.mg ml)) (hb : notBareCall o = true) (hp : plainE e = true) (hl : (apos.endLine == cpos.line) = true) :
    PE X (.Call (.Attribute o "extend" apos) [e] [] cpos) (TDe X.K X.mg (extM mo ml)) :=
  PEw (pe_bm PySem.F.plainAttrs_list PySem.F.slot_list_extend PySem.F.type_list_extend mt_extend ho (pa_cons he pa_nil (starEach_plain (plainE_ne hp))) (attrBase hb) (by rw [few_plain (by simp [hp])]; rfl) hl (starEach_plain (plainE_ne hp)) rfl) fun σ H Q ⟨μ, env, s, N, h⟩ => by
    obtain ⟨x, s1, e1, h⟩ := Ok.bind h
    obtain ⟨hc, h⟩ := ok_if h
    obtain ⟨ds, s2, e2, h⟩ := Ok.bind h
    refine ⟨μ, env, s, N, Ok.thn e1 fun μ1 H1 v E1 M1 r1 => ⟨isLst_rep M1 r1 hc, ?_⟩⟩
    refine ⟨μ1, env, s1, N.step E1 M1, Ok.thn e2 fun μ2 H2 w E2 M2 ⟨b, zs, hw, k1, k2⟩ => ?_⟩
    have r1 := r1.ext E2
    subst hw
    cases r1 with
    | @ref n a hn =>
      simp only at h
      split at h
      · rename_i xs hx
        obtain ⟨ws, g1, g2⟩ := M2.obj _ _ _ hn hx
        obtain ⟨c, h⟩ := ok_if h
        rw [g2.length, k2.length] at c
        refine ⟨a, b, ws, zs, rfl, rfl, g1, k1, c, ?_⟩
        have hf : ∀ u, H2 a = some u → fixedO u = false := fun u hu => by rw [g1] at hu; cases hu; rfl
        exact h μ2 _ _ ((E1.trans E2).trans (Ext.write hn hf)) (M2.write hn hf ⟨_, upd_same, (g2.append k2).mono ⟨[], by simp⟩ (sqt_upd hf)⟩) .non
      · exact h.elim
    | _ => exact (h : False).elim
theorem r_pop0 (ho : PE X o (TDe X.K X.mg mo)) (hb : notBareCall o = true) (hl : (apos.endLine == cpos.line) = true) :
    PE X (.Call (.Attribute o "pop" apos) [] [] cpos) (TDe X.K X.mg (methM mo nilM popD)) :=
  PEw (pe_bm0 PySem.F.plainAttrs_list PySem.F.slot_list_pop PySem.F.type_list_pop mt_pop ho (attrBase hb) hl) fun σ H Q ⟨μ, env, s, N, h⟩ => by
    obtain ⟨x, s1, e1, h⟩ := Ok.bind h
    obtain ⟨hc, h⟩ := ok_if h
    refine ⟨μ, env, s, N, Ok.thn e1 fun μ1 H1 v E1 M1 r1 => ⟨isLst_rep M1 r1 hc, ?_⟩⟩
    have h : Ok X.K X.mg (Rep X.K X.mg) μ H (popD x [] s1) Q := h
    unfold popD at h
    cases r1 with
    | @ref n a hn =>
      simp only at h
      split at h
      · rename_i xs hx
        obtain ⟨ws, g1, g2⟩ := M1.obj _ _ _ hn hx
        split at h
        · rename_i d hd
          obtain ⟨y, k1, k2⟩ := g2.get hd
          refine ⟨a, ws, y, rfl, rfl, g1, by rw [← g2.length]; exact k1, ?_⟩
          have hf : ∀ u, H1 a = some u → fixedO u = false := fun u hu => by rw [g1] at hu; cases hu; rfl
          exact h μ1 _ _ (E1.trans (Ext.write hn hf)) (M1.write hn hf ⟨_, upd_same, g2.dropLast.mono ⟨[], by simp⟩ (sqt_upd hf)⟩) (k2.mono ⟨[], by simp⟩ (sqt_upd hf))
        · exact h.elim
      · exact h.elim
    | _ => exact (h : False).elim
theorem r_pop1 (ho : PE X o (TDe X.K X.mg mo)) (he : PE X e (TDe X.K X.mg me)) (hb : notBareCall o = true) (hp : plainE e = true) (hl : (apos.endLine == cpos.line) = true) :
    PE X (.Call (.Attribute o "pop" apos) [e] [] cpos) (TDe X.K X.mg (methM mo (consM me nilM) popD)) :=
  PEw (pe_bm PySem.F.plainAttrs_list PySem.F.slot_list_pop PySem.F.type_list_pop mt_popAt ho (r_cons he r_nil (plainE_ne hp)) (attrBase hb) (by rw [few_plain (by simp [hp])]; rfl) hl (starEach_plain (plainE_ne hp)) rfl) fun σ H Q ⟨μ, env, s, N, h⟩ => by
    obtain ⟨x, s1, e1, h⟩ := Ok.bind h
    obtain ⟨hc, h⟩ := ok_if h
    obtain ⟨ds, s2, e2, h⟩ := Ok.bind h
    refine ⟨μ, env, s, N, Ok.thn e1 fun μ1 H1 v E1 M1 r1 => ⟨isLst_rep M1 r1 hc, ?_⟩⟩
    refine ⟨μ1, env, s1, N.step E1 M1, Ok.thn e2 fun μ2 H2 vs E2 M2 r2 => ?_⟩
    have r1 := r1.ext E2
    obtain ⟨d1, hds⟩ : ∃ d, ds = [d] := by
      have e2 : (me env s1).bind (fun d s2 => R.ok [d] s2) = .ok ds s2 := e2
      cases em : me env s1 with
      | bad => rw [em] at e2; cases e2
      | ok d s3 => rw [em, R.bind_ok] at e2; cases e2; exact ⟨d, rfl⟩
    subst hds
    cases r1 with
    | @ref n a hn =>
      cases r2 with
      | cons rd rt =>
        cases rt
        cases rd with
        | int i =>
          unfold popD at h
          simp only at h
          split at h
          · rename_i xs hx
            obtain ⟨ws, g1, g2⟩ := M2.obj _ _ _ hn hx
            split at h
            · rename_i j hj
              split at h
              · rename_i d hd
                obtain ⟨c, h⟩ := ok_if h
                obtain ⟨y, k1, k2⟩ := g2.get hd
                obtain ⟨q1, q2, q3, q4⟩ := ixN_seq hj
                have hz : (sizeLine : Nat) < 2 ^ 62 := by rw [sizeLine_eq]; decide
                refine ⟨a, ws, i, j, y, rfl, rfl, g1, by omega, by omega, by rw [← g2.length]; exact q1, k1, ?_⟩
                have hf : ∀ u, H2 a = some u → fixedO u = false := fun u hu => by rw [g1] at hu; cases hu; rfl
                exact h μ2 _ _ ((E1.trans E2).trans (Ext.write hn hf)) (M2.write hn hf ⟨_, upd_same, (g2.eraseIdx j).mono ⟨[], by simp⟩ (sqt_upd hf)⟩) (k2.mono ⟨[], by simp⟩ (sqt_upd hf))
              · exact h.elim
            · exact h.elim
          · exact h.elim
        | _ => exact (h : False).elim
    | _ => cases d1 <;> exact (h : False).elim

/-! ### calls of defs -/
def SpD (K : PySem.W.Frag) (mg : Str → Option Value) (g : List D → S → R D) (n : Nat) : Sp := fun vs H Q _ => ∃ μ ds s, Sim K mg μ H s ∧ RepL K mg μ H ds vs ∧ vs.length = n ∧ Ok K mg (Rep K mg) μ H (g ds s) Q
structure CallOk (X : Cx) (f : Str) (n : Nat) (g : List D → S → R D) : Prop where
  ex : ∃ (a : Addr) (fd : FuncData) (ps : List Str) (k : Nat), X.mg f = some (.ref a) ∧ PySem.W.keepIn X.K (.ref a) = true ∧ FnOk X.prog X.w X.K X.mg X.base CX0 k a fd ps (SpD X.K X.mg g n) ∧ Room k X.A ∧ Binds X.K fd ps []
def callD (n : Nat) (g : List D → S → R D) (ds : List D) (s : S) : R D := if ds.length = n then g ds s else .bad
theorem run_call {K : PySem.W.Frag} {mg : Str → Option Value} {n : Nat} {g : List D → S → R D} {σ : St} {H : Hp} {Q : VK} (h : TDe K mg (m1 mas (callD n g)) σ H Q) : tCall (SpD K mg g n) [] E0 (TDa K mg mas) σ H Q := by
  obtain ⟨μ, env, s, N, h⟩ := h
  obtain ⟨ds, s1, e1, h⟩ := Ok.bind h
  obtain ⟨c, h⟩ := ok_if h
  refine ⟨μ, env, s, N, Ok.thn e1 fun μ1 H1 vs E1 M1 r1 => ?_⟩
  rw [List.append_nil]
  exact ⟨μ1, ds, s1, M1, r1, by rw [← r1.length]; exact c, h.base E1⟩
theorem r_call {f : Str} {n : Nat} {g : List D → S → R D} (F : CallOk X f n g) (hg : Gl X f) (hd : (f == ("__debug__" : Str)) = false) (ha : PA X (e :: es) (TDa X.K X.mg mas)) (hp : (e :: es).all plainE = true) :
    PE X (.Call (.Name f p) (e :: es) [] pos) (TDe X.K X.mg (m1 mas (callD n g))) := by
  obtain ⟨a, fd, ps, k, hm, hk, F, hr, hb⟩ := F.ex
  have hp' := hp
  rw [List.all_cons, Bool.and_eq_true] at hp'
  exact PEw (pe_call F hr hg hm hk hb .nil pass0 ha hd (starEach_plain (plainE_ne hp'.1)) (plain_any hp'.2)) fun σ H Q h => run_call h
theorem r_call0 {f : Str} {n : Nat} {g : List D → S → R D} (F : CallOk X f n g) (hg : Gl X f) (hd : (f == ("__debug__" : Str)) = false) : PE X (.Call (.Name f p) [] [] pos) (TDe X.K X.mg (m1 nilM (callD n g))) := by
  obtain ⟨a, fd, ps, k, hm, hk, F, hr, hb⟩ := F.ex
  exact PEw (pe_call0 F hr hg hm hk hb .nil pass0 hd) fun σ H Q h => by
    have := run_call h
    obtain ⟨μ, env, s, N, h⟩ := h
    obtain ⟨ds, s1, e1, h⟩ := Ok.bind h
    cases e1
    obtain ⟨c, h⟩ := ok_if h
    exact ⟨μ, [], s, N.sim, .nil, c, h⟩
/-! ### new instances -/
structure MakeOk (X : Cx) (C : Str) (n : Nat) (g : List D → S → R D) : Prop where
  ex : ∃ (c a : Addr) (fd : FuncData) (ps : List Str) (k : Nat), X.mg C = some (.ref c) ∧ Mk X.K c a ∧ FnOk X.prog X.w X.K X.mg X.base CX0 k a fd ps (SpD X.K X.mg g (n + 1)) ∧ Room (k + 1) X.A ∧ Binds X.K fd ps []
def makeD (C : Str) (n : Nat) (g : List D → S → R D) (ds : List D) (s : S) : R D := if ds.length = n then (g (.ref s.length :: ds) (s ++ [.ins C []])).bind fun d s2 => match d with
    | .non => .ok (.ref s.length) s2
    | _ => .bad
  else .bad
theorem r_make {C : Str} {n : Nat} {g : List D → S → R D} (F : MakeOk X C n g) (hg : Gl X C) (hd : (C == ("__debug__" : Str)) = false) (ha : PA X (e :: es) (TDa X.K X.mg mas)) (hp : (e :: es).all plainE = true) :
    PE X (.Call (.Name C p) (e :: es) [] pos) (TDe X.K X.mg (m1 mas (makeD C n g))) := by
  obtain ⟨c, a, fd, ps, k, hm, hk, F, hr, hb⟩ := F.ex
  have hp' := hp
  rw [List.all_cons, Bool.and_eq_true] at hp'
  refine PEw (pe_make hk F hr hg hm hb .nil pass0 ha hd (starEach_plain (plainE_ne hp'.1)) (plain_any hp'.2)) fun σ H Q h => ?_
  obtain ⟨μ, env, s, N, h⟩ := h
  obtain ⟨ds, s1, e1, h⟩ := Ok.bind h
  obtain ⟨cl, h⟩ := ok_if h
  obtain ⟨z, s2, e2, h⟩ := Ok.bind h
  refine ⟨μ, env, s, N, Ok.thn e1 fun μ1 H1 vs E1 M1 r1 => fun x dx hx hdx hne => ?_⟩
  rw [List.append_nil]
  have hx' : upd H1 dx (.own x) x = none := by rw [upd_ne (Ne.symm hne)]; exact hx
  have E2 : Ext X.K μ1 H1 μ1 (upd H1 dx (.own x)) := Ext.laid hdx
  have M2 : Sim X.K X.mg μ1 (upd H1 dx (.own x)) s1 := M1.laid hdx
  have E3 : Ext X.K μ1 H1 (μ1 ++ [x]) (upd (upd H1 dx (.own x)) x (.ins c dx [])) := (E2.trans (Ext.laid hx')).push hx
  have M3 : Sim X.K X.mg (μ1 ++ [x]) (upd (upd H1 dx (.own x)) x (.ins c dx [])) (s1 ++ [.ins C []]) := (M2.laid hx').push (M1.fresh hx) ⟨c, dx, [], hm, upd_same, .nil⟩
  have rx : Rep X.K X.mg (μ1 ++ [x]) (upd (upd H1 dx (.own x)) x (.ins c dx [])) (.ref s1.length) (.ref x) := .ref (by rw [← M1.len]; simp)
  refine ⟨μ1 ++ [x], .ref s1.length :: ds, s1 ++ [.ins C []], M3, .cons rx (r1.ext E3), by simp [← r1.length, cl], Ok.thn e2 fun μ4 H4 v E4 M4 r4 => ?_⟩
  cases z with
  | non =>
    cases r4
    exact ⟨rfl, h μ4 H4 _ ((E1.trans E3).trans E4) M4 (rx.ext E4)⟩
  | _ => exact (h : False).elim

/-! ### a, b = x, y -/
def parGo : List Nat → List D → Env → Option Env
  | [], [], env => some env
  | i :: is, d :: ds, env => parGo is ds (env.set i (some d))
  | _, _, _ => none
def parM (is : List Nat) (as : M (List D)) : M Fl := fun env s => (as env s).bind fun ds s1 => match parGo is ds env with
  | some e => .ok (.nx e) s1
  | none => .bad
theorem r_par2 {i j : Nat} {x y : Str} {a b : Expr} {px py pt : Pos} {kt k2 pt2} (hc : X.calm = true) (hN : X.N.Nodup) (hi : X.N[i]? = some x) (hj : X.N[j]? = some y) (hij : i ≠ j)
    (hx : X.env.scope.names.lookup x = some .local) (hy : X.env.scope.names.lookup y = some .local) (ha : PA X [a, b] (TDa X.K X.mg mas))
    (hw : swappedStores [.Tuple [.Name x px, .Name y py] kt pt] (.Tuple [a, b] k2 pt2) X.env = pure (some [x, y])) :
    PS X (.Assign [.Tuple [.Name x px, .Name y py] kt pt] (.Tuple [a, b] k2 pt2) pos) (TDs X.K X.mg (parM [i, j] mas)) :=
  PSw (ps_par hc hN hi hj hij hx hy ha hw) fun Dn σ H ⟨μ, env, s, N, h⟩ => by
    obtain ⟨ds, s1, e1, h⟩ := OkS.bind h
    refine ⟨μ, env, s, N, Ok.thn e1 fun μ1 H1 vs E1 M1 r1 => ?_⟩
    cases r1 with
    | nil => exact (h : False).elim
    | cons r2 r1 =>
      cases r1 with
      | nil => exact (h : False).elim
      | cons r3 r1 =>
        cases r1 with
        | cons _ _ => exact (h : False).elim
        | nil => exact ⟨_, _, rfl, h μ1 H1 E1 M1 _ (((N.er.mono E1).set r2).set r3)⟩
theorem r_par3 {i j l : Nat} {x y z : Str} {a b c : Expr} {px py pz pt : Pos} {kt k2 pt2} (hc : X.calm = true) (hN : X.N.Nodup) (hi : X.N[i]? = some x) (hj : X.N[j]? = some y) (hl : X.N[l]? = some z) (hij : i ≠ j) (hil : i ≠ l) (hjl : j ≠ l)
    (hx : X.env.scope.names.lookup x = some .local) (hy : X.env.scope.names.lookup y = some .local) (hz : X.env.scope.names.lookup z = some .local) (ha : PA X [a, b, c] (TDa X.K X.mg mas))
    (hw : swappedStores [.Tuple [.Name x px, .Name y py, .Name z pz] kt pt] (.Tuple [a, b, c] k2 pt2) X.env = pure (some [x, y, z])) :
    PS X (.Assign [.Tuple [.Name x px, .Name y py, .Name z pz] kt pt] (.Tuple [a, b, c] k2 pt2) pos) (TDs X.K X.mg (parM [i, j, l] mas)) :=
  PSw (ps_par3 hc hN hi hj hl hij hil hjl hx hy hz ha hw) fun Dn σ H ⟨μ, env, s, N, h⟩ => by
    obtain ⟨ds, s1, e1, h⟩ := OkS.bind h
    refine ⟨μ, env, s, N, Ok.thn e1 fun μ1 H1 vs E1 M1 r1 => ?_⟩
    cases r1 with
    | nil => exact (h : False).elim
    | cons r2 r1 =>
      cases r1 with
      | nil => exact (h : False).elim
      | cons r3 r1 =>
        cases r1 with
        | nil => exact (h : False).elim
        | cons r4 r1 =>
          cases r1 with
          | cons _ _ => exact (h : False).elim
          | nil => exact ⟨_, _, _, rfl, h μ1 H1 E1 M1 _ ((((N.er.mono E1).set r2).set r3).set r4)⟩
end
end Mini

set_option Elab.async false
set_option linter.all false
set_option maxRecDepth 100000
set_option maxHeartbeats 1000000
/-! Mini, part J: the evaluator over the text's own trees. -/
namespace Mini
open PySem L2

/-! ### more pieces: -x, ranges as lists and tuples, attributes in a row -/
section
variable {X : Cx} {pos p : Pos} {a b e e2 o : Expr} {ma mb mo me : M D} {es : List Expr} {mas : M (List D)}
theorem r_neg (ha : PE X a (TDe X.K X.mg ma)) : PE X (.UnaryOp .USub a pos) (TDe X.K X.mg (m1 ma negD)) :=
  PEw (pe_un un_neg ha) fun σ H Q h => (run1 h).imp fun x H1 ⟨μ, d, s, M, r, h⟩ => by
    cases r <;> first
      | exact (h : False).elim
      | exact ⟨_, rfl, h.here M (.int _)⟩
/-- a range taken into a list or a tuple -/
structure RgOf (X : Cx) (e : Expr) (m : M (List D)) : Prop where
  ex : ∃ t, PRg X e t ∧ ∀ (α : Type) (f : List D → S → R α) (Rp : List Addr → Hp → α → V → Prop) (σ : St) (H : Hp) (Q : Int → Int → Hp → Prop) (Qv : VK), (∃ μ env s, Now X.K X.mg μ H σ env s ∧ Ok X.K X.mg Rp μ H ((m env s).bind f) Qv) →
    (∀ μ' H' i n s', (∀ q, H' q = none → H q = none) → Sim X.K X.mg μ' H' s' → rgOk i n = true → Ok X.K X.mg Rp μ' H' (f (rgD i n) s') Qv → Q i n H') → t σ H Q
theorem rgOf1 (hg : Gl X "range") (hm : X.mg "range" = none) (h : PE X a (TDe X.K X.mg ma)) (hp : plainE a = true) : RgOf X (.Call (.Name "range" p) [a] [] pos) (rg1 ma) := by
  refine ⟨_, prg_1 hg hm h (starEach_plain (plainE_ne hp)), fun α f Rp σ H Q Qv h hq => ?_⟩
  obtain ⟨μ, env, s, N, h⟩ := h
  obtain ⟨ds, s1, e1, h⟩ := Ok.bind h
  unfold rg1 m1 at e1
  cases em : ma env s with
  | bad => rw [em] at e1; cases e1
  | ok d s0 =>
    rw [em, R.bind_ok] at e1
    refine ⟨μ, env, s, N, Ok.thn em fun μ1 H1 v E1 M1 r1 => ?_⟩
    cases r1 with
    | int n =>
      simp only at e1
      by_cases c : rgOk 0 n = true
      · rw [if_pos c] at e1
        cases e1
        exact ⟨n, rfl, hq μ1 H1 0 n _ (fun q => E1.free M1) M1 c (h.base E1)⟩
      · rw [if_neg c] at e1
        cases e1
    | _ => cases e1
theorem rgOf2 (hg : Gl X "range") (hm : X.mg "range" = none) (h : PE X a (TDe X.K X.mg ma)) (h2 : PE X b (TDe X.K X.mg mb)) (hp : plainE a = true) (hp2 : plainE b = true) : RgOf X (.Call (.Name "range" p) [a, b] [] pos) (rg2 ma mb) := by
  refine ⟨_, prg_2 hg hm h h2 (starEach_plain (plainE_ne hp)) (starEach_plain (plainE_ne hp2)) (plain_any (by simp [hp2])), fun α f Rp σ H Q Qv h hq => ?_⟩
  obtain ⟨μ, env, s, N, h⟩ := h
  obtain ⟨ds, s1, e1, h⟩ := Ok.bind h
  unfold rg2 m2 at e1
  cases em : ma env s with
  | bad => rw [em] at e1; cases e1
  | ok d s0 =>
    rw [em, R.bind_ok] at e1
    refine ⟨μ, env, s, N, Ok.thn em fun μ1 H1 v E1 M1 r1 => ?_⟩
    cases en : mb env s0 with
    | bad => rw [en] at e1; cases e1
    | ok d2 s2 =>
      rw [en, R.bind_ok] at e1
      refine ⟨μ1, env, s0, N.step E1 M1, Ok.thn en fun μ2 H2 w E2 M2 r2 => ?_⟩
      have r1 := r1.ext E2
      cases r1 with
      | int i =>
        cases r2 with
        | int n =>
          simp only at e1
          by_cases c : rgOk i n = true
          · rw [if_pos c] at e1
            cases e1
            exact ⟨i, n, rfl, rfl, hq μ2 H2 i n _ (fun q => (E1.trans E2).free M2) M2 c (h.base (E1.trans E2))⟩
          · rw [if_neg c] at e1
            cases e1
        | _ => cases e1
      | _ => cases e1
theorem r_listRg {m : M (List D)} (hc : X.calm = true) (hg : Gl X "list") (hm : X.mg "list" = none) (h : RgOf X e m) (hp : plainE e = true) : PE X (.Call (.Name "list" p) [e] [] pos) (TDl X.K X.mg m) := by
  obtain ⟨t, ht, k⟩ := h.ex
  refine PEw (pe_listRg hc hg hm ht (starEach_plain (plainE_ne hp))) fun σ H Q ⟨μ, env, s, N, h⟩ => ?_
  have h : Ok X.K X.mg (RepN X.K X.mg H) μ H ((m env s).bind fun ds s => .ok ds s) Q := by
    cases em : m env s <;> (rw [em] at h; exact h)
  refine k (List D) _ (RepN X.K X.mg H) σ H _ Q ⟨μ, env, s, N, h⟩ fun μ' H' i n s' hf M c h => ⟨rgOk_ok c, fun q hq => ?_⟩
  exact h μ' _ _ (Ext.laid hq) (M.laid hq) ⟨q, _, rfl, upd_same, hf q hq, M.fresh hq, rg_rep i n⟩
theorem r_tupRg {m : M (List D)} (hc : X.calm = true) (hg : Gl X "tuple") (hm : X.mg "tuple" = none) (h : RgOf X e m) (hp : plainE e = true) : PE X (.Call (.Name "tuple" p) [e] [] pos) (TDe X.K X.mg (m1 m tupQ)) := by
  obtain ⟨t, ht, k⟩ := h.ex
  refine PEw (pe_tupRg hc hg hm ht (starEach_plain (plainE_ne hp))) fun σ H Q ⟨μ, env, s, N, h⟩ => ?_
  refine k D _ (Rep X.K X.mg) σ H _ Q ⟨μ, env, s, N, h⟩ fun μ' H' i n s' hf M c h => ⟨rgOk_ok c, fun q hq => ?_⟩
  exact h μ' _ _ (Ext.laid hq) (M.laid hq) (.tup upd_same (rg_rep i n))

/-! self.a, self.b = (x, y) -/
structure AttrT where
  ok : Str → Bool
  f : Str
  o : M D
def attrsGo : List AttrT → List D → Env → S → R Unit
  | [], [], _, s => .ok () s
  | a :: as, d :: ds, env, s => (a.o env s).bind fun x s1 => (setFD a.ok a.f d x s1).bind fun _ s2 => attrsGo as ds env s2
  | _, _, _, _ => .bad
def setAs (as : List AttrT) (v : M (List D)) : M Fl := fun env s => (v env s).bind fun ds s1 => (attrsGo as ds env s1).bind fun _ s2 => .ok (.nx env) s2
def gAttr (K : PySem.W.Frag) (te : TE) (f : Str) : TG := fun v σ H Q => te σ H fun x H1 => ∃ a C dx fs, x = .ref a ∧ H1 a = some (.ins C dx fs) ∧ Cls K C ∧ NoAttr K C f ∧ fs.length < 1000 ∧ Q σ (upd H1 a (.ins C dx (putF f v fs)))
theorem pg_attr {f : Str} {te : TE} (he : PE X o te) : PG X (.Attribute o f pos) (gAttr X.K te f) := by
  refine ⟨fun pins s σ H v u Q I r h => ?_⟩
  show wpAny _ _ (do
    let ov ← holding [u] (eval o X.env)
    standAt pos.atName
    holding [u, ov] (setAttr ov f u)
    release [u, ov] []) _ _ s
  refine wpAny_bind (wpAny_holding (thn (he.run pins s σ H _ I h) fun ov s1 ⟨x, H1, I1, r1, q1⟩ => ?_))
  obtain ⟨a, C, dx, fs, rfl, h1, h2, h3, h4, q⟩ := q1
  cases r1
  refine wpAny_bind (wpAny_standAt (wpAny_bind (wpAny_holding (setattr_ok I1 h1 h2 h3 h4 r fun s2 I2 => ?_))))
  exact wpAny_release ⟨σ, _, I2, q⟩
def TDas (K : PySem.W.Frag) (mg : Str → Option Value) (as : List AttrT) : TGs := fun vs σ H Q => ∃ μ env s ds s1, Now K mg μ H σ env s ∧ RepL K mg μ H ds vs ∧ attrsGo as ds env s = .ok () s1 ∧ ∀ μ' H', Ext K μ H μ' H' → Sim K mg μ' H' s1 → Q σ H'
theorem r_asNil : PGs X [] (TDas X.K X.mg []) := PGsw pgs_nil fun vs σ H Q ⟨μ, env, s, ds, s1, N, rl, h, k⟩ => by
  cases rl with
  | nil => cases h; exact ⟨rfl, k μ H .refl N.sim⟩
  | cons _ _ => cases h
theorem setFD_ok {ok : Str → Bool} {f : Str} {K : PySem.W.Frag} {mg : Str → Option Value} {μ : List Addr} {H : Hp} {s s1 : S} {d x : D} {v w : V} (M : Sim K mg μ H s) (rd : Rep K mg μ H d v) (rx : Rep K mg μ H x w) (h : setFD ok f d x s = .ok () s1)
    (hc : ∀ C c, ok C = true → mg C = some (.ref c) → Cls K c ∧ NoAttr K c f) : ∃ a C dx fs, w = .ref a ∧ H a = some (.ins C dx fs) ∧ Cls K C ∧ NoAttr K C f ∧ fs.length < 1000 ∧ Ext K μ H μ (upd H a (.ins C dx (putF f v fs))) ∧ Sim K mg μ (upd H a (.ins C dx (putF f v fs))) s1 := by
  cases rx with
  | @ref n p hn =>
    unfold setFD at h
    simp only at h
    split at h
    · rename_i C fs hx
      obtain ⟨cc, dx, gs, g0, g1, g2⟩ := M.obj _ _ _ hn hx
      by_cases hk : ok C = true ∧ fs.length < 1000
      · rw [if_pos hk] at h
        cases h
        obtain ⟨k1, k2⟩ := hc C cc hk.1 g0
        have hf : ∀ u, H p = some u → fixedO u = false := fun u hu => by rw [g1] at hu; cases hu; rfl
        exact ⟨p, cc, dx, gs, rfl, g1, k1, k2, by rw [← g2.length]; exact hk.2, Ext.write hn hf, M.write hn hf ⟨cc, dx, _, g0, upd_same, (g2.put rd).mono ⟨[], by simp⟩ (sqt_upd hf)⟩⟩
      · rw [if_neg hk] at h
        cases h
    · cases h
  | _ => cases h
theorem r_asCons {a : AttrT} {as : List AttrT} (ho : PE X o (TDe X.K X.mg a.o)) (hr : PGs X es (TDas X.K X.mg as)) (hc : ∀ C c, a.ok C = true → X.mg C = some (.ref c) → Cls X.K c ∧ NoAttr X.K c a.f) : PGs X (.Attribute o a.f pos :: es) (TDas X.K X.mg (a :: as)) :=
  PGsw (pgs_cons (pg_attr ho) hr rfl) fun vs σ H Q ⟨μ, env, s, ds, s1, N, rl, h, k⟩ => by
    cases rl with
    | nil => cases h
    | @cons d ds v vs rd rl =>
      unfold attrsGo at h
      refine ⟨v, vs, rfl, μ, env, s, N, ?_⟩
      cases e1 : a.o env s with
      | bad => rw [e1] at h; cases h
      | ok x s2 =>
        rw [e1, R.bind_ok] at h
        intro μ1 H1 w E1 M1 r1
        cases e2 : setFD a.ok a.f d x s2 with
        | bad => rw [e2] at h; cases h
        | ok u s3 =>
          rw [e2, R.bind_ok] at h
          obtain ⟨p, C, dx, fs, g1, g2, g3, g4, g5, g6, g7⟩ := setFD_ok M1 (rd.ext E1) r1 e2 hc
          refine ⟨p, C, dx, fs, g1, g2, g3, g4, g5, μ1, env, s3, ds, s1, N.step (E1.trans g6) g7, rl.ext (E1.trans g6), h, fun μ' H' E M => k μ' H' ((E1.trans g6).trans E) M⟩
theorem r_setAs {as : List AttrT} {kk : Nat} {pt : Pos} {vs : List Expr} {k2 : Nat} {pt2 : Pos} (hcalm : X.calm = true) (hg : PGs X es (TDas X.K X.mg as)) (hv : PE X (.Tuple vs k2 pt2) (TDe X.K X.mg (tupM mas)))
    (hw : swappedStores [.Tuple es kk pt] (.Tuple vs k2 pt2) X.env = pure none) (hn : (assignEach es X.env).length = as.length) (hst : (assignEach es X.env).findIdx? (·.1) = none) :
    PS X (.Assign [.Tuple es kk pt] (.Tuple vs k2 pt2) pos) (TDs X.K X.mg (setAs as mas)) :=
  PSw (ps_asg hv (pg_tup hcalm hg hn hst) rfl hw rfl) fun Dn σ H ⟨μ, env, s, N, h⟩ => by
    obtain ⟨ds, s1, e1, h⟩ := OkS.bind h
    obtain ⟨u, s2, e2, h⟩ := OkS.bind h
    refine ⟨μ, env, s, N, ?_⟩
    have e : tupM mas env s = .ok (.tup ds) s1 := by
      unfold tupM m1
      rw [e1]
      rfl
    rw [e]
    intro μ1 H1 v E1 M1 r1
    cases r1 with
    | @tup a vs ds hq rl =>
      refine ⟨a, vs, rfl, hq.t, ?_, μ1, env, s1, ds, s2, N.step E1 M1, rl, e2, fun μ' H' E M => h μ' H' (E1.trans E) M σ (N.er.mono (E1.trans E))⟩
      have : ∀ (as : List AttrT) (ds : List D) (s : S) (u : Unit) (s' : S), attrsGo as ds env s = .ok u s' → ds.length = as.length := by
        intro as
        induction as with
        | nil => intro ds s u s' h; cases ds <;> first | rfl | cases h
        | cons a as ih =>
          intro ds s u s' h
          cases ds with
          | nil => cases h
          | cons d ds =>
            unfold attrsGo at h
            cases g1 : a.o env s with
            | bad => rw [g1] at h; cases h
            | ok x s2 =>
              rw [g1, R.bind_ok] at h
              cases g2 : setFD a.ok a.f d x s2 with
              | bad => rw [g2] at h; cases h
              | ok u s3 =>
                rw [g2, R.bind_ok] at h
                simp [ih ds s3 _ s' h]
      rw [← rl.length, this as ds s1 u s2 e2]
end
end Mini

set_option Elab.async false
set_option linter.all false
set_option maxRecDepth 100000
set_option maxHeartbeats 1000000
/-! Mini, part Jb: isinstance with several types; the least of data. -/
namespace Mini
open PySem L2

/-! ### isinstance(x, (a, b)) -/
def tysD : List D → Option (List String)
  | [] => some []
  | .ty n :: cs => (tysD cs).map (n :: ·)
  | _ => none
def isiAny (t : String) : List String → Option Bool
  | [] => some false
  | n :: cs => match isiB t n with
    | some true => some true
    | some false => isiAny t cs
    | none => none
def isiTD (d : D) (cs : List D) (s : S) : R D := match tyD d s, tysD cs with
  | some t, some ns => match isiAny t ns with
    | some b => if cs.length ≤ 1000 then okB b s else .bad
    | none => .bad
  | _, _ => .bad
section
variable {K : PySem.W.Frag} {mg : Str → Option Value} {μ : List Addr} {H : Hp} {s : S}
theorem isiAny_ok {t : String} : ∀ {ns : List String} {b : Bool}, isiAny t ns = some b → PySem.W.kitAny K (.type t) (ns.map Value.type) = some b
  | [], b, h => by
    cases h
    exact kitAny_nil
  | n :: ns, b, h => by
    unfold isiAny at h
    split at h
    · rename_i e
      cases h
      exact kitAny_cons (kit_ty (isiB_ok e)) (fun e => by cases e) (fun _ => rfl)
    · rename_i e
      exact kitAny_cons (kit_ty (isiB_ok e)) (fun _ => isiAny_ok h) (fun e => by cases e)
    · cases h
theorem tys_rep : ∀ {cs : List D} {vs : List V} {ns : List String}, RepL K mg μ H cs vs → tysD cs = some ns → vs = ns.map V.ty
  | [], _, _, r, h => by
    cases r
    cases h
    rfl
  | c :: cs, _, ns, r, h => by
    cases r with
    | cons r1 r2 =>
      cases r1 <;> first
        | (cases h; done)
        | (simp only [tysD, Option.map_eq_some_iff] at h
           obtain ⟨ms, h1, rfl⟩ := h
           rw [tys_rep r2 h1]
           rfl)
theorem paired_tys : ∀ ns : List String, Paired ClsV (ns.map V.ty) (ns.map Value.type)
  | [] => .nil
  | n :: ns => .cons (.ty n) (paired_tys ns)
end
section
variable {X : Cx} {a e : Expr} {es : List Expr} {ma me : M D} {mas : M (List D)} {p pos pp : Pos} {k : Nat} {mq : M (List D)}
theorem r_isiT (hg : Gl X "isinstance") (hm : X.mg "isinstance" = none) (ha : PE X a (TDe X.K X.mg ma)) (hb : PA X es (TDa X.K X.mg mas)) (hp : plainE a = true) : PE X (.Call (.Name "isinstance" p) [a, .Tuple es k pp] [] pos) (TDe X.K X.mg (m2 ma mas isiTD)) :=
  PEw (callB2 call_isiT hg hm (by decide +kernel) ha (pe_tup hb) hp rfl (by decide) (by decide)) fun σ H Q ⟨μ, env, s, N, h⟩ => by
    obtain ⟨d, s1, e1, h⟩ := Ok.bind h
    obtain ⟨cs, s2, e2, h⟩ := Ok.bind h
    refine ⟨μ, env, s, N, Ok.thn e1 fun μ1 H1 v E1 M1 r1 => ?_⟩
    refine ⟨μ1, env, s1, N.step E1 M1, Ok.thn e2 fun μ2 H2 vs E2 M2 r2 => ?_⟩
    unfold isiTD at h
    split at h
    · rename_i t ns ht hn
      split at h
      · rename_i b hb
        obtain ⟨hl, h⟩ := ok_if h
        refine ⟨by rw [← r2.length, sizeLine_eq]; omega, fun q hq => ?_⟩
        have e3 := tys_rep r2 hn
        subst e3
        refine ⟨v, q, _, .type t, _, b, rfl, upd_same, paired_tys ns, tyX_of (M2.laid hq) ((r1.ext E2).mono ⟨[], by simp⟩ (sqt_new hq)) ht, isiAny_ok hb, ?_⟩
        exact h μ2 _ _ ((E1.trans E2).trans (Ext.laid hq)) (M2.laid hq) (.bl b)
      · exact h.elim
    · exact h.elim
end

/-! ### the least of data -/
def alikeB (ps : List PyData) : Bool := (ps.all fun x => ps.all fun y => PySem.W.alike x y) && ps.all fun x => match x with
  | .none => false
  | _ => true
theorem alikeB_ok {ps : List PyData} (h : alikeB ps = true) : PySem.W.AlikeAll ps := by
  unfold alikeB at h
  simp only [Bool.and_eq_true, List.all_eq_true] at h
  refine ⟨fun x hx y hy => h.1 x hx y hy, fun x hx e => ?_⟩
  have := h.2 x hx
  rw [e] at this
  cases this
def toPD (s : S) (d : D) : PyData := (toP s 60 d).getD .none
def pickBy {α : Type} (f : α → α → Bool) (x : α) (xs : List α) : α := xs.foldl (fun a y => if f y a then y else a) x
def ltS (s : S) (d e : D) : Bool := PySem.W.dataLt (toPD s d) (toPD s e)
/-- min of a list -/
def minL (ds : List D) (s : S) : R D := match intsD ds with
  | some ns => minQ ds s
  | none => match ds with
    | [] => .bad
    | x :: xs => match toPL (toP s 60) (x :: xs) with
      | some ps => if alikeB ps = true then .ok (pickBy (ltS s) x xs) s else .bad
      | none => .bad
section
variable {K : PySem.W.Frag} {mg : Str → Option Value} {μ : List Addr} {H : Hp} {s : S}
theorem toPL_at : ∀ {ds : List D} {ps : List PyData}, toPL (toP s 60) ds = some ps → ds.length = ps.length ∧ ∀ i, ps.getD i .none = toPD s (ds.getD i .non)
  | [], ps, h => by
    cases h
    exact ⟨rfl, fun i => rfl⟩
  | d :: ds, ps, h => by
    unfold toPL at h
    cases e1 : toP s 60 d with
    | none => simp [e1] at h
    | some p =>
      cases e2 : toPL (toP s 60) ds with
      | none => simp [e1, e2] at h
      | some qs =>
        simp [e1, e2] at h
        subst h
        obtain ⟨h1, h2⟩ := toPL_at e2
        refine ⟨by simp [h1], fun i => ?_⟩
        cases i with
        | zero => simp [toPD, e1]
        | succ i => simpa using h2 i
theorem best_is {x : D} {xs : List D} {ps : List PyData} (h : toPL (toP s 60) (x :: xs) = some ps) : (x :: xs).getD (argBest (fun i j => PySem.W.dataLt (ps.getD i .none) (ps.getD j .none)) xs.length) .non = pickBy (ltS s) x xs ∧
    argBest (fun i j => PySem.W.dataLt (ps.getD i .none) (ps.getD j .none)) xs.length ≤ xs.length := by
  have e : (fun i j => PySem.W.dataLt (ps.getD i .none) (ps.getD j .none)) = fun i j => ltS s ((x :: xs).getD i .non) ((x :: xs).getD j .non) := by
    funext i j
    rw [(toPL_at h).2 i, (toPL_at h).2 j]
    rfl
  rw [e]
  obtain ⟨h1, h2⟩ := PySem.W.argBest_fold (ltS s) D.non x xs xs.length (Nat.le_refl _)
  rw [List.take_length] at h2
  exact ⟨h2, h1⟩
end
/-- min(xs), xs a list of data -/
def rMinP (K : PySem.W.Frag) : List V → Hp → VK → Prop := fun us H Q => ∃ (a : Addr) (vs : List V) (p : PyData) (ps : List PyData), us = [.ref a] ∧ SqL K H a vs ∧ DpAll K H vs (p :: ps) ∧ PySem.W.AlikeAll (p :: ps) ∧ PyData.depthAll (p :: ps) ≤ 60 ∧
  ∀ v, vs[argBest (fun i j => PySem.W.dataLt ((p :: ps).getD i .none) ((p :: ps).getD j .none)) ps.length]? = some v → Q v H
section
variable {X : Cx} {a e : Expr} {mq : M (List D)} {p pos : Pos}
theorem vals_at : ∀ {vs : List V} {us : List Value} {i : Nat} {u : Value}, Vals vs us → us[i]? = some u → ∃ v, vs[i]? = some v ∧ RelV v u
  | _, _, 0, _, .cons r _, h => by
    simp at h
    subst h
    exact ⟨_, rfl, r⟩
  | _, _, i + 1, u, .cons _ r, h => by
    obtain ⟨v, h1, h2⟩ := vals_at (i := i) (u := u) r (by simpa using h)
    exact ⟨v, by simpa using h1, h2⟩
  | _, _, _, _, .nil, h => by simp at h
theorem cr_minP (hc : X.calm = true) (hu : X.A.units + 65 < cLine) : CallR X (.builtin "min") (rMinP X.K) := by
  intro pins s σ H us ws Q I r h
  obtain ⟨a, vs, p, ps, rfl, hs, hd, ha, hdp, q⟩ := h
  obtain ⟨its, rv, hl, _⟩ := I.list hs
  rw [Vals.ref1 r]
  obtain ⟨as, hr⟩ := Dp.readsAll I (p :: ps) vs its hd rv
  have hr' : ReadsAll s.heap its.toArray.toList (p :: ps) as := by simpa using hr
  have hn : its.toArray.size = ps.length + 1 := PySem.W.readsAll_len hr'
  refine PySem.call_min_walkH (PySem.W.iter_listW (A := X.A.in1) (I.ok.hd hc) hl.isList fun s₂ e W st hfp hw hk => ?_)
  refine ⟨_, _, _, _, _, _, _, s.heap, _, rfl, W, st, hfp, by omega, hw, hk, PySem.W.cmpIn_lt (A := X.A.in1) hr' ha (by show X.A.units + 1 + _ < _; omega), fun v s' hP m => ?_⟩
  obtain ⟨h', tk, rfl, hk'⟩ := PySem.W.moved_old e rfl m
  have e1 : its.toArray.size - 1 = ps.length := by omega
  rw [e1] at hP
  obtain ⟨v', h1, h2⟩ := vals_at rv (by simpa using hP)
  exact ⟨v', H, I.kept hk', h2, q v' h1⟩
theorem cr_or {f : Value} {r1 r2 : List V → Hp → VK → Prop} (h1 : CallR X f r1) (h2 : CallR X f r2) : CallR X f (fun xs H Q => r1 xs H Q ∨ r2 xs H Q) := by
  intro pins s σ H us ws Q I r h
  rcases h with h | h
  · exact h1 pins s σ H us ws Q I r h
  · exact h2 pins s σ H us ws Q I r h
theorem toPL_dpAll {K : PySem.W.Frag} {mg : Str → Option Value} {μ : List Addr} {H : Hp} {s : S} (M : Sim K mg μ H s) {ds : List D} {ps : List PyData} {vs : List V} (h : toPL (toP s 60) ds = some ps) (r : RepL K mg μ H ds vs) : DpAll K H vs ps ∧ PyData.depthAll ps ≤ 60 :=
  ⟨toPL_dp (toP_dp M 60) h r, (toPL_shape (toP_shape 60) h).2⟩
theorem r_minL (hc : X.calm = true) (hu : X.A.units + 65 < cLine) (hg : Gl X "min") (hm : X.mg "min" = none) (he : PE X e (TDi X.K X.mg mq)) (hp : plainE e = true) : PE X (.Call (.Name "min" p) [e] [] pos) (TDe X.K X.mg (m1 mq minL)) :=
  PEw (callB1 (cr_or (cr_min hc) (cr_minP hc hu)) hg hm (by decide +kernel) he hp (by decide) (by decide)) fun σ H Q h => (runI h).imp fun x H1 ⟨μ, ds, s, M, ⟨a, vs, e, hq, rl⟩, h⟩ => by
    unfold minL at h
    split at h
    · rename_i ns hn
      left
      unfold minQ at h
      rw [hn] at h
      have := ints_rep rl hn
      subst this
      obtain ⟨c, h⟩ := ok_if h
      refine ⟨a, ns, by rw [e], hq, c, fun m h1 h2 => ?_⟩
      obtain ⟨k1, k2⟩ := minI_mem c
      have : m = minI ns := Int.le_antisymm (h2 _ k1) (k2 _ h1)
      rw [this]
      exact h.here M (.int _)
    · right
      split at h
      · exact h.elim
      · rename_i x xs _
        split at h
        · rename_i ps hps
          obtain ⟨ha, h9⟩ := ok_if h
          clear h
          obtain ⟨b1, b2⟩ := best_is hps
          have hl := (toPL_at hps).1
          cases ps with
          | nil => cases hl
          | cons p0 ps =>
            obtain ⟨d1, d2⟩ := toPL_dpAll M hps rl
            refine ⟨a, vs, p0, ps, by rw [e], hq, d1, alikeB_ok ha, d2, fun v hv => ?_⟩
            have hl2 : ps.length = xs.length := by simpa using hl.symm
            rw [hl2] at hv
            obtain ⟨d, g1, g2⟩ := rl.getv hv
            have : d = pickBy (ltS s) x xs := by
              rw [← b1, List.getD_eq_getElem?_getD, g1]
              rfl
            rw [this] at g2
            exact h9.here M g2
        · exact h.elim
end

/-! ### dict(pairs), d.get(k): keys that are tuples of numbers and texts -/
def keyD : D → Option Key
  | .int i => some (.inl i)
  | .str x => some (.inr x)
  | _ => none
def keysD : List D → Option (List Key)
  | [] => some []
  | d :: ds => match keyD d, keysD ds with
    | some k, some ks => some (k :: ks)
    | _, _ => none
def pairKT : D → Option (List Key × D)
  | .tup [.tup ks, d] => (keysD ks).map fun k => (k, d)
  | _ => none
def pairsKT : List D → Option (List (List Key × D))
  | [] => some []
  | d :: ds => match pairKT d, pairsKT ds with
    | some k, some ks => some (k :: ks)
    | _, _ => none
def putKD (kvs : List (List Key × D)) (k : List Key) (v : D) : List (List Key × D) :=
  if (kvs.any fun kv => decide (kv.1 = k)) = true then kvs.map (fun kv => if kv.1 = k then (kv.1, v) else kv) else kvs ++ [(k, v)]
def mergeKT (qs acc : List (List Key × D)) : List (List Key × D) := qs.foldl (fun acc q => putKD acc q.1 q.2) acc
def atKT (kvs : List (List Key × D)) (k : List Key) : Option D := (kvs.find? fun kv => decide (kv.1 = k)).map (·.2)
def dictQ (ds : List D) (s : S) : R D := match pairsKT ds with
  | some kvs => .ok (.ref s.length) (s ++ [.dT (mergeKT kvs [])])
  | none => .bad
def isDct (d : D) (s : S) : Bool := match d with
  | .ref n => match s[n]? with
    | some (.dT _) => true
    | _ => false
  | _ => false
def getKT (x k : D) (s : S) : R D := match x, k with
  | .ref n, .tup ks => match s[n]?, keysD ks with
    | some (.dT kvs), some k => .ok ((atKT kvs k).getD .non) s
    | _, _ => .bad
  | _, _ => .bad
def getM (o a : M D) : M D := fun env s => (o env s).bind fun x s1 => if isDct x s1 = true then (a env s1).bind fun k s2 => getKT x k s2 else .bad
section
variable {K : PySem.W.Frag} {mg : Str → Option Value} {μ : List Addr} {H : Hp} {s : S}
theorem keyD_rep {d : D} {v : V} {k : Key} (r : Rep K mg μ H d v) (h : keyD d = some k) : v = kV k := by
  cases r <;> first
    | (cases h; done)
    | (cases h; rfl)
theorem keysD_rep : ∀ {ds : List D} {vs : List V} {ks : List Key}, RepL K mg μ H ds vs → keysD ds = some ks → vs = ks.map kV
  | [], _, _, r, h => by
    cases r
    cases h
    rfl
  | d :: ds, _, ks, r, h => by
    cases r with
    | cons r1 r2 =>
      unfold keysD at h
      split at h
      · rename_i k ks' h1 h2
        cases h
        rw [keyD_rep r1 h1, keysD_rep r2 h2]
        rfl
      · cases h
theorem pairs_rep : ∀ {ds : List D} {vs : List V} {kvs : List (List Key × D)}, RepL K mg μ H ds vs → pairsKT ds = some kvs → ∃ (ts : List Addr) (qs : List (Addr × List Key × V)), vs = ts.map V.ref ∧
    Paired (fun t q => SqT K H t [.ref q.1, q.2.2] ∧ H q.1 = some (.tup (q.2.1.map kV))) ts qs ∧ Paired (fun (q : Addr × List Key × V) (p : List Key × D) => q.2.1 = p.1 ∧ Rep K mg μ H p.2 q.2.2) qs kvs
  | [], _, _, r, h => by
    cases r
    cases h
    exact ⟨[], [], rfl, .nil, .nil⟩
  | d :: ds, _, kvs, r, h => by
    cases r with
    | cons r1 r2 =>
      unfold pairsKT at h
      split at h
      · rename_i p ps h1 h2
        cases h
        obtain ⟨ts, qs, e, g1, g2⟩ := pairs_rep r2 h2
        unfold pairKT at h1
        split at h1
        · rename_i ks d
          obtain ⟨k, hk, e2⟩ := Option.map_eq_some_iff.mp h1
          subst e2
          cases r1 with
          | @tup t vs2 _ ht rl =>
            cases rl with
            | cons ra rl =>
              cases rl with
              | cons rb rl =>
                cases rl
                cases ra with
                | @tup b ws _ hb rk =>
                  have ew := keysD_rep rk hk
                  subst ew
                  refine ⟨t :: ts, (b, k, _) :: qs, by rw [e]; rfl, .cons ⟨SqU.t ht, hb⟩ g1, .cons ⟨rfl, rb⟩ g2⟩
        · cases h1
      · cases h
theorem RepKT.any {fs : List (List Key × D)} {gs : List (List Key × V)} (r : RepKT K mg μ H fs gs) (k : List Key) : (fs.any fun kv => decide (kv.1 = k)) = gs.any fun kv => decide (kv.1 = k) := by
  induction r with
  | nil => rfl
  | cons h r ih => rw [List.any_cons, List.any_cons, ih]
theorem RepKT.repl {fs : List (List Key × D)} {gs : List (List Key × V)} (r : RepKT K mg μ H fs gs) (k : List Key) {d : D} {v : V} (h : Rep K mg μ H d v) : RepKT K mg μ H (fs.map fun kv => if kv.1 = k then (kv.1, d) else kv) (gs.map fun kv => if kv.1 = k then (kv.1, v) else kv) := by
  induction r with
  | nil => exact .nil
  | @cons k' d' fs v' gs h' r ih =>
    rw [List.map_cons, List.map_cons]
    by_cases e : k' = k
    · rw [if_pos e, if_pos e]
      exact .cons h ih
    · rw [if_neg e, if_neg e]
      exact .cons h' ih
theorem RepKT.snoc {fs : List (List Key × D)} {gs : List (List Key × V)} (r : RepKT K mg μ H fs gs) (k : List Key) {d : D} {v : V} (h : Rep K mg μ H d v) : RepKT K mg μ H (fs ++ [(k, d)]) (gs ++ [(k, v)]) := by
  induction r with
  | nil => exact .cons h .nil
  | cons h' r ih => exact .cons h' ih
theorem RepKT.put {fs : List (List Key × D)} {gs : List (List Key × V)} (r : RepKT K mg μ H fs gs) (k : List Key) {d : D} {v : V} (h : Rep K mg μ H d v) : RepKT K mg μ H (putKD fs k d) (putK gs k v) := by
  unfold putKD putK
  rw [r.any k]
  split
  · exact r.repl k h
  · exact r.snoc k h
theorem merge_rep {qs : List (Addr × List Key × V)} {kvs : List (List Key × D)} (h : Paired (fun (q : Addr × List Key × V) (p : List Key × D) => q.2.1 = p.1 ∧ Rep K mg μ H p.2 q.2.2) qs kvs) :
    ∀ {fs : List (List Key × D)} {gs : List (List Key × V)}, RepKT K mg μ H fs gs → RepKT K mg μ H (mergeKT kvs fs) (mergeT qs gs) := by
  induction h with
  | nil => exact fun r => r
  | @cons q p qs kvs h r ih =>
    intro fs gs rr
    obtain ⟨h1, h2⟩ := h
    have := ih (rr.put p.1 h2)
    rw [← h1] at this
    show RepKT K mg μ H (mergeKT kvs (putKD fs p.1 p.2)) (mergeT qs (putK gs q.2.1 q.2.2))
    rw [← h1]
    exact this
end
section
variable {X : Cx} {o e : Expr} {mo me : M D} {mq : M (List D)} {apos cpos p pos : Pos}
theorem r_dict (hc : X.calm = true) (hu : X.A.units + 65 < cLine) (hg : Gl X "dict") (hm : X.mg "dict" = none) (he : PE X e (TDi X.K X.mg mq)) (hp : plainE e = true) : PE X (.Call (.Name "dict" p) [e] [] pos) (TDe X.K X.mg (m1 mq dictQ)) :=
  PEw (callT1 (cr_dictT hc hu) hg hm (by decide +kernel) he hp (by decide) (by decide)) fun σ H Q h => (runI h).imp fun x H1 ⟨μ, ds, s, M, ⟨a, vs, e, hq, rl⟩, h⟩ => by
    unfold dictQ at h
    split at h
    · rename_i kvs hk
      obtain ⟨ts, qs, e2, g1, g2⟩ := pairs_rep rl hk
      subst e2
      refine ⟨a, ts, qs, by rw [e], hq, g1, fun q hq => ?_⟩
      refine h (μ ++ [q]) _ (.ref q) ((Ext.laid hq).push hq) ((M.laid hq).push (M.fresh hq) ⟨_, upd_same, (merge_rep g2 .nil).mono ⟨[q], rfl⟩ (sqt_new hq)⟩) (.ref ?_)
      rw [← M.len]
      simp
    · exact h.elim
theorem r_get (hu : X.A.units + 65 < cLine) (ho : PE X o (TDe X.K X.mg mo)) (he : PE X e (TDe X.K X.mg me)) (hb : notBareCall o = true) (hp : plainE e = true) (hl : (apos.endLine == cpos.line) = true) :
    PE X (.Call (.Attribute o "get" apos) [e] [] cpos) (TDe X.K X.mg (getM mo me)) :=
  PEw (pe_dget1 (by omega) ho he ⟨attrBase hb, by rw [few_plain (by simp [hp])]; rfl, hl, by rw [starEach_plain (plainE_ne hp)]; rfl⟩) fun σ H Q ⟨μ, env, s, N, h⟩ => by
    obtain ⟨x, s1, e1, h⟩ := Ok.bind h
    obtain ⟨hc, h⟩ := ok_if h
    obtain ⟨k, s2, e2, h⟩ := Ok.bind h
    refine ⟨μ, env, s, N, Ok.thn e1 fun μ1 H1 v E1 M1 r1 => ?_⟩
    cases r1 with
    | @ref n a hn =>
      have hd : ∃ kvs, s1[n]? = some (.dT kvs) := by
        unfold isDct at hc
        simp only at hc
        split at hc
        · rename_i kvs hx
          exact ⟨kvs, hx⟩
        · cases hc
      obtain ⟨kvs, hx⟩ := hd
      obtain ⟨vs, hv, _⟩ := M1.obj _ _ _ hn hx
      refine ⟨a, rfl, .inr ⟨vs, .inl hv⟩, μ1, env, s1, N.step E1 M1, Ok.thn e2 fun μ2 H2 w E2 M2 r2 => ?_⟩
      unfold getKT at h
      cases r2 with
      | @tup b ws ks hb rk =>
        simp only at h
        split at h
        · rename_i kvs2 k2 hx2 hk2
          obtain ⟨vs2, hv2, rkt⟩ := M2.obj _ _ _ (pre_get E2.pre hn) hx2
          have ew := keysD_rep rk hk2
          subst ew
          refine ⟨valV vs2 k2, DGet.t hv2 hb, ?_⟩
          obtain ⟨g1, g2⟩ := rkt.val k2
          cases ha : atKT kvs2 k2 with
          | none =>
            rw [g2 ha]
            rw [ha] at h
            exact h μ2 H2 _ (E1.trans E2) M2 .non
          | some d =>
            obtain ⟨v2, e3, rv⟩ := g1 d ha
            rw [e3]
            rw [ha] at h
            exact h μ2 H2 _ (E1.trans E2) M2 rv
        · exact h.elim
      | _ => exact (h : False).elim
    | _ => cases hc
end
end Mini

set_option Elab.async false
set_option linter.all false
set_option maxRecDepth 100000
set_option maxHeartbeats 2000000
/-! Mini, part K: the evaluator over the text's own trees, and that it is right. -/
namespace Mini
open PySem L2

/-- what of the module a def may use: its defs (how many arguments), its classes (arguments of __init__), its int constants, the built-in names, the attributes of its classes -/
structure Tab where
  fns : List (Str × Nat)
  mks : List (Str × Nat)
  cons : List (Str × Int)
  blt : List Str
  attrs : List (Str × Str)
/-- what calls do -/
structure Cl where
  call : Str → List D → S → R D
  init : Str → List D → S → R D
structure Ev where
  e : Scope → Expr → M D
  t : Scope → Expr → M Bool
  l : Scope → Expr → M (List D)
def Ev.nil : Ev := ⟨fun _ _ => badM, fun _ _ => badM, fun _ _ => badM⟩

def isGl (sc : Scope) (x : Str) : Bool := decide (sc.names.lookup x = some .globalImplicit)
def isVis (sc : Scope) (x : Str) : Bool := decide (sc.names.lookup x = some .local) || decide (sc.names.lookup x = some .cell) || decide (sc.names.lookup x = some .free)
def isLoc (sc : Scope) (x : Str) : Bool := decide (sc.names.lookup x = some .local) || decide (sc.names.lookup x = some .cell)
def tyNames : List (Str × String) := [("int", "int"), ("bool", "bool"), ("tuple", "tuple"), ("list", "list"), ("str", "str"), ("dict", "dict")]
def nameM (T : Tab) (N : List Str) (sc : Scope) (x : Str) : M D :=
  if isVis sc x = true then match slot N x with
    | some i => if (x == ("__debug__" : Str)) = false ∧ (x == ("__classdict__" : Str)) = false then varM i else badM
    | none => badM
  else if isGl sc x = true ∧ (x == ("__debug__" : Str)) = false then match T.cons.lookup x with
    | some i => constM (.int i)
    | none => match tyNames.lookup x with
      | some n => if T.blt.contains x = true then constM (.ty n) else badM
      | none => badM
  else badM
def bltOk (T : Tab) (sc : Scope) (f : Str) : Bool := isGl sc f && T.blt.contains f
def argsM (r : Scope → Expr → M D) (sc : Scope) : List Expr → M (List D)
  | [] => nilM
  | e :: es => consM (r sc e) (argsM r sc es)
def optM (r : Scope → Expr → M D) (sc : Scope) : Option Expr → M (Option Int)
  | none => oNone
  | some e => oSome (r sc e)
def ownOf (N : List Str) (scope : Scope) : List (Str × Nat) := scope.names.filterMap fun y => if y.2 = .local ∨ y.2 = .cell then (slot N y.1).map fun i => (y.1, i) else none
def notSet : Expr → Bool
  | .Set .. => false
  | _ => true
def isTup : Expr → Bool
  | .Tuple .. => true
  | _ => false
/-- an expression that makes a new list -/
def isNew : Expr → Bool
  | .ListComp .. => true
  | .List .. => true
  | .Call (.Name f _) [_] [] _ => decide (f = "list")
  | _ => false
def walkM (r : Ev) (sc : Scope) (e : Expr) : M Its := if isNew e = true then m1 (r.l sc e) itsQ else m1 (r.e sc e) itsD
def iterM (T : Tab) (r : Ev) (sc : Scope) (tg e : Expr) : M Its := match e with
  | .Call (.Name f _) [a] [] _ =>
    if f = "range" ∧ bltOk T sc f = true ∧ plainE a = true then m1 (rg1 (r.e sc a)) rgI
    else if f = "enumerate" ∧ bltOk T sc f = true ∧ plainE a = true ∧ isTup tg = true then m1 (walkM r sc a) enumI
    else if f = "range" ∨ f = "enumerate" then badM
    else walkM r sc e
  | .Call (.Name f _) [a, b] [] _ =>
    if f = "range" ∧ bltOk T sc f = true ∧ plainE a = true ∧ plainE b = true then m1 (rg2 (r.e sc a) (r.e sc b)) rgI
    else if f = "zip" ∧ bltOk T sc f = true ∧ plainE a = true ∧ plainE b = true ∧ isTup tg = true then m2 (walkM r sc a) (walkM r sc b) zipI
    else if f = "range" ∨ f = "zip" then badM
    else walkM r sc e
  | _ => walkM r sc e
def ifsM (r : Ev) (sc : Scope) : List Expr → M Bool
  | [] => yesM
  | [c] => r.t sc c
  | _ => badM
def compM (T : Tab) (N : List Str) (r : Ev) (sc : Scope) (elt tg iter : Expr) (ifs : List Expr) (scope : Scope) : M (List D) :=
  match tgE N (isLoc scope) 8 tg with
  | some t => if blkC N sc scope (ownOf N scope) = true ∧ (t.slots.all ((ownOf N scope).map (·.2)).contains) = true ∧ notSet iter = true then
      lcM (iterM T r sc tg iter) ((ownOf N scope).map (·.2)) t (ifsM r (relS scope sc) ifs) (r.e (relS scope sc) elt)
    else badM
  | none => badM
def rgM (T : Tab) (r : Ev) (sc : Scope) : Expr → Option (M (List D))
  | .Call (.Name f _) [a] [] _ => if f = "range" ∧ bltOk T sc f = true ∧ plainE a = true then some (rg1 (r.e sc a)) else none
  | .Call (.Name f _) [a, b] [] _ => if f = "range" ∧ bltOk T sc f = true ∧ plainE a = true ∧ plainE b = true then some (rg2 (r.e sc a) (r.e sc b)) else none
  | _ => none
/-- a sequence's items -/
def seqsM (r : Ev) (sc : Scope) (e : Expr) : M (List D) := if isNew e = true then r.l sc e else match e with
  | .Subscript a (.Slice lo hi none _) _ => m3 (r.e sc a) (optM r.e sc lo) (optM r.e sc hi) slQ
  | _ => seqM (r.e sc e)
def lstsM (r : Ev) (sc : Scope) (e : Expr) : M (List D) := if isNew e = true then r.l sc e else m1 (r.e sc e) lsD
def xlstM (r : Ev) (sc : Scope) (e : Expr) : M (List D) := if isNew e = true then r.l sc e else m1 (r.e sc e) lstD
def boolV (r : Ev) (sc : Scope) (op : BoolOp) : List Expr → M D
  | [] => badM
  | [a] => r.e sc a
  | a :: b :: rest => match op with
    | .And => iteM (asB (r.e sc a)) (boolV r sc op (b :: rest)) (constM (.bl false))
    | .Or => iteM (asB (r.e sc a)) (constM (.bl true)) (boolV r sc op (b :: rest))
def boolT (r : Ev) (sc : Scope) (op : BoolOp) : List Expr → M Bool
  | [] => badM
  | [a] => r.t sc a
  | a :: b :: rest => match op with
    | .And => andM (r.t sc a) (boolT r sc op (b :: rest))
    | .Or => orM (r.t sc a) (boolT r sc op (b :: rest))
def attrOk (T : Tab) (f : Str) : Str → Bool := fun C => T.attrs.contains (C, f)
/-- a built-in function of one argument -/
def blt1 (T : Tab) (r : Ev) (sc : Scope) (f : Str) (a : Expr) : M D :=
  if f = "len" then m1 (seqsM r sc a) lenQ
  else if f = "all" then m1 (lstsM r sc a) allQ
  else if f = "any" then m1 (lstsM r sc a) anyQ
  else if f = "tuple" then (match rgM T r sc a with
    | some m => m1 m tupQ
    | none => m1 (seqsM r sc a) tupQ)
  else if f = "int" then m1 (r.e sc a) intD
  else if f = "sum" then m1 (lstsM r sc a) sumQ
  else if f = "abs" then m1 (r.e sc a) absD
  else if f = "min" then m1 (lstsM r sc a) minL
  else if f = "max" then m1 (lstsM r sc a) maxQ
  else if f = "dict" then m1 (lstsM r sc a) dictQ
  else badM
def blt2 (r : Ev) (sc : Scope) (f : Str) (a b : Expr) : M D :=
  if f = "isinstance" then (match b with
    | .Tuple es _ _ => if es.all plainE = true then m2 (r.e sc a) (argsM r.e sc es) isiTD else badM
    | _ => m2 (r.e sc a) (r.e sc b) isiD)
  else if f = "min" then m2 (r.e sc a) (r.e sc b) min2D
  else if f = "max" then m2 (r.e sc a) (r.e sc b) max2D
  else badM
def callM (T : Tab) (c : Cl) (r : Ev) (sc : Scope) (f : Str) (as : List Expr) : M D :=
  if isGl sc f = true ∧ (f == ("__debug__" : Str)) = false ∧ as.all plainE = true then match T.fns.lookup f with
    | some n => m1 (argsM r.e sc as) (callD n (c.call f))
    | none => match T.mks.lookup f with
      | some n => if as.isEmpty = false then m1 (argsM r.e sc as) (makeD f n (c.init f)) else badM
      | none => if T.blt.contains f = true then match as with
          | [a] => blt1 T r sc f a
          | [a, b] => blt2 r sc f a b
          | _ => badM
        else badM
  else badM
def methM' (r : Ev) (sc : Scope) (o : Expr) (m : Str) (apos cpos : Pos) (as : List Expr) : M D :=
  if notBareCall o = true ∧ (apos.endLine == cpos.line) = true ∧ as.all plainE = true then match as with
    | [] => if m = "pop" then methM (r.e sc o) nilM popD else badM
    | [a] => if m = "append" then methM (r.e sc o) (consM (r.e sc a) nilM) appD
      else if m = "pop" then methM (r.e sc o) (consM (r.e sc a) nilM) popD
      else if m = "extend" then extM (r.e sc o) (xlstM r sc a)
      else if m = "get" then getM (r.e sc o) (r.e sc a)
      else badM
    | _ => badM
  else badM
def evE (T : Tab) (c : Cl) (N : List Str) (r : Ev) (sc : Scope) (e : Expr) : M D := match e with
  | .Constant (.int i) _ _ => constM (.int i)
  | .Constant (.bool b) _ _ => constM (.bl b)
  | .Constant .none _ _ => constM .non
  | .Constant (.str x) _ _ => constM (.str x)
  | .Name x _ => nameM T N sc x
  | .Tuple es _ _ => if es.all plainE = true ∧ es.length ≤ 1000 then tupM (argsM r.e sc es) else badM
  | .BinOp a op b _ => m2 (r.e sc a) (r.e sc b) (binD op)
  | .UnaryOp .Not a _ => ofB (notM (asB (r.e sc a)))
  | .UnaryOp .USub a _ => m1 (r.e sc a) negD
  | .BoolOp op vs _ => boolV r sc op vs
  | .Compare a [op] [b] _ => if behindInMarks op b = false then m2 (r.e sc a) (r.e sc b) (cmpD op) else badM
  | .Compare a [op, op'] [b, b'] _ => if lastMarks [op, op'] [b, b'] = false then chainM (cmpD op) (cmpD op') (r.e sc a) (r.e sc b) (r.e sc b') else badM
  | .IfExp t a b _ => iteM (r.t sc t) (r.e sc a) (r.e sc b)
  | .Subscript a (.Slice lo hi none _) _ => m3 (r.e sc a) (optM r.e sc lo) (optM r.e sc hi) slD
  | .Subscript a b _ => if notSlice b = true then m2 (r.e sc a) (r.e sc b) ixD else badM
  | .Attribute o f _ => if notBareCall o = true then m1 (r.e sc o) (fldD (attrOk T f) f) else badM
  | .Call (.Name f _) as [] _ => if isNew e = true then newM (r.l sc e) else callM T c r sc f as
  | .Call (.Attribute o m apos) as [] cpos => methM' r sc o m apos cpos as
  | .ListComp .. => newM (r.l sc e)
  | .List .. => newM (r.l sc e)
  | _ => badM
def plainT : Expr → Bool
  | .UnaryOp .. | .BoolOp .. | .IfExp .. | .Compare .. => false
  | _ => true
def evT (T : Tab) (c : Cl) (N : List Str) (r : Ev) (sc : Scope) (e : Expr) : M Bool := match e with
  | .UnaryOp .Not a _ => notM (r.t sc a)
  | .BoolOp op vs _ => boolT r sc op vs
  | .Compare .. => asB (evE T c N r sc e)
  | _ => if plainT e = true then asB (evE T c N r sc e) else badM
def evL (T : Tab) (N : List Str) (r : Ev) (sc : Scope) (e : Expr) : M (List D) := match e with
  | .ListComp elt [⟨tg, iter, ifs, 0⟩] scope _ => compM T N r sc elt tg iter ifs scope
  | .List es _ => if es.all plainE = true ∧ es.length ≤ 1000 then argsM r.e sc es else badM
  | .Call (.Name f _) [a] [] _ => if f = "list" ∧ bltOk T sc f = true ∧ plainE a = true then (match rgM T r sc a with
      | some m => m
      | none => seqsM r sc a) else badM
  | _ => badM
def ev (T : Tab) (c : Cl) (N : List Str) : Nat → Ev
  | 0 => Ev.nil
  | n + 1 => ⟨evE T c N (ev T c N n), evT T c N (ev T c N n), evL T N (ev T c N n)⟩

/-! ### it is right -/
structure Good (T : Tab) (c : Cl) (N : List Str) (X : Cx) : Prop where
  eN : X.N = N
  nd : N.Nodup
  calm : X.calm = true
  hu : X.A.units + 65 < cLine
  fn : ∀ f n, T.fns.lookup f = some n → CallOk X f n (c.call f)
  mks : ∀ f n, T.mks.lookup f = some n → MakeOk X f n (c.init f)
  co : ∀ x i, T.cons.lookup x = some i → ∃ t, X.mg x = some (.int i t)
  bl : ∀ x, T.blt.contains x = true → X.mg x = none
  at_ : ∀ C f cc, T.attrs.contains (C, f) = true → X.mg C = some (.ref cc) → Cls X.K cc ∧ NoAttr X.K cc f
section
variable {T : Tab} {c : Cl} {N : List Str} {X : Cx}
theorem Good.blk (G : Good T c N X) (s : Shared) (H : Hp) (scope : Scope) (ce : PySem.Env) (fp : List Addr) : Good T c N (X.blk s H scope ce fp) :=
  ⟨G.eN, G.nd, G.calm, G.hu, fun f n h => ⟨(G.fn f n h).ex⟩, fun f n h => ⟨(G.mks f n h).ex⟩, G.co, G.bl, G.at_⟩
structure EvOk (T : Tab) (c : Cl) (N : List Str) (r : Ev) : Prop where
  e : ∀ (X : Cx), Good T c N X → ∀ (e : Expr), PE X e (TDe X.K X.mg (r.e X.env.scope e))
  t : ∀ (X : Cx), Good T c N X → ∀ (e : Expr), PT X e (TDt X.K X.mg (r.t X.env.scope e))
  l : ∀ (X : Cx), Good T c N X → ∀ (e : Expr), PE X e (TDl X.K X.mg (r.l X.env.scope e))
theorem peBad {e : Expr} : PE X e (TDe X.K X.mg badM) := ⟨fun _ _ _ _ _ _ ⟨_, _, _, _, h⟩ => h.elim⟩
theorem peBadL {e : Expr} : PE X e (TDl X.K X.mg badM) := ⟨fun _ _ _ _ _ _ ⟨_, _, _, _, h⟩ => h.elim⟩
theorem ptBad {e : Expr} : PT X e (TDt X.K X.mg badM) := ⟨fun _ _ _ _ _ _ ⟨_, _, _, _, h⟩ => h.elim⟩
theorem pwBad {e : Expr} : PW X e (TDt X.K X.mg badM) := ⟨fun _ _ _ _ _ _ _ ⟨_, _, _, _, h⟩ => h.elim⟩
theorem ptsBad {ifs : List Expr} : PTs X ifs (TDt X.K X.mg badM) := ⟨fun _ _ _ _ _ _ ⟨_, _, _, _, h⟩ => h.elim⟩
theorem piBad {tg e : Expr} : PI X tg e (TDit X.K X.mg badM) := ⟨fun _ _ _ _ _ _ ⟨_, _, _, _, h⟩ => h.elim⟩
theorem peBadW {e : Expr} : PE X e (TDw X.K X.mg badM) := ⟨fun _ _ _ _ _ _ ⟨_, _, _, _, h⟩ => h.elim⟩
theorem glOf {x : Str} (h : isGl X.env.scope x = true) : Gl X x := of_decide_eq_true (p := X.env.scope.names.lookup x = some .globalImplicit) h
theorem bltOf (G : Good T c N X) {f : Str} (h : bltOk T X.env.scope f = true) : Gl X f ∧ X.mg f = none := by
  unfold bltOk at h
  rw [Bool.and_eq_true] at h
  exact ⟨glOf h.1, G.bl f h.2⟩
theorem visOf {x : Str} (h : isVis X.env.scope x = true) : Vis X.env.scope x := by
  unfold isVis at h
  simp only [Bool.or_eq_true, decide_eq_true_eq] at h
  rcases h with (h | h) | h
  · exact .inl h
  · exact .inr (.inl h)
  · exact .inr (.inr h)
theorem tyNames_ok {x : Str} {n : String} (h : tyNames.lookup x = some n) : bootBuiltins x = some (.type n) ∧ x ≠ "__name__" := by
  have hm : ∃ y, (y, n) ∈ tyNames ∧ x = y := by
    revert h
    generalize tyNames = l
    intro h
    induction l with
    | nil => cases h
    | cons p l ih =>
      obtain ⟨y, m⟩ := p
      rw [List.lookup_cons] at h
      cases e : x == y with
      | true =>
        rw [e] at h
        cases h
        exact ⟨y, List.mem_cons_self, by simpa using e⟩
      | false =>
        rw [e] at h
        obtain ⟨z, h1, h2⟩ := ih h
        exact ⟨z, List.mem_cons_of_mem _ h1, h2⟩
  obtain ⟨y, hm, rfl⟩ := hm
  simp only [tyNames, List.mem_cons, Prod.mk.injEq, List.mem_nil_iff, or_false] at hm
  rcases hm with ⟨rfl, rfl⟩ | ⟨rfl, rfl⟩ | ⟨rfl, rfl⟩ | ⟨rfl, rfl⟩ | ⟨rfl, rfl⟩ | ⟨rfl, rfl⟩ <;> exact ⟨by decide +kernel, by decide +kernel⟩
theorem ok_name (G : Good T c N X) (x : Str) (pos : Pos) : PE X (.Name x pos) (TDe X.K X.mg (nameM T N X.env.scope x)) := by
  unfold nameM
  split
  · rename_i h
    split
    · rename_i i hi
      split
      · rename_i hd
        exact r_var (by rw [G.eN]; exact slot_get hi) (visOf h) hd.1 hd.2
      · exact peBad
    · exact peBad
  · split
    · rename_i h
      split
      · rename_i i hi
        obtain ⟨t, ht⟩ := G.co x i hi
        exact r_gint (glOf h.1) ht h.2
      · split
        · rename_i n hn
          split
          · rename_i hb
            obtain ⟨h1, h2⟩ := tyNames_ok hn
            exact r_ty (glOf h.1) (G.bl x hb) h1 h2 h.2
          · exact peBad
        · exact peBad
    · exact peBad
variable {r : Ev}
theorem ok_args (R : EvOk T c N r) (G : Good T c N X) : ∀ (es : List Expr), es.all plainE = true → PA X es (TDa X.K X.mg (argsM r.e X.env.scope es))
  | [], _ => r_nil
  | e :: es, h => by
    rw [List.all_cons, Bool.and_eq_true] at h
    exact r_cons (R.e X G e) (ok_args R G es h.2) (plainE_ne h.1)
theorem args_len {f : Scope → Expr → M D} {sc : Scope} : ∀ (es : List Expr) (env : Env) (s : S) (ds : List D) (s' : S), argsM f sc es env s = .ok ds s' → ds.length = es.length
  | [], _, _, _, _, h => by cases h; rfl
  | e :: es, env, s, ds, s', h => by
    unfold argsM consM m2 at h
    cases h1 : f sc e env s with
    | bad => rw [h1] at h; cases h
    | ok d s1 =>
      rw [h1, R.bind_ok] at h
      cases h2 : argsM f sc es env s1 with
      | bad => rw [h2] at h; cases h
      | ok ds2 s2 =>
        rw [h2, R.bind_ok] at h
        cases h
        simp [args_len es env s1 ds2 _ h2]
theorem ok_opt (R : EvOk T c N r) (G : Good T c N X) (o : Option Expr) : PO X o (TDo X.K X.mg (optM r.e X.env.scope o)) := by
  cases o with
  | none => exact r_oNone
  | some e => exact r_oSome (R.e X G e)
theorem ok_walk (R : EvOk T c N r) (G : Good T c N X) (e : Expr) : PE X e (TDw X.K X.mg (walkM r X.env.scope e)) := by
  unfold walkM
  split
  · exact r_wL (R.l X G e)
  · exact r_wV (R.e X G e)
theorem ok_iter (R : EvOk T c N r) (G : Good T c N X) (tg e : Expr) : PI X tg e (TDit X.K X.mg (iterM T r X.env.scope tg e)) := by
  unfold iterM
  split
  · rename_i f p a pos
    split
    · rename_i h
      obtain ⟨rfl, hb, hp⟩ := h
      obtain ⟨h1, h2⟩ := bltOf G hb
      exact r_itR1 h1 h2 (R.e X G a) hp
    · split
      · rename_i h
        obtain ⟨rfl, hb, hp, ht⟩ := h
        obtain ⟨h1, h2⟩ := bltOf G hb
        cases tg <;> first
          | exact r_itE h1 h2 (ok_walk R G a) hp
          | cases ht
      · split
        · exact piBad
        · exact r_itS (ok_walk R G _)
  · rename_i f p a b pos
    split
    · rename_i h
      obtain ⟨rfl, hb, hp, hp2⟩ := h
      obtain ⟨h1, h2⟩ := bltOf G hb
      exact r_itR2 h1 h2 (R.e X G a) (R.e X G b) hp hp2
    · split
      · rename_i h
        obtain ⟨rfl, hb, hp, hp2, ht⟩ := h
        obtain ⟨h1, h2⟩ := bltOf G hb
        cases tg <;> first
          | exact r_itZ h1 h2 (ok_walk R G a) (ok_walk R G b) hp hp2
          | cases ht
      · split
        · exact piBad
        · exact r_itS (ok_walk R G _)
  · exact r_itS (ok_walk R G _)
theorem ok_ifs (R : EvOk T c N r) (G : Good T c N X) (ifs : List Expr) : PTs X ifs (TDt X.K X.mg (ifsM r X.env.scope ifs)) := by
  unfold ifsM
  split
  · exact r_noIf
  · exact r_oneIf (R.t X G _)
  · exact ptsBad
theorem ok_comp (R : EvOk T c N r) (G : Good T c N X) (elt tg iter : Expr) (ifs : List Expr) (scope : Scope) (pos : Pos) : PE X (.ListComp elt [⟨tg, iter, ifs, 0⟩] scope pos) (TDl X.K X.mg (compM T N r X.env.scope elt tg iter ifs scope)) := by
  unfold compM
  split
  · rename_i t ht
    split
    · rename_i h
      obtain ⟨hb, hs, hn⟩ := h
      have hN : X.N.Nodup := by rw [G.eN]; exact G.nd
      refine r_lc G.calm hN (ok_iter R G tg iter) (by rw [G.eN]; exact blkOk_by hb) (fun i hi => ?_) (fun s H C cl fp => ?_) (fun s H C cl fp => ok_ifs R (G.blk ..) ifs) (fun s H C cl fp => R.e _ (G.blk ..) elt) (fun es k p e => by rw [e] at hn; cases hn)
      · have := List.all_eq_true.mp hs i hi
        simpa using this
      · have hN' : (X.blk s H scope (compEnvC scope cl C X.env) fp).N.Nodup := hN
        refine r_tg hN' G.calm (ok := isLoc scope) (fun x hx => ?_) 8 tg t (by show tgE X.N (isLoc scope) 8 tg = some t; rw [G.eN]; exact ht)
        unfold isLoc at hx
        simp only [Bool.or_eq_true, decide_eq_true_eq] at hx
        have key : ∀ k, k ≠ .free → scope.names.lookup x = some k → (relS scope X.env.scope).names.lookup x = some k := fun k hk h => lookup_relS_keep hk h
        rcases hx with hx | hx
        · have q := key _ (by decide) hx
          exact ⟨.inl q, .inr q⟩
        · have q := key _ (by decide) hx
          refine ⟨.inr q, .inl ?_⟩
          show (scope.names.lookup x == some NameKind.cell) = true
          rw [hx]
          rfl
    · exact peBadL
  · exact peBadL
theorem ok_rg (R : EvOk T c N r) (G : Good T c N X) {e : Expr} {m : M (List D)} (h : rgM T r X.env.scope e = some m) : RgOf X e m := by
  unfold rgM at h
  split at h
  · split at h
    · rename_i h'
      obtain ⟨rfl, hb, hp⟩ := h'
      obtain ⟨h1, h2⟩ := bltOf G hb
      cases h
      exact rgOf1 h1 h2 (R.e X G _) hp
    · cases h
  · split at h
    · rename_i h'
      obtain ⟨rfl, hb, hp, hp2⟩ := h'
      obtain ⟨h1, h2⟩ := bltOf G hb
      cases h
      exact rgOf2 h1 h2 (R.e X G _) (R.e X G _) hp hp2
    · cases h
  · cases h
theorem ok_seqs (R : EvOk T c N r) (G : Good T c N X) (e : Expr) : PE X e (TDq X.K X.mg (seqsM r X.env.scope e)) := by
  unfold seqsM
  split
  · exact r_seqL (R.l X G e)
  · split
    · exact r_slQ (R.e X G _) (ok_opt R G _) (ok_opt R G _)
    · exact r_seq (R.e X G e)
theorem ok_lsts (R : EvOk T c N r) (G : Good T c N X) (e : Expr) : PE X e (TDi X.K X.mg (lstsM r X.env.scope e)) := by
  unfold lstsM
  split
  · exact r_lsL (R.l X G e)
  · exact r_ls (R.e X G e)
theorem ok_xlst (R : EvOk T c N r) (G : Good T c N X) (e : Expr) : PE X e (TDx X.K X.mg (xlstM r X.env.scope e)) := by
  unfold xlstM
  split
  · exact r_xL (R.l X G e)
  · exact r_xV (R.e X G e)
theorem ok_boolV (R : EvOk T c N r) (G : Good T c N X) (op : BoolOp) (pos : Pos) : ∀ (vs : List Expr), PE X (.BoolOp op vs pos) (TDe X.K X.mg (boolV r X.env.scope op vs))
  | [] => peBad
  | [a] => PEw (pe_one (R.e X G a)) fun _ _ _ h => h
  | a :: b :: rest => by
    cases op with
    | And => exact r_andV (R.e X G a) (ok_boolV R G .And pos (b :: rest))
    | Or => exact r_orV (R.e X G a) (ok_boolV R G .Or pos (b :: rest))
theorem ok_boolT (R : EvOk T c N r) (G : Good T c N X) (op : BoolOp) (pos : Pos) : ∀ (vs : List Expr), PW X (.BoolOp op vs pos) (TDt X.K X.mg (boolT r X.env.scope op vs))
  | [] => pwBad
  | [a] => by
    cases op with
    | And => exact PWw (pw_and1 (R.t X G a)) fun _ _ _ h => h
    | Or => exact PWw (pw_or1 (R.t X G a)) fun _ _ _ h => h
  | a :: b :: rest => by
    cases op with
    | And => exact r_andW (R.t X G a) (ok_boolT R G .And pos (b :: rest))
    | Or => exact r_orW (R.t X G a) (ok_boolT R G .Or pos (b :: rest))
theorem ok_blt1 (R : EvOk T c N r) (G : Good T c N X) {f : Str} {a : Expr} (p pos : Pos) (hg : Gl X f) (hm : X.mg f = none) (hp : plainE a = true) : PE X (.Call (.Name f p) [a] [] pos) (TDe X.K X.mg (blt1 T r X.env.scope f a)) := by
  unfold blt1
  split
  · rename_i e; subst e; exact r_len hg hm (ok_seqs R G a) hp
  split
  · rename_i e; subst e; exact r_all G.calm hg hm (ok_lsts R G a) hp
  split
  · rename_i e; subst e; exact r_any G.calm hg hm (ok_lsts R G a) hp
  split
  · rename_i e; subst e
    split
    · rename_i m hr; exact r_tupRg G.calm hg hm (ok_rg R G hr) hp
    · exact r_tuple hg hm (ok_seqs R G a) hp
  split
  · rename_i e; subst e; exact r_int hg hm (R.e X G a) hp
  split
  · rename_i e; subst e; exact r_sum G.calm hg hm (ok_lsts R G a) hp
  split
  · rename_i e; subst e; exact r_abs hg hm (R.e X G a) hp
  split
  · rename_i e; subst e; exact r_minL G.calm G.hu hg hm (ok_lsts R G a) hp
  split
  · rename_i e; subst e; exact r_max G.calm hg hm (ok_lsts R G a) hp
  split
  · rename_i e; subst e; exact r_dict G.calm G.hu hg hm (ok_lsts R G a) hp
  exact peBad
theorem ok_blt2 (R : EvOk T c N r) (G : Good T c N X) {f : Str} {a b : Expr} (p pos : Pos) (hg : Gl X f) (hm : X.mg f = none) (hp : plainE a = true) (hp2 : plainE b = true) : PE X (.Call (.Name f p) [a, b] [] pos) (TDe X.K X.mg (blt2 r X.env.scope f a b)) := by
  unfold blt2
  split
  · rename_i e; subst e
    split
    · split
      · rename_i h; exact r_isiT hg hm (R.e X G a) (ok_args R G _ h) hp
      · exact peBad
    · exact r_isi hg hm (R.e X G a) (R.e X G b) hp hp2
  split
  · rename_i e; subst e; exact r_min2 G.calm hg hm (R.e X G a) (R.e X G b) hp hp2
  split
  · rename_i e; subst e; exact r_max2 G.calm hg hm (R.e X G a) (R.e X G b) hp hp2
  exact peBad
theorem ok_call (R : EvOk T c N r) (G : Good T c N X) (f : Str) (p : Pos) (as : List Expr) (pos : Pos) : PE X (.Call (.Name f p) as [] pos) (TDe X.K X.mg (callM T c r X.env.scope f as)) := by
  unfold callM
  split
  · rename_i h
    obtain ⟨hg, hd, hp⟩ := h
    split
    · rename_i n hn
      cases as with
      | nil => exact r_call0 (G.fn f n hn) (glOf hg) hd
      | cons a as => exact r_call (G.fn f n hn) (glOf hg) hd (ok_args R G _ hp) hp
    · split
      · rename_i n hn
        split
        · cases as with
          | nil => rename_i he; cases he
          | cons a as => exact r_make (G.mks f n hn) (glOf hg) hd (ok_args R G _ hp) hp
        · exact peBad
      · split
        · rename_i hb
          split
          · exact ok_blt1 R G p pos (glOf hg) (G.bl f hb) (by simpa using hp)
          · rename_i a b
            have hp : plainE a = true ∧ plainE b = true := by simpa using hp
            exact ok_blt2 R G p pos (glOf hg) (G.bl f hb) hp.1 hp.2
          · exact peBad
        · exact peBad
  · exact peBad
theorem ok_meth (R : EvOk T c N r) (G : Good T c N X) (o : Expr) (m : Str) (apos cpos : Pos) (as : List Expr) : PE X (.Call (.Attribute o m apos) as [] cpos) (TDe X.K X.mg (methM' r X.env.scope o m apos cpos as)) := by
  unfold methM'
  split
  · rename_i h
    obtain ⟨hb, hl, hp⟩ := h
    split
    · split
      · rename_i e; subst e; exact r_pop0 (R.e X G o) hb hl
      · exact peBad
    · rename_i a
      have hp : plainE a = true := by simpa using hp
      split
      · rename_i e; subst e; exact r_append (R.e X G o) (R.e X G a) hb hp hl
      split
      · rename_i e; subst e; exact r_pop1 (R.e X G o) (R.e X G a) hb hp hl
      split
      · rename_i e; subst e; exact r_extend (R.e X G o) (ok_xlst R G a) hb hp hl
      split
      · rename_i e; subst e; exact r_get G.hu (R.e X G o) (R.e X G a) hb hp hl
      exact peBad
    · exact peBad
  · exact peBad
theorem len1000 {n : Nat} (h : n ≤ 1000) : n ≤ sizeLine := by rw [sizeLine_eq]; omega
theorem ok_evL (R : EvOk T c N r) (G : Good T c N X) (e : Expr) : PE X e (TDl X.K X.mg (evL T N r X.env.scope e)) := by
  unfold evL
  split
  · exact ok_comp R G _ _ _ _ _ _
  · split
    · rename_i h
      exact r_lst (ok_args R G _ h.1) fun env s ds s' q => by rw [args_len _ _ _ _ _ q]; exact len1000 h.2
    · exact peBadL
  · split
    · rename_i h
      obtain ⟨rfl, hb, hp⟩ := h
      obtain ⟨h1, h2⟩ := bltOf G hb
      split
      · rename_i m hr
        exact r_listRg G.calm h1 h2 (ok_rg R G hr) hp
      · exact r_list h1 h2 (ok_seqs R G _) hp
    · exact peBadL
  · exact peBadL
theorem ok_evE (R : EvOk T c N r) (G : Good T c N X) (e : Expr) : PE X e (TDe X.K X.mg (evE T c N r X.env.scope e)) := by
  unfold evE
  split
  · exact r_const_int
  · exact r_const_bl
  · exact r_const_non
  · exact r_const_str
  · exact ok_name G _ _
  · split
    · rename_i h
      exact r_tup (ok_args R G _ h.1) fun env s ds s' q => by rw [args_len _ _ _ _ _ q]; exact len1000 h.2
    · exact peBad
  · exact r_bin (R.e X G _) (R.e X G _)
  · exact r_notV (R.e X G _)
  · exact r_neg (R.e X G _)
  · exact ok_boolV R G _ _ _
  · split
    · rename_i h; exact r_cmp G.hu (R.e X G _) (R.e X G _) h
    · exact peBad
  · split
    · rename_i h; exact r_chain G.hu (R.e X G _) (R.e X G _) (R.e X G _) h
    · exact peBad
  · exact r_ifT (R.t X G _) (R.e X G _) (R.e X G _)
  · exact r_sl (R.e X G _) (ok_opt R G _) (ok_opt R G _)
  · split
    · rename_i h; exact r_ix (R.e X G _) (R.e X G _) h
    · exact peBad
  · split
    · rename_i h; exact r_fld (R.e X G _) h fun C cc hC hm => G.at_ C _ cc hC hm
    · exact peBad
  · split
    · exact r_new (R.l X G _)
    · exact ok_call R G _ _ _ _
  · exact ok_meth R G _ _ _ _ _
  · exact r_new (R.l X G _)
  · exact r_new (R.l X G _)
  · exact peBad
theorem ptBad' {e : Expr} : PT X e (TDt X.K X.mg (asB badM)) := PTw ptBad fun σ H Q ⟨μ, env, s, N, h⟩ => (h : False).elim
theorem ok_cmpT (R : EvOk T c N r) (G : Good T c N X) (a : Expr) (ops : List CmpOp) (cs : List Expr) (pos : Pos) : PT X (.Compare a ops cs pos) (TDt X.K X.mg (asB (evE T c N r X.env.scope (.Compare a ops cs pos)))) := by
  rcases ops with _ | ⟨op, _ | ⟨op', _ | ⟨o3, ops⟩⟩⟩ <;> rcases cs with _ | ⟨b, _ | ⟨b', _ | ⟨b3, cs⟩⟩⟩ <;> first
    | exact ptBad'
    | (unfold evE
       simp only
       split
       · rename_i h; exact r_cmpT G.hu (R.e X G _) (R.e X G _) h
       · exact ptBad')
    | (unfold evE
       simp only
       split
       · rename_i h; exact r_chainT G.hu (R.e X G _) (R.e X G _) (R.e X G _) h
       · exact ptBad')
theorem ok_evT (R : EvOk T c N r) (G : Good T c N X) (e : Expr) : PT X e (TDt X.K X.mg (evT T c N r X.env.scope e)) := by
  unfold evT
  split
  · exact r_notT (R.t X G _)
  · exact (ok_boolT R G _ _ _).pt
  · exact ok_cmpT R G _ _ _ _
  · split
    · rename_i h
      refine r_valT (ok_evE R G e) ?_
      intro whole
      cases e <;> first | rfl | cases h
    · exact ptBad
theorem ev_ok : ∀ n, EvOk T c N (ev T c N n)
  | 0 => ⟨fun _ _ _ => peBad, fun _ _ _ => ptBad, fun _ _ _ => peBadL⟩
  | n + 1 => ⟨fun X G e => ok_evE (ev_ok n) G e, fun X G e => ok_evT (ev_ok n) G e, fun X G e => ok_evL (ev_ok n) G e⟩
end
end Mini

set_option Elab.async false
set_option linter.all false
set_option maxRecDepth 100000
set_option maxHeartbeats 2000000
/-! Mini, part L: the evaluator for statements and defs, and that it is right. -/
namespace Mini
open PySem L2

def badF : M Fl := fun _ _ => .bad
def blockM (f : Stmt → M Fl) : List Stmt → M Fl
  | [] => skipM
  | [s] => f s
  | s :: t :: r => seqS (f s) (blockM f (t :: r))
def isAttrs : List Expr → Bool
  | [] => true
  | .Attribute o _ _ :: r => notBareCall o && isAttrs r
  | _ => false
def attrsM (T : Tab) (r : Ev) (sc : Scope) : List Expr → List AttrT
  | .Attribute o f _ :: es => ⟨attrOk T f, f, r.e sc o⟩ :: attrsM T r sc es
  | _ => []
def isLocal (sc : Scope) (x : Str) : Bool := decide (sc.names.lookup x = some .local)
def lnOk (px : Pos) (p : Pos) : Bool := p.line == px.line
def parOk (vs : List Expr) : Bool := vs.all plainE && !vs.all (foldedForSure 8) && !vs.all (constantsAlone 8)
def swapF (sc : Scope) (l : Nat) : Expr → Option Str
  | .Name id pos => if sc.names.lookup id == some .local && pos.line == l then some id else none
  | _ => none
/-- plain: the tuple is made, then taken apart -/
def swapNo (sc : Scope) (ts vs : List Expr) : Bool := decide ((ts.filterMap (swapF sc ((ts.head?.map (·.pos.line)).getD 0))).length ≠ ts.length) || vs.all (foldedForSure 8)
/-- (a, b) = (x, y), else -/
def asgTup' (T : Tab) (N : List Str) (r : Ev) (sc : Scope) (ts vs : List Expr) (kt : Nat) (pt : Pos) (k2 : Nat) (pt2 : Pos) : M Fl :=
  if swapNo sc ts vs = true then match tgE N (isLoc sc) 8 (.Tuple ts kt pt) with
    | some t => setM t (r.e sc (.Tuple vs k2 pt2))
    | none => badF
  else badF
/-- (a, b) = (x, y) -/
def asgTup (T : Tab) (N : List Str) (r : Ev) (sc : Scope) (ts vs : List Expr) (kt : Nat) (pt : Pos) (k2 : Nat) (pt2 : Pos) : M Fl := match ts, vs with
  | [.Name x px, .Name y py], [a, b] =>
    if isLocal sc x = true ∧ isLocal sc y = true ∧ lnOk px py = true ∧ (x = y → False) ∧ parOk [a, b] = true then match slot N x, slot N y with
        | some i, some j => parM [i, j] (argsM r.e sc [a, b])
        | _, _ => badF
    else asgTup' T N r sc [.Name x px, .Name y py] [a, b] kt pt k2 pt2
  | [.Name x px, .Name y py, .Name z pz], [a, b, c] =>
    if isLocal sc x = true ∧ isLocal sc y = true ∧ isLocal sc z = true ∧ lnOk px py = true ∧ lnOk px pz = true ∧ (x = y → False) ∧ (x = z → False) ∧ (y = z → False) ∧ parOk [a, b, c] = true then match slot N x, slot N y, slot N z with
        | some i, some j, some k => parM [i, j, k] (argsM r.e sc [a, b, c])
        | _, _, _ => badF
    else asgTup' T N r sc [.Name x px, .Name y py, .Name z pz] [a, b, c] kt pt k2 pt2
  | ts, vs => if isAttrs ts = true ∧ vs.all plainE = true ∧ vs.length ≤ 1000 ∧ ts ≠ [] then setAs (attrsM T r sc ts) (argsM r.e sc vs) else asgTup' T N r sc ts vs kt pt k2 pt2
/-- an assignment -/
def asgM (T : Tab) (N : List Str) (r : Ev) (sc : Scope) (tg e : Expr) : M Fl := match tg with
  | .Name x px => match tgE N (isLoc sc) 8 (.Name x px) with
    | some t => (match e with
      | .ListComp elt [⟨tg, iter, ifs, 0⟩] scope _ => setM t (newM (compM T N r sc elt tg iter ifs scope))
      | e => if notComp e = true then setM t (r.e sc e) else badF)
    | none => badF
  | .Attribute o f _ => if notBareCall o = true then setFM (attrOk T f) f (r.e sc e) (r.e sc o) else badF
  | .Subscript o i _ => if notSlice i = true ∧ notComp e = true then setIM (r.e sc e) (r.e sc o) (r.e sc i) else badF
  | .Tuple ts kt pt => (match e with
    | .Tuple vs k2 pt2 => asgTup T N r sc ts vs kt pt k2 pt2
    | e => match tgE N (isLoc sc) 8 (.Tuple ts kt pt) with
      | some t => setM t (r.e sc e)
      | none => badF)
  | _ => badF
/-- how often a loop may go -/
def turns : Nat := 1000000000
def evS (T : Tab) (c : Cl) (N : List Str) (r : Ev) (sc : Scope) : Nat → Stmt → M Fl
  | 0, _ => badF
  | n + 1, st => match st with
    | .Expr e _ => if notComp e = true then dropM (r.e sc e) else badF
    | .Return (some e) _ => retM (r.e sc e)
    | .Return none _ => retM (constM .non)
    | .If c' a b _ => iteM (r.t sc c') (blockM (evS T c N r sc n) a) (blockM (evS T c N r sc n) b)
    | .For tg it body [] _ => (match tgE N (isLoc sc) 8 tg with
      | some t => if notSet it = true then forM' (iterM T r sc tg it) t (blockM (evS T c N r sc n) body) else badF
      | none => badF)
    | .While c' body [] _ => whGo (r.t sc c') (blockM (evS T c N r sc n) body) turns
    | .Pass _ => skipM
    | .Break _ => brkM
    | .Continue _ => cntM
    | .Assign [tg] e _ => asgM T N r sc tg e
    | _ => badF

/-! ### it is right -/
structure GoodS (T : Tab) (c : Cl) (N : List Str) (X : Cx) : Prop where
  g : Good T c N X
  fn : ∀ x, X.fn x = true
  xe : X.xe = fun _ _ => False
  kind : X.env.scope.kind = .function
section
variable {T : Tab} {c : Cl} {N : List Str} {X : Cx} {r : Ev}
theorem psBad {s : Stmt} : PS X s (TDs X.K X.mg badF) := ⟨fun _ _ _ _ _ _ ⟨_, _, _, _, h⟩ => h.elim⟩
theorem ok_block {f : Stmt → M Fl} (h : ∀ s, PS X s (TDs X.K X.mg (f s))) : ∀ ss : List Stmt, PSs X ss (TDs X.K X.mg (blockM f ss))
  | [] => r_snil
  | [s] => r_sone (h s)
  | s :: t :: r => r_scons (h s) (ok_block h (t :: r))
theorem ok_tg (G : GoodS T c N X) {tg : Expr} {t : Tg} (h : tgE N (isLoc X.env.scope) 8 tg = some t) : PG X tg (TDg X.K X.mg t) := by
  refine r_tg (by rw [G.g.eN]; exact G.g.nd) G.g.calm (ok := isLoc X.env.scope) (fun x hx => ⟨?_, .inl (G.fn x)⟩) 8 tg t (by rw [G.g.eN]; exact h)
  unfold isLoc at hx
  simp only [Bool.or_eq_true, decide_eq_true_eq] at hx
  exact hx
theorem block_fun (G : GoodS T c N X) : X.env.blockKind = .function := by
  unfold Env.blockKind
  rw [G.kind]
  rfl
theorem locOf {x : Str} (h : isLocal X.env.scope x = true) : X.env.scope.names.lookup x = some .local := of_decide_eq_true h
theorem swap_two (G : GoodS T c N X) {x y : Str} {px py : Pos} {a b : Expr} {kt : Nat} {pt : Pos} {k2 : Nat} {pt2 : Pos} (hx : X.env.scope.names.lookup x = some .local) (hy : X.env.scope.names.lookup y = some .local) (hl : lnOk px py = true) (hne : x ≠ y) (hp : parOk [a, b] = true) :
    swappedStores [.Tuple [.Name x px, .Name y py] kt pt] (.Tuple [a, b] k2 pt2) X.env = pure (some [x, y]) := by
  unfold parOk at hp
  simp only [Bool.and_eq_true, Bool.not_eq_true'] at hp
  obtain ⟨⟨h1, h2⟩, h3⟩ := hp
  have hb := block_fun G
  have kx : X.env.kindOf x = some .local := hx
  have ky : X.env.kindOf y = some .local := hy
  simp only [List.all_cons, List.all_nil, Bool.and_true, Bool.and_eq_true] at h1
  have hl : (py.line == px.line) = true := hl
  have hd : ([x, y] : List Str).eraseDups.length = 2 := by
    have : (y == x) = false := by simpa using Ne.symm hne
    simp [List.eraseDups_cons, this]
  unfold swappedStores
  simp only [List.length_cons, List.length_nil, List.any_cons, List.any_nil, hb, List.filterMap_cons, List.filterMap_nil, kx, ky, List.head?_cons, Option.map_some, Option.getD_some, Expr.pos, hl, h2, h3]
  simp [hd]
  rintro (h | h) <;> split at h <;> first
    | cases h1.1
    | cases h1.2
    | cases h
theorem swap_three (G : GoodS T c N X) {x y z : Str} {px py pz : Pos} {a b d : Expr} {kt : Nat} {pt : Pos} {k2 : Nat} {pt2 : Pos} (hx : X.env.scope.names.lookup x = some .local) (hy : X.env.scope.names.lookup y = some .local) (hz : X.env.scope.names.lookup z = some .local)
    (hl : lnOk px py = true) (hl2 : lnOk px pz = true) (hxy : x ≠ y) (hxz : x ≠ z) (hyz : y ≠ z) (hp : parOk [a, b, d] = true) :
    swappedStores [.Tuple [.Name x px, .Name y py, .Name z pz] kt pt] (.Tuple [a, b, d] k2 pt2) X.env = pure (some [x, y, z]) := by
  unfold parOk at hp
  simp only [Bool.and_eq_true, Bool.not_eq_true'] at hp
  obtain ⟨⟨h1, h2⟩, h3⟩ := hp
  have hb := block_fun G
  have kx : X.env.kindOf x = some .local := hx
  have ky : X.env.kindOf y = some .local := hy
  have kz : X.env.kindOf z = some .local := hz
  simp only [List.all_cons, List.all_nil, Bool.and_true, Bool.and_eq_true] at h1
  have hl : (py.line == px.line) = true := hl
  have hl2 : (pz.line == px.line) = true := hl2
  have hd : ([x, y, z] : List Str).eraseDups.length = 3 := by
    have e1 : (y == x) = false := by simpa using Ne.symm hxy
    have e2 : (z == x) = false := by simpa using Ne.symm hxz
    have e3 : (z == y) = false := by simpa using Ne.symm hyz
    simp [List.eraseDups_cons, e1, e2, e3]
  unfold swappedStores
  simp only [List.length_cons, List.length_nil, List.any_cons, List.any_nil, hb, List.filterMap_cons, List.filterMap_nil, kx, ky, kz, List.head?_cons, Option.map_some, Option.getD_some, Expr.pos, hl, hl2, h2, h3]
  simp [hd]
  rintro (h | h | h) <;> split at h <;> first
    | cases h1.1
    | cases h1.2.1
    | cases h1.2.2
    | cases h
/-- attributes alone: no names -/
theorem swap_attrs {ts vs : List Expr} {kt : Nat} {pt : Pos} {k2 : Nat} {pt2 : Pos} (h : isAttrs ts = true) (hn : ts ≠ []) : swappedStores [.Tuple ts kt pt] (.Tuple vs k2 pt2) X.env = pure none := by
  have hf : ∀ (f : Expr → Option Str), (∀ o a p, f (.Attribute o a p) = none) → ∀ ts : List Expr, isAttrs ts = true → ts.filterMap f = [] := by
    intro f hf ts
    induction ts with
    | nil => intro _; rfl
    | cons e es ih =>
      intro h
      cases e <;> first
        | (cases h; done)
        | (unfold isAttrs at h
           rw [Bool.and_eq_true] at h
           rw [List.filterMap_cons, hf]
           exact ih h.2)
  unfold swappedStores
  simp only []
  rw [hf _ (fun _ _ _ => rfl) ts h]
  have hl : ts.length ≠ 0 := by simpa using hn
  have : (List.length ([] : List Str) != ts.length) = true := by simpa using Ne.symm hl
  simp only [this, Bool.true_or, if_true]
  split
  · rfl
  · split <;> rfl
theorem ok_attrs (R : EvOk T c N r) (G : GoodS T c N X) : ∀ ts : List Expr, isAttrs ts = true → PGs X ts (TDas X.K X.mg (attrsM T r X.env.scope ts)) ∧ (assignEach ts X.env).length = (attrsM T r X.env.scope ts).length ∧ (assignEach ts X.env).findIdx? (·.1) = none
  | [], _ => ⟨r_asNil, rfl, rfl⟩
  | .Attribute o f p :: es, h => by
    unfold isAttrs at h
    rw [Bool.and_eq_true] at h
    obtain ⟨h1, h2, h3⟩ := ok_attrs R G es h.2
    refine ⟨r_asCons (a := ⟨attrOk T f, f, r.e X.env.scope o⟩) (R.e X G.g o) h1 fun C cc hC hm => G.g.at_ C f cc hC hm, ?_, ?_⟩
    · show (assignEach es X.env).length + 1 = _
      rw [h2]
      rfl
    · show (((false, assign (.Attribute o f p) X.env) :: assignEach es X.env).findIdx? (·.1)) = none
      rw [List.findIdx?_cons, h3]
      rfl
theorem swaps_tup {e : Expr} {l : Nat} {ts : List Expr} {kt : Nat} {pt : Pos} : swapsWithSole [.Tuple ts kt pt] e l X.env = pure false := by
  cases e <;> rfl
theorem swap_plain (G : GoodS T c N X) {ts vs : List Expr} {kt : Nat} {pt : Pos} {k2 : Nat} {pt2 : Pos} (h : swapNo X.env.scope ts vs = true) : swappedStores [.Tuple ts kt pt] (.Tuple vs k2 pt2) X.env = pure none := by
  unfold swapNo at h
  simp only [Bool.or_eq_true, decide_eq_true_eq] at h
  have hf : ∀ (f : Expr → Option Str), (∀ x, f x = swapF X.env.scope ((ts.head?.map (·.pos.line)).getD 0) x) → ts.filterMap f = ts.filterMap (swapF X.env.scope ((ts.head?.map (·.pos.line)).getD 0)) := fun f hf => by rw [funext hf]
  unfold swappedStores
  simp only []
  split
  · rfl
  · split
    · rfl
    · rw [hf _ (fun x => by cases x <;> rfl)]
      rcases h with h | h
      · rw [if_pos (by simp [h])]
      · split
        · rfl
        · first
            | rfl
            | (rw [if_pos h])
            | (simp only [h, if_true])
theorem ok_asgTup' (R : EvOk T c N r) (G : GoodS T c N X) (ts vs : List Expr) (kt : Nat) (pt : Pos) (k2 : Nat) (pt2 pos : Pos) : PS X (.Assign [.Tuple ts kt pt] (.Tuple vs k2 pt2) pos) (TDs X.K X.mg (asgTup' T N r X.env.scope ts vs kt pt k2 pt2)) := by
  unfold asgTup'
  split
  · rename_i h
    split
    · rename_i t ht
      exact r_set (R.e X G.g _) (ok_tg G ht) swaps_tup (swap_plain G h) rfl
    · exact psBad
  · exact psBad
theorem par_plain {vs : List Expr} (hp : parOk vs = true) : vs.all plainE = true := by
  unfold parOk at hp
  simp only [Bool.and_eq_true] at hp
  exact hp.1.1
theorem ok_asgTup (R : EvOk T c N r) (G : GoodS T c N X) (ts vs : List Expr) (kt : Nat) (pt : Pos) (k2 : Nat) (pt2 pos : Pos) : PS X (.Assign [.Tuple ts kt pt] (.Tuple vs k2 pt2) pos) (TDs X.K X.mg (asgTup T N r X.env.scope ts vs kt pt k2 pt2)) := by
  have sl : ∀ {x : Str} {i : Nat}, slot N x = some i → X.N[i]? = some x := fun h => by rw [G.g.eN]; exact slot_get h
  have nd : X.N.Nodup := by rw [G.g.eN]; exact G.g.nd
  have ne : ∀ {x y : Str} {i j : Nat}, slot N x = some i → slot N y = some j → x ≠ y → i ≠ j := fun h1 h2 h e => by
    subst e
    have := (slot_get h1).symm.trans (slot_get h2)
    exact h (Option.some.inj this)
  unfold asgTup
  split
  · split
    · rename_i h
      obtain ⟨hx, hy, hl, hxy, hp⟩ := h
      split
      · rename_i i j hi hj
        exact r_par2 G.g.calm nd (sl hi) (sl hj) (ne hi hj hxy) (locOf hx) (locOf hy) (ok_args R G.g _ (par_plain hp)) (swap_two G (locOf hx) (locOf hy) hl hxy hp)
      · exact psBad
    · exact ok_asgTup' R G _ _ _ _ _ _ _
  · split
    · rename_i h
      obtain ⟨hx, hy, hz, hl, hl2, hxy, hxz, hyz, hp⟩ := h
      split
      · rename_i i j k hi hj hk
        exact r_par3 G.g.calm nd (sl hi) (sl hj) (sl hk) (ne hi hj hxy) (ne hi hk hxz) (ne hj hk hyz) (locOf hx) (locOf hy) (locOf hz) (ok_args R G.g _ (par_plain hp)) (swap_three G (locOf hx) (locOf hy) (locOf hz) hl hl2 hxy hxz hyz hp)
      · exact psBad
    · exact ok_asgTup' R G _ _ _ _ _ _ _
  · split
    · rename_i h
      obtain ⟨ha, hp, hlen, hne⟩ := h
      obtain ⟨h1, h2, h3⟩ := ok_attrs R G _ ha
      exact r_setAs G.g.calm h1 (r_tup (ok_args R G.g _ hp) fun env s ds s' q => by rw [args_len _ _ _ _ _ q]; exact len1000 hlen) (swap_attrs ha hne) h2 h3
    · exact ok_asgTup' R G _ _ _ _ _ _ _
theorem swaps_attr {e o : Expr} {l : Nat} {f : Str} {p : Pos} : swapsWith e (some (.Attribute o f p)) l X.env = pure false := by
  cases e <;> rfl
theorem swapped_name {e : Expr} {x : Str} {p : Pos} : swappedStores [.Name x p] e X.env = pure none := by
  cases e <;> rfl
theorem swapped_sub {e o i : Expr} {p : Pos} : swappedStores [.Subscript o i p] e X.env = pure none := by
  cases e <;> rfl
theorem comp_tg {s : Shared} {H : Hp} {C : Addr} {cl : List (Str × Addr)} {fp : List Addr} {scope : Scope} {tg : Expr} {t : Tg} (G : Good T c N X) (ht : tgE N (isLoc scope) 8 tg = some t) : PG (X.blk s H scope (compEnvC scope cl C X.env) fp) tg (TDg X.K X.mg t) := by
  have hN' : (X.blk s H scope (compEnvC scope cl C X.env) fp).N.Nodup := by
    show X.N.Nodup
    rw [G.eN]
    exact G.nd
  refine r_tg hN' G.calm (ok := isLoc scope) (fun x hx => ?_) 8 tg t (by show tgE X.N (isLoc scope) 8 tg = some t; rw [G.eN]; exact ht)
  unfold isLoc at hx
  simp only [Bool.or_eq_true, decide_eq_true_eq] at hx
  have key : ∀ k, k ≠ .free → scope.names.lookup x = some k → (relS scope X.env.scope).names.lookup x = some k := fun k hk h => lookup_relS_keep hk h
  rcases hx with hx | hx
  · have q := key _ (by decide) hx
    exact ⟨.inl q, .inr q⟩
  · have q := key _ (by decide) hx
    refine ⟨.inr q, .inl ?_⟩
    show (scope.names.lookup x == some NameKind.cell) = true
    rw [hx]
    rfl
/-- x = [ .. for .. ] -/
theorem ok_asgLc (R : EvOk T c N r) (G : GoodS T c N X) {x : Str} {px : Pos} {t : Tg} (ht : tgE N (isLoc X.env.scope) 8 (.Name x px) = some t) (elt tg iter : Expr) (ifs : List Expr) (scope : Scope) (cpos pos : Pos) :
    PS X (.Assign [.Name x px] (.ListComp elt [⟨tg, iter, ifs, 0⟩] scope cpos) pos) (TDs X.K X.mg (setM t (newM (compM T N r X.env.scope elt tg iter ifs scope)))) := by
  obtain ⟨flag, hflag⟩ : ∃ b, (X.env.blockKind == .function && X.env.kindOf x == some .local && px.line == cpos.line && !(scope.names.any fun (n, k) => n == x && (k == .local || k == .cell))) = b := ⟨_, rfl⟩
  have hfl : swapsWith (.ListComp elt [⟨tg, iter, ifs, 0⟩] scope cpos) (some (.Name x px)) pos.line X.env = pure flag := by
    rw [← hflag]
    rfl
  cases flag with
  | false => exact r_set (r_new (ok_comp R G.g elt tg iter ifs scope cpos)) (ok_tg G ht) hfl swapped_name rfl
  | true =>
    have hloc : X.env.scope.names.lookup x = some .local := by
      simp only [Bool.and_eq_true] at hflag
      have := hflag.1.1.2
      exact (by simpa using this : X.env.kindOf x = some .local)
    have hN : X.N.Nodup := by rw [G.g.eN]; exact G.g.nd
    obtain ⟨i, hi, rfl⟩ : ∃ i, slot N x = some i ∧ t = .nm i := by
      unfold tgE at ht
      simp only at ht
      split at ht
      · cases e : slot N x with
        | none => rw [e] at ht; cases ht
        | some i => rw [e] at ht; cases ht; exact ⟨i, rfl, rfl⟩
      · cases ht
    have hi' : X.N[i]? = some x := by rw [G.g.eN]; exact slot_get hi
    unfold compM
    split
    · rename_i t ht
      split
      · rename_i h
        obtain ⟨hb, hs, hn⟩ := h
        refine PSw (ps_setLc (own := ownOf N scope) (g := TDg X.K X.mg t) (tt := TDt X.K X.mg (ifsM r (relS scope X.env.scope) ifs)) (te := TDe X.K X.mg (r.e (relS scope X.env.scope) elt)) G.g.calm hN hi' hloc hfl (ok_iter R G.g tg iter) (by rw [G.g.eN]; exact blkOk_by hb) (fun s H C cl fp => ?_) (fun s H C cl fp => ok_ifs R (G.g.blk ..) ifs) (fun s H C cl fp => R.e _ (G.g.blk ..) elt) (foldedPlain (fun es k p e => by rw [e] at hn; cases hn))) fun Dn σ H h => ?_
        · exact comp_tg G.g ht
        · have h2 := run_setL h
          exact lc_run (fun i hi => by simpa using List.all_eq_true.mp hs i hi) h2
      · exact ⟨fun _ _ _ _ _ _ ⟨_, _, _, _, h⟩ => h.elim⟩
    · exact ⟨fun _ _ _ _ _ _ ⟨_, _, _, _, h⟩ => h.elim⟩
theorem ok_asg (R : EvOk T c N r) (G : GoodS T c N X) (tg e : Expr) (pos : Pos) : PS X (.Assign [tg] e pos) (TDs X.K X.mg (asgM T N r X.env.scope tg e)) := by
  unfold asgM
  split
  · split
    · rename_i t ht
      split
      · exact ok_asgLc R G ht _ _ _ _ _ _ _
      · split
        · rename_i h
          exact r_set (R.e X G.g e) (ok_tg G ht) (Eq.trans rfl (swaps_no (target := some (.Name _ _)) (l := pos.line) h)) swapped_name rfl
        · exact psBad
    · exact psBad
  · split
    · rename_i h
      exact r_setF (R.e X G.g _) (R.e X G.g _) swaps_attr fun C cc hC hm => G.g.at_ C _ cc hC hm
    · exact psBad
  · split
    · rename_i h
      exact r_setI (R.e X G.g _) (R.e X G.g _) (R.e X G.g _) h.1 h.2 swapped_sub
    · exact psBad
  · split
    · exact ok_asgTup R G _ _ _ _ _ _ _
    · rename_i hne
      split
      · rename_i t ht
        refine r_set (R.e X G.g e) (ok_tg G ht) swaps_tup ?_ rfl
        cases e <;> first
          | rfl
          | exact (hne _ _ _ rfl).elim
      · exact psBad
  · exact psBad
theorem ok_evS (R : EvOk T c N r) (G : GoodS T c N X) : ∀ (n : Nat) (s : Stmt), PS X s (TDs X.K X.mg (evS T c N r X.env.scope n s))
  | 0, _ => psBad
  | n + 1, s => by
    have hp : PassesOwn (model X.prog X.w) X.A X.env X.xe := by
      rw [G.xe]
      exact PassesOwn.never
    have ih := ok_evS R G n
    unfold evS
    split
    · split
      · rename_i h; exact r_expr (R.e X G.g _) h
      · exact psBad
    · exact r_ret (R.e X G.g _)
    · exact r_retN
    · exact r_if (R.t X G.g _) (ok_block ih _) (ok_block ih _)
    · split
      · rename_i t ht
        split
        · rename_i h
          exact r_for hp G.g.calm (ok_iter R G.g _ _) (ok_tg G ht) (ok_block ih _) (fun es k p e => by rw [e] at h; cases h)
        · exact psBad
      · exact psBad
    · exact r_while turns hp (R.t X G.g _) (ok_block ih _)
    · exact r_pass
    · exact r_break
    · exact r_continue
    · exact ok_asg R G _ _ _
    · exact psBad
end
end Mini

set_option Elab.async false
set_option linter.all false
set_option maxRecDepth 100000
set_option maxHeartbeats 2000000
/-! Mini, part M: the defs of a text, and what a law must show. -/
namespace Mini
open PySem L2

/-- a def: the module's name for it (or its class's), its own name, its long name, parameters, names, text -/
structure Fn where
  key : Str
  nm : Str
  qual : Str
  ps : List Str
  N : List Str
  st : Stmt
def endR (f : Fl) (s : S) : R D := match f with
  | .nx _ => .ok .non s
  | .rt d => .ok d s
  | _ => .bad
def envOf (n : Nat) (ds : List D) : Env := ds.map some ++ List.replicate (n - ds.length) none
def bodyM (T : Tab) (c : Cl) (F : Fn) : M Fl := blockM (evS T c F.N (ev T c F.N 40) (defScope F.st) 30) (defBody F.st)
def bodyR (T : Tab) (c : Cl) (F : Fn) (ds : List D) (s : S) : R D := (bodyM T c F (envOf F.N.length ds) s).bind endR
def Cl.nil : Cl := ⟨fun _ _ _ => .bad, fun _ _ _ => .bad⟩
def findF (FT : List Fn) (f : Str) : Option Fn := FT.find? fun F => decide (F.key = f)
def runF (T : Tab) (FT : List Fn) (c : Cl) (f : Str) (ds : List D) (s : S) : R D := match findF FT f with
  | some F => bodyR T c F ds s
  | none => .bad
def runs (T : Tab) (FT CT : List Fn) : Nat → Cl
  | 0 => Cl.nil
  | 1 => ⟨runF T FT Cl.nil, fun _ _ _ => .bad⟩
  | k + 2 => ⟨runF T FT (runs T FT CT (k + 1)), runF T CT (runs T FT CT k)⟩
def tabOf (FT CT : List Fn) (cons : List (Str × Int)) (blt : List Str) (attrs : List (Str × Str)) : Tab :=
  ⟨FT.map fun F => (F.key, F.ps.length), CT.map fun F => (F.key, F.ps.length - 1), cons, blt, attrs⟩

/-! ### it is right -/
section
variable (P : Program) (w : World) (K : PySem.W.Frag) (mg : Str → Option Value) (base : Heap)
structure TabOk (T : Tab) : Prop where
  co : ∀ x i, T.cons.lookup x = some i → ∃ t, mg x = some (.int i t)
  bl : ∀ x, T.blt.contains x = true → mg x = none
  at_ : ∀ C f cc, T.attrs.contains (C, f) = true → mg C = some (.ref cc) → Cls K cc ∧ NoAttr K cc f
structure CallAt (k : Nat) (f : Str) (n : Nat) (g : List D → S → R D) : Prop where
  ex : ∃ (a : Addr) (fd : FuncData) (ps : List Str), mg f = some (.ref a) ∧ PySem.W.keepIn K (.ref a) = true ∧ FnOk P w K mg base CX0 k a fd ps (SpD K mg g n) ∧ Binds K fd ps []
structure MakeAt (k : Nat) (C : Str) (n : Nat) (g : List D → S → R D) : Prop where
  ex : ∃ (c a : Addr) (fd : FuncData) (ps : List Str), mg C = some (.ref c) ∧ Mk K c a ∧ FnOk P w K mg base CX0 k a fd ps (SpD K mg g (n + 1)) ∧ Binds K fd ps []
structure ClOk (k : Nat) (T : Tab) (c : Cl) : Prop where
  fn : ∀ f n, T.fns.lookup f = some n → CallAt P w K mg base (k + 1) f n (c.call f)
  mks : ∀ C n, T.mks.lookup C = some n → MakeAt P w K mg base k C n (c.init C)
structure FnIn (F : Fn) : Prop where
  ex : ∃ (a : Addr) (fd : FuncData), mg F.key = some (.ref a) ∧ Fun K F.nm F.qual F.st a fd ∧ Binds K fd F.ps [] ∧ FnScope F.N F.ps (defScope F.st) ∧ ∀ (s : Shared) (us : List Value), us.length = F.ps.length → BindsTo s fd ⟨us, []⟩ (F.ps.zip us)
structure ClsIn (F : Fn) : Prop where
  ex : ∃ (c a : Addr) (fd : FuncData), mg F.key = some (.ref c) ∧ Mk K c a ∧ Fun K F.nm F.qual F.st a fd ∧ Binds K fd F.ps [] ∧ FnScope F.N F.ps (defScope F.st) ∧ 0 < F.ps.length
end
section
variable {P : Program} {w : World} {K : PySem.W.Frag} {mg : Str → Option Value} {base : Heap} {T : Tab}
theorem start_rep {μ : List Addr} {H : Hp} {N : List Str} {ds : List D} {vs : List V} (r : RepL K mg μ H ds vs) : EnvRep K mg μ H (envOf N.length ds) (L2.start N vs) := by
  have hl := r.length
  unfold envOf L2.start
  refine ⟨by simp [hl], fun i d h => ?_⟩
  by_cases hi : i < ds.length
  · rw [List.getElem?_append_left (by simpa using hi), List.getElem?_map] at h
    cases e : ds[i]? with
    | none => rw [e] at h; cases h
    | some d' =>
      rw [e] at h
      cases h
      obtain ⟨v, h1, h2⟩ := r.get e
      exact ⟨v, by rw [List.getElem?_append_left (by rw [List.length_map, ← hl]; exact hi), List.getElem?_map, h1]; rfl, h2⟩
  · rw [List.getElem?_append_right (by simpa using hi)] at h
    rw [List.getElem?_replicate] at h
    split at h <;> cases h
theorem spd_len {g : List D → S → R D} {n : Nat} : ∀ vs H Q E, SpD K mg g n vs H Q E → vs.length = n := fun _ _ _ _ ⟨_, _, _, _, _, h, _⟩ => h
/-- a def's promise from that of what it calls -/
theorem fn_ok {k : Nat} {c : Cl} {F : Fn} {a : Addr} {fd : FuncData} (TO : TabOk K mg T) (C : ClOk P w K mg base k T c) (hF : Fun K F.nm F.qual F.st a fd) (S : FnScope F.N F.ps (defScope F.st)) :
    FnOk P w K mg base CX0 (k + 2) a fd F.ps (SpD K mg (bodyR T c F) F.ps.length) := by
  refine hF.ok S spd_len fun cdv A outer s H vs Q E hr h => ?_
  obtain ⟨μ, ds, st, M, rl, hn, h⟩ := h
  refine ⟨_, ok_block (ok_evS (T := T) (c := c) (N := F.N) (ev_ok 40) ⟨⟨rfl, S.nd, rfl, ?_, fun f n hf => ?_, fun C' n hC => ?_, TO.co, TO.bl, TO.at_⟩, fun _ => rfl, rfl, S.kind⟩ 30) _, ?_⟩
  · exact Nat.lt_of_le_of_lt (Nat.le_trans (Nat.add_le_add_left (by decide : 65 ≤ 200) _) (Nat.add_le_add_right (Nat.le_add_right _ _) 200)) hr.un
  · obtain ⟨a', fd', ps', h1, h2, h3, h4⟩ := (C.fn f n hf).ex
    exact ⟨a', fd', ps', k + 1, h1, h2, h3, hr, h4⟩
  · obtain ⟨c', a', fd', ps', h1, h2, h3, h4⟩ := (C.mks C' n hC).ex
    exact ⟨c', a', fd', ps', k, h1, h2, h3, hr, h4⟩
  · refine ⟨μ, envOf F.N.length ds, st, ⟨start_rep rl, M⟩, ?_⟩
    have h : Ok K mg (Rep K mg) μ H ((bodyM T c F (envOf F.N.length ds) st).bind endR) Q := h
    obtain ⟨f, s1, e1, h⟩ := Ok.bind h
    have e1 : blockM (evS T c F.N (ev T c F.N 40) (defScope F.st) 30) (defBody F.st) (envOf F.N.length ds) st = .ok f s1 := e1
    show OkS K mg _ μ H (blockM (evS T c F.N (ev T c F.N 40) (defScope F.st) 30) (defBody F.st) (envOf F.N.length ds) st)
    rw [e1]
    intro μ1 H1 E1 M1
    cases f with
    | nx env => exact fun σ er => h μ1 H1 .non E1 M1 .non
    | rt d => exact fun v rv => h μ1 H1 v E1 M1 rv
    | bk env => exact (h : False).elim
    | ct env => exact (h : False).elim
theorem sp_bad {k : Nat} {a : Addr} {fd : FuncData} {ps : List Str} {n : Nat} (hn : n = ps.length) : FnOk P w K mg base CX0 k a fd ps (SpD K mg (fun _ _ => .bad) n) :=
  ⟨fun vs H Q E h => (spd_len vs H Q E h).trans hn, fun A outer s H args us vs Q E hr he hb hv ⟨_, _, _, _, _, _, h⟩ => h.elim⟩
theorem find_lookup {α : Type} {g : Fn → α} : ∀ {FT : List Fn} {f : Str} {n : α}, (FT.map fun F => (F.key, g F)).lookup f = some n → ∃ F, F ∈ FT ∧ findF FT f = some F ∧ F.key = f ∧ g F = n
  | [], f, n, h => by cases h
  | F :: FT, f, n, h => by
    rw [List.map_cons, List.lookup_cons] at h
    unfold findF
    rw [List.find?_cons]
    by_cases e : F.key = f
    · have e2 : (f == F.key) = true := by simpa using e.symm
      rw [e2] at h
      cases h
      refine ⟨F, List.mem_cons_self, ?_, e, rfl⟩
      rw [decide_eq_true e]
    · have e2 : (f == F.key) = false := by simpa using Ne.symm e
      rw [e2] at h
      obtain ⟨G, h1, h2, h3, h4⟩ := find_lookup h
      refine ⟨G, List.mem_cons_of_mem _ h1, ?_, h3, h4⟩
      rw [decide_eq_false e]
      exact h2
variable {FT CT : List Fn} {cons : List (Str × Int)} {blt : List Str} {attrs : List (Str × Str)}
/-- every def keeps what the evaluator says -/
theorem runs_ok (TO : TabOk K mg (tabOf FT CT cons blt attrs)) (hF : ∀ F ∈ FT, FnIn K mg F) (hC : ∀ F ∈ CT, ClsIn K mg F) : ∀ k, ClOk P w K mg base k (tabOf FT CT cons blt attrs) (runs (tabOf FT CT cons blt attrs) FT CT k) := by
  have call : ∀ (k : Nat) (c : Cl), ClOk P w K mg base k (tabOf FT CT cons blt attrs) c → ∀ f n, (tabOf FT CT cons blt attrs).fns.lookup f = some n → CallAt P w K mg base (k + 2) f n (runF (tabOf FT CT cons blt attrs) FT c f) := by
    intro k c C f n h
    obtain ⟨F, hm, hf, rfl, rfl⟩ := find_lookup h
    obtain ⟨a, fd, h1, h2, h3, h4, _⟩ := (hF F hm).ex
    refine ⟨a, fd, F.ps, h1, h2.kp, ?_, h3⟩
    have : runF (tabOf FT CT cons blt attrs) FT c F.key = bodyR (tabOf FT CT cons blt attrs) c F := by
      funext ds s
      unfold runF
      rw [hf]
    rw [this]
    exact fn_ok TO C h2 h4
  have init : ∀ (k : Nat) (c : Cl), ClOk P w K mg base k (tabOf FT CT cons blt attrs) c → ∀ f n, (tabOf FT CT cons blt attrs).mks.lookup f = some n → MakeAt P w K mg base (k + 2) f n (runF (tabOf FT CT cons blt attrs) CT c f) := by
    intro k c C f n h
    obtain ⟨F, hm, hf, rfl, rfl⟩ := find_lookup h
    obtain ⟨c', a, fd, h0, h1, h2, h3, h4, h5⟩ := (hC F hm).ex
    refine ⟨c', a, fd, F.ps, h0, h1, ?_, h3⟩
    have : runF (tabOf FT CT cons blt attrs) CT c F.key = bodyR (tabOf FT CT cons blt attrs) c F := by
      funext ds s
      unfold runF
      rw [hf]
    rw [this, Nat.sub_add_cancel h5]
    exact fn_ok TO C h2 h4
  have badC : ∀ (k f n), (tabOf FT CT cons blt attrs).fns.lookup f = some n → CallAt P w K mg base k f n (fun _ _ => .bad) := by
    intro k f n h
    obtain ⟨F, hm, hf, rfl, rfl⟩ := find_lookup h
    obtain ⟨a, fd, h1, h2, h3, h4, _⟩ := (hF F hm).ex
    exact ⟨a, fd, F.ps, h1, h2.kp, sp_bad rfl, h3⟩
  have badI : ∀ (k f n), (tabOf FT CT cons blt attrs).mks.lookup f = some n → MakeAt P w K mg base k f n (fun _ _ => .bad) := by
    intro k f n h
    obtain ⟨F, hm, hf, rfl, rfl⟩ := find_lookup h
    obtain ⟨c', a, fd, h0, h1, h2, h3, h4, h5⟩ := (hC F hm).ex
    exact ⟨c', a, fd, F.ps, h0, h1, sp_bad (Nat.sub_add_cancel h5), h3⟩
  have zero : ClOk P w K mg base 0 (tabOf FT CT cons blt attrs) Cl.nil := ⟨fun f n h => badC _ f n h, fun f n h => badI _ f n h⟩
  have all : ∀ k, ClOk P w K mg base k (tabOf FT CT cons blt attrs) (runs (tabOf FT CT cons blt attrs) FT CT k) ∧ ClOk P w K mg base (k + 1) (tabOf FT CT cons blt attrs) (runs (tabOf FT CT cons blt attrs) FT CT (k + 1)) := by
    intro k
    induction k with
    | zero => exact ⟨zero, fun f n h => call 0 _ zero f n h, fun f n h => badI _ f n h⟩
    | succ k ih => exact ⟨ih.2, fun f n h => call (k + 1) _ ih.2 f n h, fun f n h => init k _ ih.1 f n h⟩
  exact fun k => (all k).1
end
end Mini

set_option Elab.async false
set_option linter.all false
set_option maxRecDepth 100000
set_option maxHeartbeats 2000000
/-! Mini, part N: from a law that the evaluator finds true to the statement's walk. -/
namespace Mini
open PySem L2

section
variable {P : Program} {w : World} {K : PySem.W.Frag} {mg : Str → Option Value} {base h : Heap}
/-- one def of the module, from what is written -/
theorem fnIn_mk {key nm qual : Str} {ps N : List Str} {st : Stmt} {f : Addr} {od an : Option Addr} {sl : Array (Option Value)} {oc kV dc pm cd ct : Value} (X : K.In h) (G : h.Ns mainGlobals mg)
    (a : PySem.W.nsIn K mainGlobals key = some (some (.ref f))) (l : K.lookup f = some ⟨oc, od, .func (PySem.W.fnOf nm qual (defArgs st) (defBody st) (defScope st) .none kV dc pm an cd ct), sl⟩)
    (c : PySem.W.codeIn K cd qual = true) (k : PySem.W.keepIn K (.ref f) = true)
    (b : ∀ (kV doc pm : Value) (an : Option Addr) (cdv ct : Value) (us : List Value), us.length = ps.length → bindArgs (PySem.W.fnOf nm qual (defArgs st) (defBody st) (defScope st) .none kV doc pm an cdv ct) ⟨us, []⟩ = pure (ps.zip us))
    (S : FnScope N ps (defScope st)) : FnIn K mg ⟨key, nm, qual, ps, N, st⟩ :=
  have F := fun_mk (st := st) l c k
  ⟨f, _, PySem.W.mg_of X G a, F, F.binds b, S, fun s us hl => .of_eq (b _ _ _ _ _ _ us hl)⟩
/-- the __init__ of a class of the module -/
theorem clsIn_mk {key nm qual : Str} {ps N : List Str} {st : Stmt} {C f : Addr} {od an : Option Addr} {sl : Array (Option Value)} {oc kV dc pm cd ct : Value} (X : K.In h) (G : h.Ns mainGlobals mg)
    (aC : PySem.W.nsIn K mainGlobals key = some (some (.ref C))) (a : PySem.W.findIn K (.ref C) "__init__" = some (some (.ref f))) (i : PySem.W.isFn K (.ref f) = true)
    (l : K.lookup f = some ⟨oc, od, .func (PySem.W.fnOf nm qual (defArgs st) (defBody st) (defScope st) .none kV dc pm an cd ct), sl⟩)
    (c : PySem.W.codeIn K cd qual = true) (k : PySem.W.keepIn K (.ref f) = true) (mk : PySem.W.makesIn K C = true) (kc : PySem.W.keepIn K (.ref C) = true)
    (b : ∀ (kV doc pm : Value) (an : Option Addr) (cdv ct : Value) (us : List Value), us.length = ps.length → bindArgs (PySem.W.fnOf nm qual (defArgs st) (defBody st) (defScope st) .none kV doc pm an cdv ct) ⟨us, []⟩ = pure (ps.zip us))
    (S : FnScope N ps (defScope st)) (hp : 0 < ps.length) : ClsIn K mg ⟨key, nm, qual, ps, N, st⟩ :=
  have F := fun_mk (st := st) l c k
  ⟨C, f, _, PySem.W.mg_of X G aC, ⟨mk, a, i, kc⟩, F, F.binds b, S, hp⟩
/-- a class whose attributes are plain -/
theorem cls_mk {C : Addr} (pg : PySem.W.plainGet K C Str.empty = true) (hd : PySem.W.hasDictIn K C = true) (po : PySem.W.plainOver K C = true) (sa : PySem.W.findIn K (.ref C) "__setattr__" = some (some (.builtin "object.__setattr__"))) : Cls K C := ⟨pg, hd, po, sa⟩
/-- a class of the module and the attributes that its instances have -/
structure AttrIn (K : PySem.W.Frag) (mg : Str → Option Value) (C : Str) (fs : List Str) : Prop where
  ex : ∃ c, mg C = some (.ref c) ∧ Cls K c ∧ ∀ f ∈ fs, NoAttr K c f
theorem attrIn_mk {C : Str} {fs : List Str} {c : Addr} (X : K.In h) (G : h.Ns mainGlobals mg) (a : PySem.W.nsIn K mainGlobals C = some (some (.ref c)))
    (pg : PySem.W.plainGet K c Str.empty = true) (hd : PySem.W.hasDictIn K c = true) (po : PySem.W.plainOver K c = true) (sa : PySem.W.findIn K (.ref c) "__setattr__" = some (some (.builtin "object.__setattr__")))
    (n : ∀ f ∈ fs, PySem.W.findIn K (.ref c) f = some none) : AttrIn K mg C fs := ⟨c, PySem.W.mg_of X G a, cls_mk pg hd po sa, n⟩
theorem con_mk {x : Str} {i : Int} {t : Tok} (X : K.In h) (G : h.Ns mainGlobals mg) (a : PySem.W.nsIn K mainGlobals x = some (some (.int i t))) : ∃ t, mg x = some (.int i t) := ⟨t, PySem.W.mg_of X G a⟩
theorem none_mk {x : Str} (X : K.In h) (G : h.Ns mainGlobals mg) (a : PySem.W.nsIn K mainGlobals x = some none) : mg x = none := PySem.W.mg_none_of X G a
theorem use {p q : Prop} (a : p) (b : p → q) : q := b a
theorem all_nil {α : Type} {p : α → Prop} : ∀ x ∈ ([] : List α), p x := fun _ h => (nomatch h)
theorem all_cons {α : Type} {p : α → Prop} {a : α} {l : List α} (h : p a) (r : ∀ x ∈ l, p x) : ∀ x ∈ a :: l, p x := fun x hx => by
  rcases List.mem_cons.mp hx with e | e
  · rw [e]
    exact h
  · exact r x e
def attrsOf (cs : List (Str × List Str)) : List (Str × Str) := cs.flatMap fun c => c.2.map fun f => (c.1, f)
theorem lookup_mem {β : Type} {x : Str} {i : β} : ∀ {l : List (Str × β)}, l.lookup x = some i → (x, i) ∈ l
  | [], h => by cases h
  | p :: l, h => by
    rw [List.lookup_cons] at h
    split at h
    · rename_i e
      cases h
      have : x = p.1 := by simpa using e
      rw [this]
      exact List.mem_cons_self
    · exact List.mem_cons_of_mem _ (lookup_mem h)
theorem tab_mk {FT CT : List Fn} {cons : List (Str × Int)} {blt : List Str} {cs : List (Str × List Str)} (hc : ∀ p ∈ cons, ∃ t, mg p.1 = some (.int p.2 t)) (hb : ∀ x ∈ blt, mg x = none) (ha : ∀ p ∈ cs, AttrIn K mg p.1 p.2) :
    TabOk K mg (tabOf FT CT cons blt (attrsOf cs)) := by
  refine ⟨fun x i h => ?_, fun x h => hb x (by have h : blt.contains x = true := h; simpa using h), fun C f cc h hm => ?_⟩
  · have : (x, i) ∈ cons := lookup_mem (show cons.lookup x = some i from h)
    exact hc (x, i) this
  · have h : (C, f) ∈ attrsOf cs := by simpa [tabOf] using h
    unfold attrsOf at h
    rw [List.mem_flatMap] at h
    obtain ⟨p, hp, h⟩ := h
    rw [List.mem_map] at h
    obtain ⟨g, hg, e⟩ := h
    cases e
    obtain ⟨c, h1, h2, h3⟩ := (ha p hp).ex
    rw [h1] at hm
    cases hm
    exact ⟨h2, h3 _ hg⟩

/-! ### the law -/
def spLaw (K : PySem.W.Frag) : Sp := fun vs H Q _ => ∃ (a : Addr) (ns : List Int), vs = [.ref a] ∧ SqL K H a (ns.map V.int) ∧ Only H ∧ ns.length ≤ 63 ∧ ∀ H', Q (.bl true) H'
theorem scr_of {K : PySem.W.Frag} {H : Hp} {a : Addr} {xs : List V} (h : SqL K H a xs) (o : Only H) : Scr K H a xs := by
  rcases h with h | h
  · left
    rcases o a with e | ⟨ob, ys, e⟩
    · rcases h with h | ⟨o2, h⟩
      · rw [e] at h; cases h
      · rw [e] at h; cases h
    · rcases h with h | ⟨o2, h⟩
      · rw [e] at h; cases h
      · exact ⟨o2, h⟩
  · exact .inr h
theorem law_sp {k : Nat} {a : Addr} {fd : FuncData} {ps : List Str} {g : List D → S → R D} (F : FnOk P w K mg base CX0 k a fd ps (SpD K mg g 1)) (h : ∀ ns : List Int, ns.length ≤ 63 → ∃ s, g [.scr ns] [] = .ok (.bl true) s) : FnOk P w K mg base CX0 k a fd ps (spLaw K) :=
  F.imp fun vs H Q E ⟨b, ns, e, hs, ho, hn, q⟩ => by
    subst e
    obtain ⟨s, hg⟩ := h ns hn
    refine ⟨[], [.scr ns], [], ⟨rfl, List.nodup_nil, fun n a o h1 h2 => by cases h1⟩, .cons (.scr (scr_of hs ho)) .nil, rfl, ?_⟩
    rw [hg]
    exact fun μ' H' v E M r => by
      cases r
      exact q H'
end
theorem walk {l : PySem.W.OpenLaw} {q : Program} {loose : List Str} {XP : (Str → Option Value) → Heap → Prop} {YP : World → Heap → Prop} {d : DefRec} {K : Params → PySem.W.Frag} (hn : l.most = some 63) (hdf : d.params.defaults = [])
    (hY : ∀ (w : World) (h : Heap), YP w h → (K w.params).In h)
    (F : ∀ (w : World) (mg : Str → Option Value) (fa : Addr) (h : Heap), (K w.params).In h → h.Ns mainGlobals mg → mg d.name = some (.ref fa) →
      ∃ fd : FuncData, (∀ (s : Shared) (u : Value), BindsTo s fd ⟨[u], []⟩ [("script", u)]) ∧ ∀ base : Heap, (K w.params).In base → base.Ns mainGlobals mg → FnOk l.prog w (K w.params) mg base CX0 200 fa fd ["script"] (spLaw (K w.params))) :
    PySem.W.WalkO q loose XP YP l.row.toRowW d [] (fun f vs => PySem.call f vs) :=
  L2.walk_of (n := 63) (k := 200) (x := "script") (CX := fun _ => CX0) (sp := fun w => spLaw (K w.params)) hn (by decide) hdf ⟨rfl, by decide, by decide⟩ hY F (fun _ H a ns hl ho hS => ⟨a, ns, rfl, hS, ho, hl, fun _ => rfl⟩) fun _ _ _ _ _ z => z
/-- the law's def from the table -/
theorem law_fn {P : Program} {w : World} {K : PySem.W.Frag} {mg : Str → Option Value} {FT CT : List Fn} {cons : List (Str × Int)} {blt : List Str} {cs : List (Str × List Str)} {F : Fn} {fa : Addr}
    (TO : TabOk K mg (tabOf FT CT cons blt (attrsOf cs))) (hF : ∀ F ∈ FT, FnIn K mg F) (hC : ∀ F ∈ CT, ClsIn K mg F) (hl : F ∈ FT) (hfa : mg F.key = some (.ref fa)) (hps : F.ps = (["script"] : List Str))
    (h : ∀ ns : List Int, ns.length ≤ 63 → ∃ s, bodyR (tabOf FT CT cons blt (attrsOf cs)) (runs (tabOf FT CT cons blt (attrsOf cs)) FT CT 198) F [.scr ns] [] = .ok (.bl true) s) :
    ∃ fd : FuncData, (∀ (s : Shared) (u : Value), BindsTo s fd ⟨[u], []⟩ [("script", u)]) ∧ ∀ base : Heap, K.In base → base.Ns mainGlobals mg → FnOk P w K mg base CX0 200 fa fd ["script"] (spLaw K) := by
  obtain ⟨a, fd, h1, h2, h3, h4, h5⟩ := (hF F hl).ex
  rw [hfa] at h1
  cases h1
  refine ⟨fd, fun s u => ?_, fun base hb hn => ?_⟩
  · have := h5 s [u] (by rw [hps]; rfl)
    rw [hps] at this
    exact this
  · have := fn_ok (P := P) (w := w) (base := base) TO (runs_ok (P := P) (w := w) (base := base) TO hF hC 198) h2 h4
    rw [hps] at this
    exact law_sp this h
end Mini

set_option Elab.async false
set_option linter.all false
set_option maxRecDepth 100000
set_option maxHeartbeats 1000000
/-! Mini, part W: what a piece comes to, in plain Lean. -/
namespace Mini
open PySem L2

def W {α : Type} (r : R α) (Q : α → S → Prop) : Prop := ∃ a s, r = .ok a s ∧ Q a s
section
variable {α β γ : Type} {env : Env} {s : S}
theorem W_ok {a : α} {Q : α → S → Prop} : W (.ok a s) Q ↔ Q a s := ⟨fun ⟨_, _, e, q⟩ => by cases e; exact q, fun q => ⟨a, s, rfl, q⟩⟩
theorem W_bad {Q : α → S → Prop} : W .bad Q ↔ False := ⟨fun ⟨_, _, e, _⟩ => (nomatch e), False.elim⟩
theorem W_bind {r : R α} {k : α → S → R β} {Q : β → S → Prop} : W (r.bind k) Q ↔ W r fun a s => W (k a s) Q := by
  cases r with
  | ok a s => exact ⟨fun h => W_ok.mpr h, fun h => W_ok.mp h⟩
  | bad => exact ⟨fun h => (W_bad.mp h).elim, fun h => (W_bad.mp h).elim⟩
theorem W.mono {r : R α} {Q Q' : α → S → Prop} (h : W r Q) (q : ∀ a s, Q a s → Q' a s) : W r Q' := let ⟨a, s, e, h⟩ := h; ⟨a, s, e, q a s h⟩
theorem W_if {c : Prop} [Decidable c] {a b : R α} {Q : α → S → Prop} : W (if c then a else b) Q ↔ if c then W a Q else W b Q := by
  split <;> exact Iff.rfl
theorem W_eq {r : R α} {a : α} {s' : S} (h : W r fun b t => b = a ∧ t = s') : r = .ok a s' := by
  obtain ⟨b, t, e, rfl, rfl⟩ := h
  exact e
theorem W_of_eq {r : R α} {a : α} {s' : S} {Q : α → S → Prop} (e : r = .ok a s') (q : Q a s') : W r Q := ⟨a, s', e, q⟩
/-! the pieces -/
theorem W_const {d : D} {Q : D → S → Prop} : W (constM d env s) Q ↔ Q d s := W_ok
def atE (env : Env) (i : Nat) : Option D := (env[i]?).getD none
theorem W_var {i : Nat} {Q : D → S → Prop} : W (varM i env s) Q ↔ match (env[i]?).getD none with
    | some d => Q d s
    | none => False := by
  unfold varM
  cases h : env[i]? with
  | none => simpa using W_bad
  | some o =>
    cases o with
    | none => simpa using W_bad
    | some d => simpa using W_ok
theorem W_m1 {a : M α} {f : α → S → R β} {Q : β → S → Prop} : W (m1 a f env s) Q ↔ W (a env s) fun x s => W (f x s) Q := W_bind
theorem W_m2 {a : M α} {b : M β} {f : α → β → S → R γ} {Q : γ → S → Prop} : W (m2 a b f env s) Q ↔ W (a env s) fun x s => W (b env s) fun y s => W (f x y s) Q := by
  unfold m2
  simp only [W_bind]
theorem W_m3 {δ : Type} {a : M α} {b : M β} {c : M γ} {f : α → β → γ → S → R δ} {Q : δ → S → Prop} : W (m3 a b c f env s) Q ↔ W (a env s) fun x s => W (b env s) fun y s => W (c env s) fun z s => W (f x y z s) Q := by
  unfold m3
  simp only [W_bind]
theorem W_nil {Q : List D → S → Prop} : W (nilM env s) Q ↔ Q [] s := W_ok
theorem W_cons {a : M D} {as : M (List D)} {Q : List D → S → Prop} : W (consM a as env s) Q ↔ W (a env s) fun d s => W (as env s) fun ds s => Q (d :: ds) s := by
  unfold consM
  simp only [W_m2, W_ok]
theorem W_tup {as : M (List D)} {Q : D → S → Prop} : W (tupM as env s) Q ↔ W (as env s) fun ds s => Q (.tup ds) s := by
  unfold tupM
  simp only [W_m1, W_ok]
theorem W_new {l : M (List D)} {Q : D → S → Prop} : W (newM l env s) Q ↔ W (l env s) fun ds s => Q (.ref s.length) (s ++ [.lst ds]) := by
  unfold newM
  simp only [W_m1, W_ok]
theorem W_asB {a : M D} {Q : Bool → S → Prop} : W (asB a env s) Q ↔ W (a env s) fun d s => W (boolD d s) Q := W_m1
theorem W_boolD {b : Bool} {Q : Bool → S → Prop} : W (boolD (.bl b) s) Q ↔ Q b s := W_ok
theorem W_ofB {a : M Bool} {Q : D → S → Prop} : W (ofB a env s) Q ↔ W (a env s) fun b s => Q (.bl b) s := by
  unfold ofB okB
  simp only [W_m1, W_ok]
theorem W_ite {c : M Bool} {a b : M α} {Q : α → S → Prop} : W (iteM c a b env s) Q ↔ W (c env s) fun k s => if k = true then W (a env s) Q else W (b env s) Q := by
  unfold iteM
  simp only [W_bind, W_if]
theorem W_not {c : M Bool} {Q : Bool → S → Prop} : W (notM c env s) Q ↔ W (c env s) fun k s => Q (!k) s := by
  unfold notM
  simp only [W_m1, W_ok]
theorem W_and {a b : M Bool} {Q : Bool → S → Prop} : W (andM a b env s) Q ↔ W (a env s) fun k s => if k = true then W (b env s) Q else Q false s := by
  unfold andM
  simp only [W_bind, W_if, W_ok]
theorem W_or {a b : M Bool} {Q : Bool → S → Prop} : W (orM a b env s) Q ↔ W (a env s) fun k s => if k = true then Q true s else W (b env s) Q := by
  unfold orM
  simp only [W_bind, W_if, W_ok]
theorem W_chain {f g : D → D → S → R D} {a b c : M D} {Q : D → S → Prop} : W (chainM f g a b c env s) Q ↔ W (a env s) fun x s => W (b env s) fun y s => W (f x y s) fun z s => W (boolD z s) fun k s => if k = true then W (c env s) fun w s => W (g y w s) Q else Q (.bl false) s := by
  unfold chainM
  simp only [W_bind, W_if, W_ok]
theorem W_seqM {a : M D} {Q : List D → S → Prop} : W (seqM a env s) Q ↔ W (a env s) fun d s => W (seqD d s) Q := W_m1
theorem W_oNone {Q : Option Int → S → Prop} : W (oNone env s) Q ↔ Q none s := W_ok
theorem W_oSome {a : M D} {Q : Option Int → S → Prop} : W (oSome a env s) Q ↔ W (a env s) fun d s => match d with
    | .int i => Q (some i) s
    | _ => False := by
  unfold oSome
  rw [W_m1]
  have : ∀ (d : D) (s : S), W (match d with
    | .int i => R.ok (some i) s
    | _ => .bad) Q ↔ match d with
    | .int i => Q (some i) s
    | _ => False := fun d s => by cases d <;> first | exact W_ok | exact W_bad
  exact ⟨fun h => h.mono fun a s q => (this a s).mp q, fun h => h.mono fun a s q => (this a s).mpr q⟩
theorem W_call {n : Nat} {g : List D → S → R D} {ds : List D} {Q : D → S → Prop} (h : ds.length = n) : W (callD n g ds s) Q ↔ W (g ds s) Q := by
  unfold callD
  rw [if_pos h]
/-! statements -/
theorem W_skip {Q : Fl → S → Prop} : W (skipM env s) Q ↔ Q (.nx env) s := W_ok
theorem W_brk {Q : Fl → S → Prop} : W (brkM env s) Q ↔ Q (.bk env) s := W_ok
theorem W_cnt {Q : Fl → S → Prop} : W (cntM env s) Q ↔ Q (.ct env) s := W_ok
theorem W_badF {Q : Fl → S → Prop} : W (badF env s) Q ↔ False := W_bad
theorem W_seq {a b : M Fl} {Q : Fl → S → Prop} : W (seqS a b env s) Q ↔ W (a env s) fun f s => match f with
    | .nx e => W (b e s) Q
    | f => Q f s := by
  unfold seqS
  rw [W_bind]
  have : ∀ (f : Fl) (s : S), W (match f with
    | .nx e => b e s
    | f => R.ok f s) Q ↔ match f with
    | .nx e => W (b e s) Q
    | f => Q f s := fun f s => by cases f <;> first | exact Iff.rfl | exact W_ok
  exact ⟨fun h => h.mono fun a s q => (this a s).mp q, fun h => h.mono fun a s q => (this a s).mpr q⟩
theorem W_drop {a : M α} {Q : Fl → S → Prop} : W (dropM a env s) Q ↔ W (a env s) fun _ s => Q (.nx env) s := by
  unfold dropM
  simp only [W_bind, W_ok]
theorem W_ret {a : M D} {Q : Fl → S → Prop} : W (retM a env s) Q ↔ W (a env s) fun d s => Q (.rt d) s := by
  unfold retM
  simp only [W_m1, W_ok]
theorem W_set {t : Tg} {a : M D} {Q : Fl → S → Prop} : W (setM t a env s) Q ↔ W (a env s) fun d s => match t.set d env with
    | some e => Q (.nx e) s
    | none => False := by
  unfold setM
  rw [W_bind]
  have : ∀ (d : D) (s : S), W (match t.set d env with
    | some e => R.ok (.nx e) s
    | none => .bad) Q ↔ match t.set d env with
    | some e => Q (.nx e) s
    | none => False := fun d s => by cases t.set d env <;> first | exact W_ok | exact W_bad
  exact ⟨fun h => h.mono fun a s q => (this a s).mp q, fun h => h.mono fun a s q => (this a s).mpr q⟩
theorem W_setN {i : Nat} {a : M D} {Q : Fl → S → Prop} : W (setM (.nm i) a env s) Q ↔ W (a env s) fun d s => Q (.nx (env.set i (some d))) s := W_set
theorem W_par {is : List Nat} {as : M (List D)} {Q : Fl → S → Prop} : W (parM is as env s) Q ↔ W (as env s) fun ds s => match parGo is ds env with
    | some e => Q (.nx e) s
    | none => False := by
  unfold parM
  rw [W_bind]
  have : ∀ (ds : List D) (s : S), W (match parGo is ds env with
    | some e => R.ok (.nx e) s
    | none => .bad) Q ↔ match parGo is ds env with
    | some e => Q (.nx e) s
    | none => False := fun d s => by cases parGo is d env <;> first | exact W_ok | exact W_bad
  exact ⟨fun h => h.mono fun a s q => (this a s).mp q, fun h => h.mono fun a s q => (this a s).mpr q⟩
theorem W_setI {v o i : M D} {Q : Fl → S → Prop} : W (setIM v o i env s) Q ↔ W (v env s) fun d s => W (o env s) fun x s => W (i env s) fun k s => W (setID d x k s) fun _ s => Q (.nx env) s := by
  unfold setIM
  simp only [W_bind, W_ok]
theorem W_setF {ok : Str → Bool} {f : Str} {v o : M D} {Q : Fl → S → Prop} : W (setFM ok f v o env s) Q ↔ W (v env s) fun d s => W (o env s) fun x s => W (setFD ok f d x s) fun _ s => Q (.nx env) s := by
  unfold setFM
  simp only [W_bind, W_ok]
theorem W_setAs {as : List AttrT} {v : M (List D)} {Q : Fl → S → Prop} : W (setAs as v env s) Q ↔ W (v env s) fun ds s => W (attrsGo as ds env s) fun _ s => Q (.nx env) s := by
  unfold setAs
  simp only [W_bind, W_ok]
theorem W_meth {o : M D} {as : M (List D)} {f : D → List D → S → R D} {Q : D → S → Prop} : W (methM o as f env s) Q ↔ W (o env s) fun x s => isLst x s = true ∧ W (as env s) fun ds s => W (f x ds s) Q := by
  unfold methM
  rw [W_bind]
  have : ∀ (x : D) (s : S), W (if isLst x s = true then (as env s).bind fun ds s2 => f x ds s2 else .bad) Q ↔ (isLst x s = true ∧ W (as env s) fun ds s => W (f x ds s) Q) := fun x s => by
    by_cases h : isLst x s = true
    · rw [if_pos h, W_bind]
      exact ⟨fun q => ⟨h, q⟩, fun q => q.2⟩
    · rw [if_neg h]
      exact ⟨fun q => (W_bad.mp q).elim, fun q => (h q.1).elim⟩
  exact ⟨fun h => h.mono fun a s q => (this a s).mp q, fun h => h.mono fun a s q => (this a s).mpr q⟩
theorem W_for {it : M Its} {t : Tg} {body : M Fl} {Q : Fl → S → Prop} : W (forM' it t body env s) Q ↔ W (it env s) fun a s => W (forGo t body a.w a.ds env s) Q := W_bind
theorem W_endR {r : R Fl} {Q : D → S → Prop} : W (r.bind endR) Q ↔ W r fun f s => match f with
    | .nx _ => Q .non s
    | .rt d => Q d s
    | _ => False := by
  rw [W_bind]
  have : ∀ (f : Fl) (s : S), W (endR f s) Q ↔ match f with
    | .nx _ => Q .non s
    | .rt d => Q d s
    | _ => False := fun f s => by cases f <;> first | exact W_ok | exact W_bad
  exact ⟨fun h => h.mono fun a s q => (this a s).mp q, fun h => h.mono fun a s q => (this a s).mpr q⟩
/-- a loop over items, by what holds with the rest still to be done -/
theorem W_go {t : Tg} {body : M Fl} {w : List (Nat × List D)} {Q : Fl → S → Prop} (I : List D → Env → S → Prop) (hend : ∀ env s, I [] env s → Q (.nx env) s)
    (step : ∀ d rest env s, I (d :: rest) env s → ∃ e1, t.set d env = some e1 ∧ W (body e1 s) fun f s1 => match f with
      | .nx e => watch w s1 = true ∧ I rest e s1
      | .ct e => watch w s1 = true ∧ I rest e s1
      | .bk e => Q (.nx e) s1
      | .rt d => Q (.rt d) s1) : ∀ ds env s, I ds env s → W (forGo t body w ds env s) Q
  | [], env, s, h => W_ok.mpr (hend env s h)
  | d :: ds, env, s, h => by
    obtain ⟨e1, h1, h2⟩ := step d ds env s h
    unfold forGo
    rw [h1]
    simp only
    rw [W_bind]
    refine h2.mono fun f s1 q => ?_
    cases f with
    | nx e =>
      show W (if watch w s1 = true then forGo t body w ds e s1 else .bad) Q
      rw [if_pos q.1]
      exact W_go I hend step ds e s1 q.2
    | ct e =>
      show W (if watch w s1 = true then forGo t body w ds e s1 else .bad) Q
      rw [if_pos q.1]
      exact W_go I hend step ds e s1 q.2
    | bk e => exact W_ok.mpr q
    | rt d => exact W_ok.mpr q
/-- a loop while something is, by a measure -/
theorem W_wh {c : M Bool} {body : M Fl} {Q : Fl → S → Prop} (I : Nat → Env → S → Prop)
    (step : ∀ m env s, I m env s → W (c env s) fun b s1 => if b = true then W (body env s1) fun f s2 => match f with
      | .nx e => ∃ m', m' < m ∧ I m' e s2
      | .ct e => ∃ m', m' < m ∧ I m' e s2
      | .bk e => Q (.nx e) s2
      | .rt d => Q (.rt d) s2
    else Q (.nx env) s1) : ∀ (n m : Nat) (env : Env) (s : S), m < n → I m env s → W (whGo c body n env s) Q
  | 0, m, env, s, hm, h => absurd hm (Nat.not_lt_zero _)
  | n + 1, m, env, s, hm, h => by
    unfold whGo
    rw [W_bind]
    refine (step m env s h).mono fun b s1 q => ?_
    cases b with
    | false => exact W_ok.mpr q
    | true =>
      have q : W (body env s1) _ := q
      show W ((body env s1).bind _) Q
      rw [W_bind]
      refine q.mono fun f s2 q => ?_
      cases f with
      | nx e =>
        obtain ⟨m', h1, h2⟩ := q
        exact W_wh I step n m' e s2 (by omega) h2
      | ct e =>
        obtain ⟨m', h1, h2⟩ := q
        exact W_wh I step n m' e s2 (by omega) h2
      | bk e => exact W_ok.mpr q
      | rt d => exact W_ok.mpr q
/-- a comprehension, by what holds with the rest still to be done and the items so far -/
theorem W_lcGo {w : List (Nat × List D)} {t : Tg} {tt : M Bool} {te : M D} (I : List D → List D → S → Prop)
    (step : ∀ d rest acc s, I (d :: rest) acc s → ∃ e1, t.set d env = some e1 ∧ W (tt e1 s) fun b s1 => if b = true then W (te e1 s1) fun x s2 => watch w s2 = true ∧ I rest (acc ++ [x]) s2 else watch w s1 = true ∧ I rest acc s1) :
    ∀ ds acc s, I ds acc s → W (lcGo w t tt te env ds s) fun xs s' => I [] (acc ++ xs) s'
  | [], acc, s, h => W_ok.mpr (by rw [List.append_nil]; exact h)
  | d :: ds, acc, s, h => by
    obtain ⟨e1, h1, h2⟩ := step d ds acc s h
    unfold lcGo
    rw [h1]
    simp only
    rw [W_bind]
    refine h2.mono fun b s1 q => ?_
    cases b with
    | false =>
      have q : watch w s1 = true ∧ I ds acc s1 := q
      show W (if watch w s1 = true then lcGo w t tt te env ds s1 else .bad) _
      rw [if_pos q.1]
      exact W_lcGo I step ds acc s1 q.2
    | true =>
      have q : W (te e1 s1) _ := q
      show W ((te e1 s1).bind _) _
      rw [W_bind]
      refine q.mono fun x s2 q => ?_
      show W (if watch w s2 = true then (lcGo w t tt te env ds s2).bind fun xs s3 => .ok (x :: xs) s3 else .bad) _
      rw [if_pos q.1, W_bind]
      refine (W_lcGo I step ds (acc ++ [x]) s2 q.2).mono fun xs s3 h => W_ok.mpr ?_
      have e : acc ++ x :: xs = acc ++ [x] ++ xs := by simp
      rw [e]
      exact h
theorem W_lc {it : M Its} {own : List Nat} {t : Tg} {tt : M Bool} {te : M D} {Q : List D → S → Prop} : W (lcM it own t tt te env s) Q ↔ W (it env s) fun a s1 => a.ds.length ≤ sizeLine ∧ W (lcGo a.w t tt te (wipeE env own) a.ds s1) Q := by
  unfold lcM
  rw [W_bind]
  have : ∀ (a : Its) (s1 : S), W (if a.ds.length ≤ sizeLine then lcGo a.w t tt te (wipeE env own) a.ds s1 else .bad) Q ↔ (a.ds.length ≤ sizeLine ∧ W (lcGo a.w t tt te (wipeE env own) a.ds s1) Q) := fun a s1 => by
    by_cases h : a.ds.length ≤ sizeLine
    · rw [if_pos h]
      exact ⟨fun q => ⟨h, q⟩, fun q => q.2⟩
    · rw [if_neg h]
      exact ⟨fun q => (W_bad.mp q).elim, fun q => (h q.1).elim⟩
  exact ⟨fun h => h.mono fun a s q => (this a s).mp q, fun h => h.mono fun a s q => (this a s).mpr q⟩
/-- a comprehension that changes nothing -/
theorem lcGo_pure {w : List (Nat × List D)} {t : Tg} {tt : M Bool} {te : M D} (hw : watch w s = true) (p : D → Bool) (g : D → D) : ∀ ds : List D,
    (∀ d ∈ ds, ∃ e1, t.set d env = some e1 ∧ tt e1 s = .ok (p d) s ∧ (p d = true → te e1 s = .ok (g d) s)) → lcGo w t tt te env ds s = .ok ((ds.filter p).map g) s
  | [], _ => rfl
  | d :: ds, h => by
    obtain ⟨e1, h1, h2, h3⟩ := h d List.mem_cons_self
    have ih := lcGo_pure hw p g ds fun d hd => h d (List.mem_cons_of_mem _ hd)
    unfold lcGo
    rw [h1]
    simp only
    rw [h2, R.bind_ok]
    cases hp : p d with
    | false =>
      rw [List.filter_cons, hp, if_neg (by decide), if_pos hw, ih]
      rfl
    | true =>
      rw [List.filter_cons, hp, if_pos rfl, if_pos rfl, h3 hp, R.bind_ok, if_pos hw, ih]
      rfl
theorem lc_pure {it : M Its} {own : List Nat} {t : Tg} {tt : M Bool} {te : M D} {a : Its} (hi : it env s = .ok a s) (hw : watch a.w s = true) (hl : a.ds.length ≤ sizeLine) (p : D → Bool) (g : D → D)
    (h : ∀ d ∈ a.ds, ∃ e1, t.set d (wipeE env own) = some e1 ∧ tt e1 s = .ok (p d) s ∧ (p d = true → te e1 s = .ok (g d) s)) : lcM it own t tt te env s = .ok ((a.ds.filter p).map g) s := by
  unfold lcM
  rw [hi, R.bind_ok, if_pos hl]
  exact lcGo_pure hw p g a.ds h
/-- .. without a condition -/
theorem lc_map {it : M Its} {own : List Nat} {t : Tg} {te : M D} {a : Its} (hi : it env s = .ok a s) (hw : watch a.w s = true) (hl : a.ds.length ≤ sizeLine) (g : D → D)
    (h : ∀ d ∈ a.ds, ∃ e1, t.set d (wipeE env own) = some e1 ∧ te e1 s = .ok (g d) s) : lcM it own t yesM te env s = .ok (a.ds.map g) s := by
  have := lc_pure (tt := yesM) hi hw hl (fun _ => true) g fun d hd => let ⟨e1, h1, h2⟩ := h d hd; ⟨e1, h1, rfl, fun _ => h2⟩
  rw [this, List.filter_eq_self.mpr fun _ _ => rfl]
end
/-- what is kept: all objects but those of X -/
def Fr (X : Nat → Prop) (s s' : S) : Prop := ∀ n o, s[n]? = some o → ¬ X n → s'[n]? = some o
theorem Fr.refl {X : Nat → Prop} {s : S} : Fr X s s := fun _ _ h _ => h
theorem Fr.trans {X : Nat → Prop} {s s1 s2 : S} (a : Fr X s s1) (b : Fr X s1 s2) : Fr X s s2 := fun n o h x => b n o (a n o h x) x
theorem Fr.push {X : Nat → Prop} {s : S} {t : S} : Fr X s (s ++ t) := fun n o h _ => by
  rw [List.getElem?_append_left (List.getElem?_eq_some_iff.mp h).1]
  exact h
theorem Fr.imp {X Y : Nat → Prop} {s s' : S} (a : Fr X s s') (h : ∀ n, X n → Y n) : Fr Y s s' := fun n o e x => a n o e fun y => x (h n y)
theorem Fr.set {X : Nat → Prop} {s : S} {k : Nat} {o : O} (h : X k) : Fr X s (s.set k o) := fun n u e x => by
  rw [List.getElem?_set_ne (fun e : k = n => x (e ▸ h))]
  exact e
/-- nothing is changed -/
abbrev No : Nat → Prop := fun _ => False
theorem cl_call {T : Tab} {FT CT : List Fn} {k : Nat} {f : Str} {F : Fn} {ds : List D} {s : S} (h : findF FT f = some F) : (runs T FT CT (k + 1)).call f ds s = bodyR T (runs T FT CT k) F ds s := by
  cases k with
  | zero =>
    show runF T FT Cl.nil f ds s = _
    unfold runF
    rw [h]
    rfl
  | succ k =>
    show runF T FT (runs T FT CT (k + 1)) f ds s = _
    unfold runF
    rw [h]
theorem cl_init {T : Tab} {FT CT : List Fn} {k : Nat} {f : Str} {F : Fn} {ds : List D} {s : S} (h : findF CT f = some F) : (runs T FT CT (k + 2)).init f ds s = bodyR T (runs T FT CT k) F ds s := by
  show runF T CT (runs T FT CT k) f ds s = _
  unfold runF
  rw [h]
end Mini

set_option Elab.async false
set_option linter.all false
set_option maxRecDepth 100000
set_option maxHeartbeats 1000000
/-! Mini, part X: the operations on numbers, tuples and lists of numbers. -/
namespace Mini
open PySem L2

section
variable {s : S}
theorem eqI {a b : Int} : eqD (.int a) (.int b) s = .ok (.bl (decide (a = b))) s := by
  show okB (a == b) s = _
  unfold okB
  congr 2
theorem neI {a b : Int} : neD (.int a) (.int b) s = .ok (.bl (!decide (a = b))) s := by
  show okB (!(a == b)) s = _
  unfold okB
  congr 3
theorem eqB {a b : Bool} : eqD (.bl a) (.bl b) s = .ok (.bl (a == b)) s := rfl
theorem neB {a b : Bool} : neD (.bl a) (.bl b) s = .ok (.bl (!(a == b))) s := rfl
theorem ltI {a b : Int} : ltD (.int a) (.int b) s = .ok (.bl (decide (a < b))) s := rfl
theorem leI {a b : Int} : leD (.int a) (.int b) s = .ok (.bl (decide (a ≤ b))) s := rfl
theorem isN {d : D} : isD d .non s = .ok (.bl (decide (d = .non))) s := rfl
theorem isNN {d : D} : isNotD d .non s = .ok (.bl (!decide (d = .non))) s := rfl
theorem addI {a b : Int} : binD .Add (.int a) (.int b) s = .ok (.int (a + b)) s := rfl
theorem subI {a b : Int} : binD .Sub (.int a) (.int b) s = .ok (.int (a - b)) s := rfl
theorem mulI {a b : Int} (h : smallMul a b = true) : binD .Mult (.int a) (.int b) s = .ok (.int (a * b)) s := if_pos h
theorem modI {a b : Int} (h : 0 < b) : binD .Mod (.int a) (.int b) s = .ok (.int (a % b)) s := if_pos h
theorem divI {a b : Int} (h : 0 < b ∧ b < 18446744073709551616) : binD .FloorDiv (.int a) (.int b) s = .ok (.int (a / b)) s := if_pos h
theorem powI {a b : Int} (h : 0 ≤ b ∧ b ≤ 1000000 ∧ a.natAbs < 18446744073709551616) : binD .Pow (.int a) (.int b) s = .ok (.int (a ^ b.toNat)) s := if_pos h
theorem addT {a b : List D} (h : a.length + b.length ≤ sizeLine) : binD .Add (.tup a) (.tup b) s = .ok (.tup (a ++ b)) s := if_pos h
theorem smallL {a b : Int} (h1 : -18446744073709551616 < a) (h2 : a < 18446744073709551616) : smallMul a b = true := by
  unfold smallMul
  rw [decide_eq_true h1, decide_eq_true h2]
  rfl
theorem smallR {a b : Int} (h1 : -18446744073709551616 < b) (h2 : b < 18446744073709551616) : smallMul a b = true := by
  unfold smallMul
  rw [decide_eq_true h1, decide_eq_true h2]
  simp
theorem intI {a : Int} : intD (.int a) s = .ok (.int a) s := rfl
theorem seqT {ds : List D} : seqD (.tup ds) s = .ok ds s := rfl
theorem seqL {n : Nat} {xs : List D} (h : s[n]? = some (.lst xs)) : seqD (.ref n) s = .ok xs s := by
  unfold seqD
  simp only
  rw [h]
theorem lenE {ds : List D} : lenQ ds s = .ok (.int ds.length) s := rfl
theorem tupE {ds : List D} : tupQ ds s = .ok (.tup ds) s := rfl
theorem ixN_at {n i : Nat} (h : i < n) : ixN n (i : Int) = some i := by
  unfold ixN
  rw [if_pos (Int.natCast_nonneg _), if_pos (by omega)]
  rfl
theorem ixT {ds : List D} {i : Nat} {d : D} (h : ds[i]? = some d) : ixD (.tup ds) (.int (i : Int)) s = .ok d s := by
  have hi := (List.getElem?_eq_some_iff.mp h).1
  show (match atI ds (i : Int) with | some x => R.ok x s | none => .bad) = _
  unfold atI
  rw [ixN_at hi]
  show (match ds[i]? with | some x => R.ok x s | none => .bad) = _
  rw [h]
theorem ixL {n : Nat} {ds : List D} {i : Nat} {d : D} (hn : s[n]? = some (.lst ds)) (h : ds[i]? = some d) : ixD (.ref n) (.int (i : Int)) s = .ok d s := by
  have hi := (List.getElem?_eq_some_iff.mp h).1
  unfold ixD
  simp only
  rw [seqL hn, R.bind_ok]
  unfold atI
  rw [ixN_at hi]
  show (match ds[i]? with | some x => R.ok x s | none => .bad) = _
  rw [h]
theorem setL {n : Nat} {ds : List D} {i : Nat} {d : D} (hn : s[n]? = some (.lst ds)) (h : i < ds.length) : setID d (.ref n) (.int (i : Int)) s = .ok () (s.set n (.lst (ds.set i d))) := by
  unfold setID
  simp only
  rw [hn]
  simp only
  rw [ixN_at h]
theorem isiTup {ds : List D} {n : String} : isiD (.tup ds) (.ty n) s = (match isiB "tuple" n with | some b => okB b s | none => .bad) := rfl
theorem isiInt {i : Int} {n : String} : isiD (.int i) (.ty n) s = (match isiB "int" n with | some b => okB b s | none => .bad) := rfl
theorem isiLst {k : Nat} {xs : List D} {n : String} (h : s[k]? = some (.lst xs)) : isiD (.ref k) (.ty n) s = (match isiB "list" n with | some b => okB b s | none => .bad) := by
  unfold isiD tyD
  simp only
  rw [h] <;> rfl
theorem appL {n : Nat} {xs : List D} {d : D} (h : s[n]? = some (.lst xs)) (hl : xs.length < sizeLine) : appD (.ref n) [d] s = .ok .non (s.set n (.lst (xs ++ [d]))) := by
  unfold appD
  simp only
  rw [h]
  exact if_pos hl
theorem isL {n : Nat} {xs : List D} (h : s[n]? = some (.lst xs)) : isLst (.ref n) s = true := by
  unfold isLst
  simp only
  rw [h]
theorem boolsD_map (bs : List Bool) : boolsD (bs.map D.bl) = some bs := by
  induction bs with
  | nil => rfl
  | cons b bs ih =>
    show (boolsD (bs.map D.bl)).map _ = _
    rw [ih]
    rfl
theorem allE {bs : List Bool} : allQ (bs.map D.bl) s = .ok (.bl (bs.all id)) s := by
  unfold allQ
  rw [boolsD_map]
  rfl
theorem anyE {bs : List Bool} : anyQ (bs.map D.bl) s = .ok (.bl (bs.any id)) s := by
  unfold anyQ
  rw [boolsD_map]
  rfl
/-! tuples and lists of numbers -/
def iT (ns : List Int) : D := .tup (ns.map D.int)
theorem iT_inj {a b : List Int} : iT a = iT b ↔ a = b := by
  constructor
  · intro h
    unfold iT at h
    injection h with h
    exact List.map_inj_right (fun x y h => by injection h) |>.mp h
  · rintro rfl
    rfl
theorem toPL_ints {n : Nat} : ∀ ns : List Int, toPL (toP s (n + 1)) (ns.map D.int) = some (ns.map PyData.int)
  | [] => rfl
  | i :: ns => by
    rw [List.map_cons]
    unfold toPL
    rw [toPL_ints ns]
    rfl
theorem toP_iT {n : Nat} {ns : List Int} : toP s (n + 2) (iT ns) = some (.tuple (ns.map PyData.int)) := by
  show (toPL (toP s (n + 1)) (ns.map D.int)).map PyData.tuple = _
  rw [toPL_ints]
  rfl
theorem eqvAll_ints : ∀ a b : List Int, PyData.eqvAll (a.map PyData.int) (b.map PyData.int) = decide (a = b)
  | [], [] => rfl
  | [], _ :: _ => rfl
  | _ :: _, [] => rfl
  | x :: a, y :: b => by
    show (PyData.eqv (.int x) (.int y) && PyData.eqvAll (a.map PyData.int) (b.map PyData.int)) = _
    rw [eqvAll_ints a b]
    show ((x == y) && decide (a = b)) = _
    rw [Bool.beq_eq_decide_eq]
    by_cases h1 : x = y <;> by_cases h2 : a = b <;> simp [h1, h2]
theorem eqT {a b : List Int} : eqD (iT a) (iT b) s = .ok (.bl (decide (a = b))) s := by
  unfold eqD
  rw [show (60 : Nat) = 58 + 2 from rfl, toP_iT, toP_iT]
  show okB (PyData.eqvAll _ _) s = _
  rw [eqvAll_ints]
  rfl
theorem neT {a b : List Int} : neD (iT a) (iT b) s = .ok (.bl (!decide (a = b))) s := by
  unfold neD
  rw [show (60 : Nat) = 58 + 2 from rfl, toP_iT, toP_iT]
  show okB (!PyData.eqvAll _ _) s = _
  rw [eqvAll_ints]
  rfl
theorem any_ints {v : Int} : ∀ l : List Int, ((l.map PyData.int).any fun z => PyData.eqv z (.int v)) = decide (v ∈ l)
  | [] => by simp
  | x :: l => by
    rw [List.map_cons, List.any_cons, any_ints l]
    show ((x == v) || decide (v ∈ l)) = _
    rw [Bool.beq_eq_decide_eq]
    by_cases h1 : x = v
    · subst h1; simp
    · have : ¬ v = x := fun e => h1 e.symm
      simp [h1, this]
theorem inT {v : Int} {l : List Int} : inD (.int v) (iT l) s = .ok (.bl (decide (v ∈ l))) s := by
  unfold inD
  rw [show (60 : Nat) = 58 + 2 from rfl, toP_iT]
  show okB ((l.map PyData.int).any fun z => PyData.eqv z (.int v)) s = _
  rw [any_ints]
  rfl
theorem inL {v : Int} {l : List Int} {n : Nat} (h : s[n]? = some (.lst (l.map D.int))) : inD (.int v) (.ref n) s = .ok (.bl (decide (v ∈ l))) s := by
  have : toP s 60 (.ref n) = some (.list (l.map PyData.int)) := by
    show (match s[n]? with
      | some (.lst xs) => (toPL (toP s 59) xs).map PyData.list
      | _ => none) = _
    rw [h]
    show (toPL (toP s (58 + 1)) (l.map D.int)).map PyData.list = _
    rw [toPL_ints]
    rfl
  unfold inD
  rw [this]
  show okB ((l.map PyData.int).any fun z => PyData.eqv z (.int v)) s = _
  rw [any_ints]
  rfl
theorem ixI {ns : List Int} {i : Nat} {x : Int} (h : ns[i]? = some x) : ixD (iT ns) (.int (i : Int)) s = .ok (.int x) s := ixT (by rw [List.getElem?_map, h]; rfl)
/-! what loops go over -/
theorem itsT {ds : List D} : itsD (.tup ds) s = .ok ⟨ds, []⟩ s := rfl
theorem itsL {n : Nat} {ds : List D} (h : s[n]? = some (.lst ds)) : itsD (.ref n) s = .ok ⟨ds, [(n, ds)]⟩ s := by
  unfold itsD
  simp only
  rw [h]
theorem watch_nil : watch [] s = true := rfl
theorem watch_one {n : Nat} {ds : List D} (h : s[n]? = some (.lst ds)) : watch [(n, ds)] s = true := by
  unfold watch
  simp [h]
theorem rg_one {n : Int} (h0 : 0 ≤ n) (h : n ≤ 16777216) {env : Env} {a : M D} {s' : S} (e : a env s = .ok (.int n) s') : rg1 a env s = .ok ((List.range n.toNat).map fun i => D.int (i : Nat)) s' := by
  unfold rg1 m1
  rw [e, R.bind_ok]
  have : rgOk 0 n = true := by
    unfold rgOk
    have h1 : (-4611686018427387904 : Int) ≤ n := Int.le_trans (by decide) h0
    have h2 : n < (4611686018427387904 : Int) := by omega
    have h3 : (n - 0).toNat ≤ 16777216 := by omega
    rw [decide_eq_true h2, decide_eq_true h1, decide_eq_true h3]
    rfl
  show (if rgOk 0 n = true then R.ok (rgD 0 n) s' else .bad) = _
  rw [if_pos this]
  unfold rgD
  simp
theorem lcGo_over {ι : Type} {env : Env} {w : List (Nat × List D)} {t : Tg} {tt : M Bool} {te : M D} (hw : watch w s = true) (r : ι → D) (p : ι → Bool) (g : ι → D) : ∀ xs : List ι,
    (∀ x ∈ xs, ∃ e1, t.set (r x) env = some e1 ∧ W (tt e1 s) (fun b s' => b = p x ∧ s' = s) ∧ (p x = true → W (te e1 s) fun d s' => d = g x ∧ s' = s)) → lcGo w t tt te env (xs.map r) s = .ok ((xs.filter p).map g) s
  | [], _ => rfl
  | x :: xs, h => by
    obtain ⟨e1, h1, h2, h3⟩ := h x List.mem_cons_self
    have ih := lcGo_over hw r p g xs fun d hd => h d (List.mem_cons_of_mem _ hd)
    obtain ⟨_, _, h2, rfl, rfl⟩ := h2
    rw [List.map_cons]
    unfold lcGo
    rw [h1]
    simp only
    rw [h2, R.bind_ok]
    cases hp : p x with
    | false =>
      rw [List.filter_cons, hp, if_neg (by decide), if_pos hw, ih]
      rfl
    | true =>
      obtain ⟨_, _, h3, rfl, rfl⟩ := h3 hp
      rw [List.filter_cons, hp, if_pos rfl, if_pos rfl, h3, R.bind_ok, if_pos hw, ih]
      rfl
theorem lcGo_all {ι : Type} {env : Env} {w : List (Nat × List D)} {t : Tg} {te : M D} (hw : watch w s = true) (r : ι → D) (g : ι → D) (xs : List ι)
    (h : ∀ x ∈ xs, ∃ e1, t.set (r x) env = some e1 ∧ W (te e1 s) fun d s' => d = g x ∧ s' = s) : lcGo w t yesM te env (xs.map r) s = .ok (xs.map g) s := by
  have := lcGo_over (tt := yesM) hw r (fun _ => true) g xs fun x hx => let ⟨e1, h1, h2⟩ := h x hx; ⟨e1, h1, ⟨true, s, rfl, rfl, rfl⟩, fun _ => h2⟩
  rw [this, List.filter_eq_self.mpr fun _ _ => rfl]
theorem zipD_map {ι κ : Type} (f : ι → D) (g : κ → D) : ∀ (a : List ι) (b : List κ), zipD (a.map f) (b.map g) = (a.zip b).map fun p => .tup [f p.1, g p.2]
  | [], _ => rfl
  | _ :: _, [] => rfl
  | x :: a, y :: b => by
    show D.tup [f x, g y] :: zipD (a.map f) (b.map g) = _
    rw [zipD_map f g a b]
    rfl
theorem pairsD_map {ι : Type} (f : ι → D) : ∀ (a : List ι) (i : Nat), pairsD i (a.map f) = (a.zipIdx i).map fun p => .tup [.int (p.2 : Nat), f p.1]
  | [], _ => rfl
  | x :: a, i => by
    show D.tup [.int (i : Nat), f x] :: pairsD (i + 1) (a.map f) = _
    rw [pairsD_map f a (i + 1)]
    rfl
theorem allG {ι : Type} {f : ι → Bool} {xs : List ι} : allQ (xs.map fun x => D.bl (f x)) s = .ok (.bl (xs.all f)) s := by
  have := allE (s := s) (bs := xs.map f)
  rw [List.map_map] at this
  rw [show (fun x => D.bl (f x)) = D.bl ∘ f from rfl, this]
  simp
theorem anyG {ι : Type} {f : ι → Bool} {xs : List ι} : anyQ (xs.map fun x => D.bl (f x)) s = .ok (.bl (xs.any f)) s := by
  have := anyE (s := s) (bs := xs.map f)
  rw [List.map_map] at this
  rw [show (fun x => D.bl (f x)) = D.bl ∘ f from rfl, this]
  simp
theorem zip_its {ι κ : Type} {f : ι → D} {g : κ → D} {a : List ι} {b : List κ} : zipI ⟨a.map f, []⟩ ⟨b.map g, []⟩ s = .ok ⟨(a.zip b).map fun p => .tup [f p.1, g p.2], []⟩ s := by
  unfold zipI
  rw [if_pos ⟨rfl, rfl⟩, zipD_map]
  rfl
theorem size_ok {n : Nat} (h : n ≤ 1000000) : n ≤ sizeLine := by rw [sizeLine_eq]; omega
theorem W_goT {ι : Type} {t : Tg} {body : M Fl} {w : List (Nat × List D)} {Q : Fl → S → Prop} (r : ι → D) (I : List ι → Env → S → Prop) (hend : ∀ env s, I [] env s → Q (.nx env) s)
    (step : ∀ x rest env s, I (x :: rest) env s → ∃ e1, t.set (r x) env = some e1 ∧ W (body e1 s) fun f s1 => match f with
      | .nx e => watch w s1 = true ∧ I rest e s1
      | .ct e => watch w s1 = true ∧ I rest e s1
      | .bk e => Q (.nx e) s1
      | .rt d => Q (.rt d) s1) : ∀ (xs : List ι) env s, I xs env s → W (forGo t body w (xs.map r) env s) Q := fun xs env s h => by
  have hE : ∀ env s, (∃ xs : List ι, ([] : List D) = xs.map r ∧ I xs env s) → Q (.nx env) s := fun env s ⟨xs, e, h⟩ => by
    cases xs with
    | nil => exact hend env s h
    | cons x xs => cases e
  refine W_go (fun ds env s => ∃ xs : List ι, ds = xs.map r ∧ I xs env s) hE (fun d rest env s h => ?_) _ env s ⟨xs, rfl, h⟩
  obtain ⟨xs, e, h⟩ := h
  cases xs with
  | nil => cases e
  | cons x xs =>
    cases e
    obtain ⟨e1, h1, h2⟩ := step x xs env s h
    refine ⟨e1, h1, h2.mono fun f s1 q => ?_⟩
    cases f with
    | nx e => exact ⟨q.1, xs, rfl, q.2⟩
    | ct e => exact ⟨q.1, xs, rfl, q.2⟩
    | bk e => exact q
    | rt d => exact q
theorem W_lcGoT {ι : Type} {env : Env} {w : List (Nat × List D)} {t : Tg} {tt : M Bool} {te : M D} (r : ι → D) (I : List ι → List D → S → Prop)
    (step : ∀ x rest acc s, I (x :: rest) acc s → ∃ e1, t.set (r x) env = some e1 ∧ W (tt e1 s) fun b s1 => if b = true then W (te e1 s1) fun y s2 => watch w s2 = true ∧ I rest (acc ++ [y]) s2 else watch w s1 = true ∧ I rest acc s1)
    (xs : List ι) (s : S) (h : I xs [] s) : W (lcGo w t tt te env (xs.map r) s) fun ys s' => I [] ys s' := by
  have := W_lcGo (w := w) (t := t) (tt := tt) (te := te) (env := env) (fun ds acc s => ∃ xs, ds = xs.map r ∧ I xs acc s) (fun d rest acc s ⟨xs, e, h⟩ => by
    cases xs with
    | nil => cases e
    | cons x xs =>
      cases e
      obtain ⟨e1, h1, h2⟩ := step x xs acc s h
      refine ⟨e1, h1, h2.mono fun b s1 q => ?_⟩
      cases b with
      | false => exact ⟨q.1, xs, rfl, q.2⟩
      | true =>
        have q : W (te e1 s1) _ := q
        show W (te e1 s1) _
        exact q.mono fun y s2 q => ⟨q.1, xs, rfl, q.2⟩) (xs.map r) [] s ⟨xs, rfl, h⟩
  refine this.mono fun ys s' ⟨xs, e, h⟩ => ?_
  cases xs with
  | nil => simpa using h
  | cons x xs => cases e
def extD (x : D) (ds : List D) (s : S) : R D := match x with
  | .ref n => match s[n]? with
    | some (.lst xs) => if xs.length + ds.length ≤ sizeLine then .ok .non (s.set n (.lst (xs ++ ds))) else .bad
    | _ => .bad
  | _ => .bad
theorem extL {n : Nat} {xs ds : List D} (h : s[n]? = some (.lst xs)) (hl : xs.length + ds.length ≤ sizeLine) : extD (.ref n) ds s = .ok .non (s.set n (.lst (xs ++ ds))) := by
  unfold extD
  simp only
  rw [h]
  exact if_pos hl
theorem W_ext {env : Env} {o : M D} {l : M (List D)} {Q : D → S → Prop} : W (extM o l env s) Q ↔ W (o env s) fun x s => isLst x s = true ∧ W (l env s) fun ds s => W (extD x ds s) Q := by
  unfold extM
  rw [W_bind]
  have : ∀ (x : D) (s : S), W (if isLst x s = true then (l env s).bind fun ds s2 => (match x with
    | .ref n => match s2[n]? with
      | some (.lst xs) => if xs.length + ds.length ≤ sizeLine then .ok .non (s2.set n (.lst (xs ++ ds))) else .bad
      | _ => .bad
    | _ => .bad) else .bad) Q ↔ (isLst x s = true ∧ W (l env s) fun ds s => W (extD x ds s) Q) := fun x s => by
    by_cases h : isLst x s = true
    · rw [if_pos h, W_bind]
      exact ⟨fun q => ⟨h, q⟩, fun q => q.2⟩
    · rw [if_neg h]
      exact ⟨fun q => (W_bad.mp q).elim, fun q => (h q.1).elim⟩
  exact ⟨fun h => h.mono fun a s q => (this a s).mp q, fun h => h.mono fun a s q => (this a s).mpr q⟩
def rg1D (d : D) (s : S) : R (List D) := match d with
  | .int n => if rgOk 0 n = true then .ok (rgD 0 n) s else .bad
  | _ => .bad
theorem W_rg1 {env : Env} {a : M D} {Q : List D → S → Prop} : W (rg1 a env s) Q ↔ W (a env s) fun d s => W (rg1D d s) Q := W_bind
/-- the numbers below n -/
def upto (n : Int) : List Nat := List.range n.toNat
def nI (i : Nat) : D := .int (i : Nat)
theorem rgN {n : Int} (h : n ≤ 1000000) (h0 : -1000000 ≤ n) : rg1D (.int n) s = .ok ((upto n).map nI) s := by
  have : rgOk 0 n = true := by
    unfold rgOk
    have h1 : (-4611686018427387904 : Int) ≤ n := by omega
    have h2 : n < (4611686018427387904 : Int) := by omega
    have h3 : (n - 0).toNat ≤ 16777216 := by omega
    rw [decide_eq_true h2, decide_eq_true h1, decide_eq_true h3]
    rfl
  show (if rgOk 0 n = true then R.ok (rgD 0 n) s else .bad) = _
  rw [if_pos this]
  unfold rgD upto nI
  simp
theorem rgIE {l : List D} : rgI l s = .ok ⟨l, []⟩ s := rfl
theorem Fr.new {X : Nat → Prop} {s0 : S} {n : Nat} {o : O} (h : Fr X s0 s) (hn : s0.length ≤ n) : Fr X s0 (s.set n o) := fun m u e x => by
  have := (List.getElem?_eq_some_iff.mp e).1
  rw [List.getElem?_set_ne (by omega)]
  exact h m u e x
theorem Fr.len {s0 : S} (h : Fr No s0 s) : s0.length ≤ s.length := by
  by_cases c : s0.length ≤ s.length
  · exact c
  · have h1 : s.length < s0.length := by omega
    have := h s.length s0[s.length] (List.getElem?_eq_getElem h1) id
    rw [List.getElem?_eq_none (Nat.le_refl _)] at this
    cases this
theorem at_len {o : O} : (s ++ [o])[s.length]? = some o := by simp
theorem at_old {n : Nat} {o u : O} (h : s[n]? = some u) : (s ++ [o])[n]? = some u := by
  rw [List.getElem?_append_left (List.getElem?_eq_some_iff.mp h).1]
  exact h
theorem itsI {ns : List Int} : itsD (iT ns) s = .ok ⟨ns.map D.int, []⟩ s := rfl
theorem seqI {ns : List Int} : seqD (iT ns) s = .ok (ns.map D.int) s := rfl
theorem isiI {ns : List Int} {n : String} : isiD (iT ns) (.ty n) s = (match isiB "tuple" n with | some b => okB b s | none => .bad) := rfl
theorem isiBl {b : Bool} {n : String} : isiD (.bl b) (.ty n) s = (match isiB "bool" n with | some b => okB b s | none => .bad) := rfl
theorem isiNo {n : String} : isiD .non (.ty n) s = (match isiB "NoneType" n with | some b => okB b s | none => .bad) := rfl
theorem addI1 {ns : List Int} {v : Int} (h : ns.length + 1 ≤ sizeLine) : binD .Add (iT ns) (.tup [.int v]) s = .ok (iT (ns ++ [v])) s := by
  unfold iT
  rw [addT (by simpa using h)]
  simp
theorem fldE {ok : Str → Bool} {f C : Str} {n : Nat} {fs : List (Str × D)} {v : D} (h : s[n]? = some (.ins C fs)) (ho : ok C = true) (hl : fs.lookup f = some v) : fldD ok f (.ref n) s = .ok v s := by
  unfold fldD
  simp only
  rw [h]
  simp only
  rw [ho, hl]
theorem setE {ok : Str → Bool} {f C : Str} {n : Nat} {fs : List (Str × D)} {v : D} (h : s[n]? = some (.ins C fs)) (ho : ok C = true) (hl : fs.length < 1000) : setFD ok f v (.ref n) s = .ok () (s.set n (.ins C (putD f v fs))) := by
  unfold setFD
  simp only
  rw [h]
  exact if_pos ⟨ho, hl⟩
/-- a list or a tuple with these items -/
def Row (s : S) (d : D) (ds : List D) : Prop := d = .tup ds ∨ ∃ n, d = .ref n ∧ s[n]? = some (.lst ds)
theorem Row.seq {d : D} {ds : List D} (h : Row s d ds) : seqD d s = .ok ds s := by
  rcases h with rfl | ⟨n, rfl, h⟩
  · rfl
  · exact seqL h
theorem Row.its {d : D} {ds : List D} (h : Row s d ds) : ∃ w, itsD d s = .ok ⟨ds, w⟩ s ∧ watch w s = true ∧ ∀ s', (∀ n, d = .ref n → s'[n]? = s[n]?) → watch w s' = true := by
  rcases h with rfl | ⟨n, rfl, h⟩
  · exact ⟨[], rfl, rfl, fun _ _ => rfl⟩
  · exact ⟨_, itsL h, watch_one h, fun s' hs => watch_one ((hs n rfl).trans h)⟩
theorem Row.fr {X : Nat → Prop} {s' : S} {d : D} {ds : List D} (h : Row s d ds) (f : Fr X s s') (hx : ∀ n, d = .ref n → ¬ X n) : Row s' d ds := by
  rcases h with rfl | ⟨n, rfl, h⟩
  · exact .inl rfl
  · exact .inr ⟨n, rfl, f n _ h (hx n rfl)⟩
theorem W_seqI {env : Env} {a b : M Fl} {Q : Fl → S → Prop} (I : Env → S → Prop) (ha : W (a env s) fun f s1 => ∃ e, f = .nx e ∧ I e s1) (hb : ∀ e s1, I e s1 → W (b e s1) Q) : W (seqS a b env s) Q :=
  W_seq.mpr (ha.mono fun f s1 ⟨e, h1, h2⟩ => by
    subst h1
    exact hb e s1 h2)
/-! five numbers on hand -/
section
variable {h : Nat} {a b c d e v : D}
theorem hx0 (hh : s[h]? = some (.lst [a, b, c, d, e])) : ixD (.ref h) (.int 0) s = .ok a s := ixL (i := 0) hh rfl
theorem hx1 (hh : s[h]? = some (.lst [a, b, c, d, e])) : ixD (.ref h) (.int 1) s = .ok b s := ixL (i := 1) hh rfl
theorem hx2 (hh : s[h]? = some (.lst [a, b, c, d, e])) : ixD (.ref h) (.int 2) s = .ok c s := ixL (i := 2) hh rfl
theorem hx3 (hh : s[h]? = some (.lst [a, b, c, d, e])) : ixD (.ref h) (.int 3) s = .ok d s := ixL (i := 3) hh rfl
theorem hx4 (hh : s[h]? = some (.lst [a, b, c, d, e])) : ixD (.ref h) (.int 4) s = .ok e s := ixL (i := 4) hh rfl
theorem hs1 (hh : s[h]? = some (.lst [a, b, c, d, e])) : setID v (.ref h) (.int 1) s = .ok () (s.set h (.lst [a, v, c, d, e])) := setL (i := 1) hh (by show 1 < 5; decide)
theorem hs2 (hh : s[h]? = some (.lst [a, b, c, d, e])) : setID v (.ref h) (.int 2) s = .ok () (s.set h (.lst [a, b, v, d, e])) := setL (i := 2) hh (by show 2 < 5; decide)
theorem hs3 (hh : s[h]? = some (.lst [a, b, c, d, e])) : setID v (.ref h) (.int 3) s = .ok () (s.set h (.lst [a, b, c, v, e])) := setL (i := 3) hh (by show 3 < 5; decide)
theorem hs4 (hh : s[h]? = some (.lst [a, b, c, d, e])) : setID v (.ref h) (.int 4) s = .ok () (s.set h (.lst [a, b, c, d, v])) := setL (i := 4) hh (by show 4 < 5; decide)
end
/-- a hand: what is drawn from -/
structure HandV (s : S) (h c : Nat) (cells : List Int) (i : Nat) (j x y : Int) : Prop where
  hh : s[h]? = some (.lst [.ref c, .int i, .int j, .int x, .int y])
  hc : s[c]? = some (.lst (cells.map D.int))
  ne : c ≠ h
  j0 : 0 ≤ j
  x0 : 0 ≤ x
  x1 : x < 4294967296
  y0 : 0 ≤ y
  v0 : ∀ v ∈ cells, 0 ≤ v
theorem HandV.put {h c : Nat} {cells : List Int} {i i' : Nat} {j x y j' x' y' : Int} (H : HandV s h c cells i j x y) (j0 : 0 ≤ j') (x0 : 0 ≤ x') (x1 : x' < 4294967296) (y0 : 0 ≤ y') :
    HandV (s.set h (.lst [.ref c, .int i', .int j', .int x', .int y'])) h c cells i' j' x' y' :=
  ⟨List.getElem?_set_self (List.getElem?_eq_some_iff.mp H.hh).1, by rw [List.getElem?_set_ne (Ne.symm H.ne)]; exact H.hc, H.ne, j0, x0, x1, y0, H.v0⟩
def Hand (s : S) (h c : Nat) : Prop := ∃ cells i j x y, HandV s h c cells i j x y
theorem Hand.fr {h c : Nat} {s' : S} {X : Nat → Prop} (H : Hand s h c) (f : Fr X s s') (hx : ∀ n xs, s[n]? = some (.lst xs) → ¬ X n) : Hand s' h c := by
  obtain ⟨cells, i, j, x, y, H⟩ := H
  exact ⟨cells, i, j, x, y, f _ _ H.hh (hx _ _ H.hh), f _ _ H.hc (hx _ _ H.hc), H.ne, H.j0, H.x0, H.x1, H.y0, H.v0⟩
theorem Hand.no {h c : Nat} {s' : S} (H : Hand s h c) (f : Fr No s s') : Hand s' h c := H.fr f fun _ _ _ h => h
theorem Hand.ins {h c b : Nat} {s' : S} {C : Str} {fs : List (Str × D)} (H : Hand s h c) (hb : s[b]? = some (.ins C fs)) (f : Fr (· = b) s s') : Hand s' h c := H.fr f fun n xs hn e => by
  rw [e, hb] at hn
  cases hn
theorem Hand.lt {h c : Nat} (H : Hand s h c) : h < s.length ∧ c < s.length := by
  obtain ⟨cells, i, j, x, y, H⟩ := H
  exact ⟨(List.getElem?_eq_some_iff.mp H.hh).1, (List.getElem?_eq_some_iff.mp H.hc).1⟩
theorem Hand.set {h c n : Nat} {o : O} (H : Hand s h c) (h1 : n ≠ h) (h2 : n ≠ c) : Hand (s.set n o) h c := by
  obtain ⟨cells, i, j, x, y, H⟩ := H
  exact ⟨cells, i, j, x, y, by rw [List.getElem?_set_ne h1]; exact H.hh, by rw [List.getElem?_set_ne h2]; exact H.hc, H.ne, H.j0, H.x0, H.x1, H.y0, H.v0⟩
theorem eqN {i : Nat} {b : Int} : eqD (nI i) (.int b) s = .ok (.bl (decide ((i : Int) = b))) s := eqI
theorem ixNI {ns : List Int} {i : Nat} {x : Int} (h : ns[i]? = some x) : ixD (iT ns) (nI i) s = .ok (.int x) s := ixI h
theorem Tset1 {i : Nat} {d : D} {env : Env} : (Tg.nm i).set d env = some (env.set i (some d)) := rfl
theorem Tset2 {i j : Nat} {d e : D} {env : Env} : (Tg.tp [.nm i, .nm j]).set (.tup [d, e]) env = some ((env.set i (some d)).set j (some e)) := rfl
theorem Tset3 {i j k : Nat} {d e f : D} {env : Env} : (Tg.tp [.nm i, .nm j, .nm k]).set (.tup [d, e, f]) env = some (((env.set i (some d)).set j (some e)).set k (some f)) := rfl
end
end Mini

set_option Elab.async false
set_option maxRecDepth 100000
set_option linter.all false
set_option maxHeartbeats 1000000
namespace Law_k72
open PySem L2 Mini
def top (i : Nat) : Stmt := PySem.Challenge.pw_faultclear_k72_whole_faults_left_by_talk.main.body.getD i (.Pass ⟨0, 0, 0, 0⟩)
def F_is_integer : Fn := ⟨"is_integer", "is_integer", "is_integer", ["thing"], ["thing"], top 1⟩
def F_is_within : Fn := ⟨"is_within", "is_within", "is_within", ["thing", "low", "high"], ["thing", "low", "high"], top 2⟩
def F_is_tuple : Fn := ⟨"is_tuple", "is_tuple", "is_tuple", ["thing", "least", "most"], ["thing", "least", "most"], top 3⟩
def F_is_row : Fn := ⟨"is_row", "is_row", "is_row", ["thing", "least", "most"], ["thing", "least", "most"], top 4⟩
def F_is_lot : Fn := ⟨"is_lot", "is_lot", "is_lot", ["thing", "many"], ["thing", "many", "one", "other"], top 5⟩
def F_is_form : Fn := ⟨"is_form", "is_form", "is_form", ["thing"], ["thing", "product", "many"], top 13⟩
def F_box_in : Fn := ⟨"box_in", "box_in", "box_in", ["form", "thing"], ["form", "thing", "lot", "many"], top 14⟩
def F_held : Fn := ⟨"held", "held", "held", ["box", "fault"], ["box", "fault", "lot", "value"], top 15⟩
def F_all_faults : Fn := ⟨"all_faults", "all_faults", "all_faults", ["form"], ["form", "found", "many", "longer", "fault", "value"], top 16⟩
def F_are_rules : Fn := ⟨"are_rules", "are_rules", "are_rules", ["form", "thing"], ["form", "thing", "box"], top 19⟩
def F_is_lawful : Fn := ⟨"is_lawful", "is_lawful", "is_lawful", ["book", "fault"], ["book", "fault", "rule"], top 21⟩
def F_listed : Fn := ⟨"listed", "listed", "listed", ["book"], ["book", "fault"], top 22⟩
def F_shared_by : Fn := ⟨"shared_by", "shared_by", "shared_by", ["report", "fault"], ["report", "fault", "one", "more"], top 24⟩
def F_check_lies : Fn := ⟨"check_lies", "check_lies", "check_lies", ["lies"], ["lies"], top 28⟩
def F_is_answer : Fn := ⟨"is_answer", "is_answer", "is_answer", ["form", "thing"], ["form", "thing"], top 29⟩
def F_check_talk : Fn := ⟨"check_talk", "check_talk", "check_talk", ["form", "talk"], ["form", "talk", "number", "answer"], top 30⟩
def F_false_at : Fn := ⟨"false_at", "false_at", "false_at", ["fault", "talk"], ["fault", "talk", "number", "field", "value"], top 31⟩
def F_left_in : Fn := ⟨"left_in", "left_in", "left_in", ["book", "lies", "talk"], ["book", "lies", "talk", "found", "fault", "many"], top 32⟩
def F_left_by : Fn := ⟨"left_by", "left_by", "left_by", ["book", "lies", "talk"], ["book", "lies", "talk"], top 33⟩
def F_sure_by : Fn := ⟨"sure_by", "sure_by", "sure_by", ["book", "lies", "talk"], ["book", "lies", "talk", "left", "found", "fault", "rest"], top 34⟩
def F__law_hand : Fn := ⟨"_law_hand", "_law_hand", "_law_hand", ["script"], ["script", "cells", "cell"], top 36⟩
def F__law_draw : Fn := ⟨"_law_draw", "_law_draw", "_law_draw", ["hand", "limit"], ["hand", "limit", "cell", "digit", "number"], top 37⟩
def F__law_some : Fn := ⟨"_law_some", "_law_some", "_law_some", ["hand", "things"], ["hand", "things"], top 38⟩
def F__law_form : Fn := ⟨"_law_form", "_law_form", "_law_form", ["hand", "fields", "most"], ["hand", "fields", "most", "found", "product", "field", "size"], top 39⟩
def F__law_lot : Fn := ⟨"_law_lot", "_law_lot", "_law_lot", ["hand", "size"], ["hand", "size", "found", "value"], top 40⟩
def F__law_box : Fn := ⟨"_law_box", "_law_box", "_law_box", ["hand", "form"], ["hand", "form", "size"], top 41⟩
def F__law_rules : Fn := ⟨"_law_rules", "_law_rules", "_law_rules", ["hand", "form", "most"], ["hand", "form", "most", "turn"], top 42⟩
def F__law_faults : Fn := ⟨"_law_faults", "_law_faults", "_law_faults", ["form"], ["form", "found", "size", "longer", "fault", "value"], top 43⟩
def F__law_held : Fn := ⟨"_law_held", "_law_held", "_law_held", ["box", "fault"], ["box", "fault", "lot", "value"], top 44⟩
def F__law_lawful : Fn := ⟨"_law_lawful", "_law_lawful", "_law_lawful", ["form", "rules"], ["form", "rules", "fault", "rule"], top 45⟩
def F__law_few_book : Fn := ⟨"_law_few_book", "_law_few_book", "_law_few_book", ["hand", "fields", "most", "many"], ["hand", "fields", "most", "many", "turn", "form", "rules", "some"], top 46⟩
def F__law_talk : Fn := ⟨"_law_talk", "_law_talk", "_law_talk", ["hand", "form", "some", "most"], ["hand", "form", "some", "most", "fault", "found", "turn", "field"], top 47⟩
def F__law_left : Fn := ⟨"_law_left", "_law_left", "_law_left", ["some", "lies", "talk"], ["some", "lies", "talk", "found", "fault", "false", "field", "value"], top 48⟩
def F__law_is : Fn := ⟨"_law_is", "_law_is", "_law_is", ["shown", "due"], ["shown", "due", "one", "other"], top 49⟩
def F__law_mixed : Fn := ⟨"_law_mixed", "_law_mixed", "_law_mixed", ["hand", "things"], ["hand", "things", "left", "found"], top 50⟩
def F__law_answered : Fn := ⟨"_law_answered", "_law_answered", "_law_answered", ["standing", "field", "value"], ["standing", "field", "value", "found", "fault", "left"], top 51⟩
def F__law_common : Fn := ⟨"_law_common", "_law_common", "_law_common", ["form", "faults"], ["form", "faults", "first", "field", "fault"], top 52⟩
def F_law : Fn := ⟨"law", "law", "law", ["script"], ["script", "hand", "known", "turn", "form", "rules", "some", "book", "lies", "talk", "due", "told", "field", "value", "later", "more", "fault", "left"], top 53⟩
def C_Book : Fn := ⟨"Book", "__init__", "Book.__init__", ["self", "form", "rules"], ["self", "form", "rules"], inClass (top 20) 0⟩
def FT : List Fn := [F_is_integer, F_is_within, F_is_tuple, F_is_row, F_is_lot, F_is_form, F_box_in, F_held, F_all_faults, F_are_rules, F_is_lawful, F_listed, F_shared_by, F_check_lies, F_is_answer, F_check_talk, F_false_at, F_left_in, F_left_by, F_sure_by, F__law_hand, F__law_draw, F__law_some, F__law_form, F__law_lot, F__law_box, F__law_rules, F__law_faults, F__law_held, F__law_lawful, F__law_few_book, F__law_talk, F__law_left, F__law_is, F__law_mixed, F__law_answered, F__law_common, F_law]
def CT : List Fn := [C_Book]
def cons : List (Str × Int) := [("MOST_FAULTS", 4000), ("MOST_RULES", 40), ("MOST_LIES", 3), ("MOST_TALK", 40)]
def blt : List Str := ["abs", "all", "any", "bool", "dict", "enumerate", "int", "isinstance", "len", "list", "range", "str", "tuple", "zip"]
def cs : List (Str × List Str) := [("Book", ["listed", "form", "rules"])]
def T : Tab := tabOf FT CT cons blt (attrsOf cs)
def cl (k : Nat) : Cl := runs T FT CT k
def b_is_integer (c : Cl) : M Fl :=
  retM (iteM (asB (m2 (varM 0) (constM (.ty "int")) isiD)) (ofB (notM (asB (m2 (varM 0) (constM (.ty "bool")) isiD)))) (constM (.bl false)))
theorem e_is_integer (c : Cl) : bodyM T c F_is_integer = b_is_integer c := by kernel_rfl
theorem r_is_integer {k : Nat} {a0 : D} {s : S} : (cl (k + 1)).call "is_integer" [a0] s = (b_is_integer (cl k) [some a0] s).bind endR := by
  unfold cl
  rw [cl_call (F := F_is_integer) (by kernel_rfl)]
  unfold bodyR
  rw [e_is_integer]
  rfl
def b_is_within (c : Cl) : M Fl :=
  retM (iteM (asB (m1 (consM (varM 0) nilM) (callD 1 (c.call "is_integer")))) (chainM (cmpD .LtE) (cmpD .LtE) (varM 1) (varM 0) (varM 2)) (constM (.bl false)))
theorem e_is_within (c : Cl) : bodyM T c F_is_within = b_is_within c := by kernel_rfl
theorem r_is_within {k : Nat} {a0 a1 a2 : D} {s : S} : (cl (k + 1)).call "is_within" [a0, a1, a2] s = (b_is_within (cl k) [some a0, some a1, some a2] s).bind endR := by
  unfold cl
  rw [cl_call (F := F_is_within) (by kernel_rfl)]
  unfold bodyR
  rw [e_is_within]
  rfl
def b_is_tuple (c : Cl) : M Fl :=
  retM (iteM (asB (m2 (varM 0) (constM (.ty "tuple")) isiD)) (chainM (cmpD .LtE) (cmpD .LtE) (varM 1) (m1 (seqM (varM 0)) lenQ) (varM 2)) (constM (.bl false)))
theorem e_is_tuple (c : Cl) : bodyM T c F_is_tuple = b_is_tuple c := by kernel_rfl
theorem r_is_tuple {k : Nat} {a0 a1 a2 : D} {s : S} : (cl (k + 1)).call "is_tuple" [a0, a1, a2] s = (b_is_tuple (cl k) [some a0, some a1, some a2] s).bind endR := by
  unfold cl
  rw [cl_call (F := F_is_tuple) (by kernel_rfl)]
  unfold bodyR
  rw [e_is_tuple]
  rfl
def b_is_row (c : Cl) : M Fl :=
  retM (iteM (asB (m2 (varM 0) (consM (constM (.ty "list")) (consM (constM (.ty "tuple")) nilM)) isiTD)) (chainM (cmpD .LtE) (cmpD .LtE) (varM 1) (m1 (seqM (varM 0)) lenQ) (varM 2)) (constM (.bl false)))
theorem e_is_row (c : Cl) : bodyM T c F_is_row = b_is_row c := by kernel_rfl
theorem r_is_row {k : Nat} {a0 a1 a2 : D} {s : S} : (cl (k + 1)).call "is_row" [a0, a1, a2] s = (b_is_row (cl k) [some a0, some a1, some a2] s).bind endR := by
  unfold cl
  rw [cl_call (F := F_is_row) (by kernel_rfl)]
  unfold bodyR
  rw [e_is_row]
  rfl
def b_is_lot (c : Cl) : M Fl :=
  seqS (iteM (orM (notM (asB (m2 (varM 0) (constM (.ty "tuple")) isiD))) (notM (asB (m1 (lcM (m1 (varM 0) itsD) [2] (.nm 2) yesM (m1 (consM (varM 2) (consM (constM (.int 0)) (consM (m2 (varM 1) (constM (.int 1)) (binD .Sub)) nilM))) (callD 3 (c.call "is_within")))) allQ)))) (retM (constM (.bl false))) skipM)
  (retM (m1 (lcM (m2 (m1 (varM 0) itsD) (m1 (m3 (varM 0) (oSome (constM (.int 1))) oNone slD) itsD) zipI) [2, 3] (.tp [.nm 2, .nm 3]) yesM (m2 (varM 2) (varM 3) (cmpD .Lt))) allQ))
theorem e_is_lot (c : Cl) : bodyM T c F_is_lot = b_is_lot c := by kernel_rfl
theorem r_is_lot {k : Nat} {a0 a1 : D} {s : S} : (cl (k + 1)).call "is_lot" [a0, a1] s = (b_is_lot (cl k) [some a0, some a1, none, none] s).bind endR := by
  unfold cl
  rw [cl_call (F := F_is_lot) (by kernel_rfl)]
  unfold bodyR
  rw [e_is_lot]
  rfl
def b_is_form (c : Cl) : M Fl :=
  seqS (iteM (orM (notM (asB (m1 (consM (varM 0) (consM (constM (.int 1)) (consM (constM (.int 8)) nilM))) (callD 3 (c.call "is_tuple"))))) (notM (asB (m1 (lcM (m1 (varM 0) itsD) [2] (.nm 2) yesM (m1 (consM (varM 2) (consM (constM (.int 2)) (consM (constM (.int 6)) nilM))) (callD 3 (c.call "is_within")))) allQ)))) (retM (constM (.bl false))) skipM)
  (seqS (setM (.nm 1) (constM (.int 1)))
  (seqS (forM' (m1 (varM 0) itsD) (.nm 2) (setM (.nm 1) (m2 (varM 1) (varM 2) (binD .Mult))))
  (retM (m2 (varM 1) (constM (.int 4000)) (cmpD .LtE)))))
theorem e_is_form (c : Cl) : bodyM T c F_is_form = b_is_form c := by kernel_rfl
theorem r_is_form {k : Nat} {a0 : D} {s : S} : (cl (k + 1)).call "is_form" [a0] s = (b_is_form (cl k) [some a0, none, none] s).bind endR := by
  unfold cl
  rw [cl_call (F := F_is_form) (by kernel_rfl)]
  unfold bodyR
  rw [e_is_form]
  rfl
def b_box_in (c : Cl) : M Fl :=
  seqS (iteM (notM (asB (m1 (consM (varM 1) (consM (m1 (seqM (varM 0)) lenQ) (consM (m1 (seqM (varM 0)) lenQ) nilM))) (callD 3 (c.call "is_tuple"))))) (retM (constM (.bl false))) skipM)
  (retM (m1 (lcM (m2 (m1 (varM 1) itsD) (m1 (varM 0) itsD) zipI) [2, 3] (.tp [.nm 2, .nm 3]) yesM (iteM (asB (m1 (consM (varM 2) (consM (varM 3) nilM)) (callD 2 (c.call "is_lot")))) (m2 (m1 (seqM (varM 2)) lenQ) (constM (.int 0)) (cmpD .Gt)) (constM (.bl false)))) allQ))
theorem e_box_in (c : Cl) : bodyM T c F_box_in = b_box_in c := by kernel_rfl
theorem r_box_in {k : Nat} {a0 a1 : D} {s : S} : (cl (k + 1)).call "box_in" [a0, a1] s = (b_box_in (cl k) [some a0, some a1, none, none] s).bind endR := by
  unfold cl
  rw [cl_call (F := F_box_in) (by kernel_rfl)]
  unfold bodyR
  rw [e_box_in]
  rfl
def b_held (c : Cl) : M Fl :=
  retM (m1 (lcM (m2 (m1 (varM 0) itsD) (m1 (varM 1) itsD) zipI) [2, 3] (.tp [.nm 2, .nm 3]) yesM (m2 (varM 3) (varM 2) (cmpD .In))) allQ)
theorem e_held (c : Cl) : bodyM T c F_held = b_held c := by kernel_rfl
theorem r_held {k : Nat} {a0 a1 : D} {s : S} : (cl (k + 1)).call "held" [a0, a1] s = (b_held (cl k) [some a0, some a1, none, none] s).bind endR := by
  unfold cl
  rw [cl_call (F := F_held) (by kernel_rfl)]
  unfold bodyR
  rw [e_held]
  rfl
def b_all_faults (c : Cl) : M Fl :=
  seqS (setM (.nm 1) (newM (consM (tupM nilM) nilM)))
  (seqS (forM' (m1 (varM 0) itsD) (.nm 2) (seqS (setM (.nm 3) (newM nilM))
  (seqS (forM' (m1 (varM 1) itsD) (.nm 4) (dropM (extM (varM 3) (lcM (m1 (rg1 (varM 2)) rgI) [5] (.nm 5) yesM (m2 (varM 4) (tupM (consM (varM 5) nilM)) (binD .Add))))))
  (setM (.nm 1) (varM 3)))))
  (retM (varM 1)))
theorem e_all_faults (c : Cl) : bodyM T c F_all_faults = b_all_faults c := by kernel_rfl
theorem r_all_faults {k : Nat} {a0 : D} {s : S} : (cl (k + 1)).call "all_faults" [a0] s = (b_all_faults (cl k) [some a0, none, none, none, none, none] s).bind endR := by
  unfold cl
  rw [cl_call (F := F_all_faults) (by kernel_rfl)]
  unfold bodyR
  rw [e_all_faults]
  rfl
def b_are_rules (c : Cl) : M Fl :=
  retM (iteM (asB (m2 (varM 1) (constM (.ty "tuple")) isiD)) (m1 (lcM (m1 (varM 1) itsD) [2] (.nm 2) yesM (m1 (consM (varM 0) (consM (varM 2) nilM)) (callD 2 (c.call "box_in")))) allQ) (constM (.bl false)))
theorem e_are_rules (c : Cl) : bodyM T c F_are_rules = b_are_rules c := by kernel_rfl
theorem r_are_rules {k : Nat} {a0 a1 : D} {s : S} : (cl (k + 1)).call "are_rules" [a0, a1] s = (b_are_rules (cl k) [some a0, some a1, none] s).bind endR := by
  unfold cl
  rw [cl_call (F := F_are_rules) (by kernel_rfl)]
  unfold bodyR
  rw [e_are_rules]
  rfl
def b_is_lawful (c : Cl) : M Fl :=
  retM (ofB (notM (asB (m1 (lcM (m1 (m1 (varM 0) (fldD (attrOk T "rules") "rules")) itsD) [2] (.nm 2) yesM (m1 (consM (varM 2) (consM (varM 1) nilM)) (callD 2 (c.call "held")))) anyQ))))
theorem e_is_lawful (c : Cl) : bodyM T c F_is_lawful = b_is_lawful c := by kernel_rfl
theorem r_is_lawful {k : Nat} {a0 a1 : D} {s : S} : (cl (k + 1)).call "is_lawful" [a0, a1] s = (b_is_lawful (cl k) [some a0, some a1, none] s).bind endR := by
  unfold cl
  rw [cl_call (F := F_is_lawful) (by kernel_rfl)]
  unfold bodyR
  rw [e_is_lawful]
  rfl
def b_listed (c : Cl) : M Fl :=
  seqS (iteM (asB (m2 (m1 (varM 0) (fldD (attrOk T "listed") "listed")) (constM .non) (cmpD .Is))) (setFM (attrOk T "listed") "listed" (newM (lcM (m1 (m1 (consM (m1 (varM 0) (fldD (attrOk T "form") "form")) nilM) (callD 1 (c.call "all_faults"))) itsD) [1] (.nm 1) (asB (m1 (consM (varM 0) (consM (varM 1) nilM)) (callD 2 (c.call "is_lawful")))) (varM 1))) (varM 0)) skipM)
  (retM (m1 (varM 0) (fldD (attrOk T "listed") "listed")))
theorem e_listed (c : Cl) : bodyM T c F_listed = b_listed c := by kernel_rfl
theorem r_listed {k : Nat} {a0 : D} {s : S} : (cl (k + 1)).call "listed" [a0] s = (b_listed (cl k) [some a0, none] s).bind endR := by
  unfold cl
  rw [cl_call (F := F_listed) (by kernel_rfl)]
  unfold bodyR
  rw [e_listed]
  rfl
def b_shared_by (c : Cl) : M Fl :=
  retM (m1 (lcM (m2 (m1 (varM 0) itsD) (m1 (varM 1) itsD) zipI) [2, 3] (.tp [.nm 2, .nm 3]) yesM (iteM (asB (m2 (varM 2) (varM 3) (cmpD .Eq))) (varM 2) (constM .non))) tupQ)
theorem e_shared_by (c : Cl) : bodyM T c F_shared_by = b_shared_by c := by kernel_rfl
theorem r_shared_by {k : Nat} {a0 a1 : D} {s : S} : (cl (k + 1)).call "shared_by" [a0, a1] s = (b_shared_by (cl k) [some a0, some a1, none, none] s).bind endR := by
  unfold cl
  rw [cl_call (F := F_shared_by) (by kernel_rfl)]
  unfold bodyR
  rw [e_shared_by]
  rfl
def b_check_lies (c : Cl) : M Fl :=
  iteM (notM (asB (m1 (consM (varM 0) (consM (constM (.int 0)) (consM (constM (.int 3)) nilM))) (callD 3 (c.call "is_within"))))) badF skipM
theorem e_check_lies (c : Cl) : bodyM T c F_check_lies = b_check_lies c := by kernel_rfl
theorem r_check_lies {k : Nat} {a0 : D} {s : S} : (cl (k + 1)).call "check_lies" [a0] s = (b_check_lies (cl k) [some a0] s).bind endR := by
  unfold cl
  rw [cl_call (F := F_check_lies) (by kernel_rfl)]
  unfold bodyR
  rw [e_check_lies]
  rfl
def b_is_answer (c : Cl) : M Fl :=
  seqS (iteM (orM (notM (asB (m1 (consM (varM 1) (consM (constM (.int 2)) (consM (constM (.int 2)) nilM))) (callD 3 (c.call "is_tuple"))))) (notM (asB (m1 (consM (m2 (varM 1) (constM (.int 0)) ixD) (consM (constM (.int 0)) (consM (m2 (m1 (seqM (varM 0)) lenQ) (constM (.int 1)) (binD .Sub)) nilM))) (callD 3 (c.call "is_within")))))) (retM (constM (.bl false))) skipM)
  (retM (m1 (consM (m2 (varM 1) (constM (.int 1)) ixD) (consM (constM (.int 0)) (consM (m2 (m2 (varM 0) (m2 (varM 1) (constM (.int 0)) ixD) ixD) (constM (.int 1)) (binD .Sub)) nilM))) (callD 3 (c.call "is_within"))))
theorem e_is_answer (c : Cl) : bodyM T c F_is_answer = b_is_answer c := by kernel_rfl
theorem r_is_answer {k : Nat} {a0 a1 : D} {s : S} : (cl (k + 1)).call "is_answer" [a0, a1] s = (b_is_answer (cl k) [some a0, some a1] s).bind endR := by
  unfold cl
  rw [cl_call (F := F_is_answer) (by kernel_rfl)]
  unfold bodyR
  rw [e_is_answer]
  rfl
def b_check_talk (c : Cl) : M Fl :=
  seqS (iteM (notM (asB (m1 (consM (varM 1) (consM (constM (.int 0)) (consM (constM (.int 40)) nilM))) (callD 3 (c.call "is_row"))))) badF skipM)
  (forM' (m1 (m1 (varM 1) itsD) enumI) (.tp [.nm 2, .nm 3]) (iteM (notM (asB (m1 (consM (varM 0) (consM (varM 3) nilM)) (callD 2 (c.call "is_answer"))))) badF skipM))
theorem e_check_talk (c : Cl) : bodyM T c F_check_talk = b_check_talk c := by kernel_rfl
theorem r_check_talk {k : Nat} {a0 a1 : D} {s : S} : (cl (k + 1)).call "check_talk" [a0, a1] s = (b_check_talk (cl k) [some a0, some a1, none, none] s).bind endR := by
  unfold cl
  rw [cl_call (F := F_check_talk) (by kernel_rfl)]
  unfold bodyR
  rw [e_check_talk]
  rfl
def b_false_at (c : Cl) : M Fl :=
  retM (newM (lcM (m1 (m1 (varM 1) itsD) enumI) [2, 3, 4] (.tp [.nm 2, .tp [.nm 3, .nm 4]]) (asB (m2 (m2 (varM 0) (varM 3) ixD) (varM 4) (cmpD .NotEq))) (varM 2)))
theorem e_false_at (c : Cl) : bodyM T c F_false_at = b_false_at c := by kernel_rfl
theorem r_false_at {k : Nat} {a0 a1 : D} {s : S} : (cl (k + 1)).call "false_at" [a0, a1] s = (b_false_at (cl k) [some a0, some a1, none, none, none] s).bind endR := by
  unfold cl
  rw [cl_call (F := F_false_at) (by kernel_rfl)]
  unfold bodyR
  rw [e_false_at]
  rfl
def b_left_in (c : Cl) : M Fl :=
  seqS (setM (.nm 3) (newM nilM))
  (seqS (forM' (m1 (m1 (consM (varM 0) nilM) (callD 1 (c.call "listed"))) itsD) (.nm 4) (seqS (setM (.nm 5) (m1 (seqM (m1 (consM (varM 4) (consM (varM 2) nilM)) (callD 2 (c.call "false_at")))) lenQ))
  (iteM (asB (m2 (varM 5) (varM 1) (cmpD .LtE))) (dropM (methM (varM 3) (consM (tupM (consM (varM 4) (consM (m2 (varM 1) (varM 5) (binD .Sub)) nilM))) nilM) appD)) skipM)))
  (retM (varM 3)))
theorem e_left_in (c : Cl) : bodyM T c F_left_in = b_left_in c := by kernel_rfl
theorem r_left_in {k : Nat} {a0 a1 a2 : D} {s : S} : (cl (k + 1)).call "left_in" [a0, a1, a2] s = (b_left_in (cl k) [some a0, some a1, some a2, none, none, none] s).bind endR := by
  unfold cl
  rw [cl_call (F := F_left_in) (by kernel_rfl)]
  unfold bodyR
  rw [e_left_in]
  rfl
def b_left_by (c : Cl) : M Fl :=
  seqS (dropM (m1 (consM (varM 1) nilM) (callD 1 (c.call "check_lies"))))
  (seqS (dropM (m1 (consM (m1 (varM 0) (fldD (attrOk T "form") "form")) (consM (varM 2) nilM)) (callD 2 (c.call "check_talk"))))
  (retM (m1 (consM (varM 0) (consM (varM 1) (consM (varM 2) nilM))) (callD 3 (c.call "left_in")))))
theorem e_left_by (c : Cl) : bodyM T c F_left_by = b_left_by c := by kernel_rfl
theorem r_left_by {k : Nat} {a0 a1 a2 : D} {s : S} : (cl (k + 1)).call "left_by" [a0, a1, a2] s = (b_left_by (cl k) [some a0, some a1, some a2] s).bind endR := by
  unfold cl
  rw [cl_call (F := F_left_by) (by kernel_rfl)]
  unfold bodyR
  rw [e_left_by]
  rfl
def b_sure_by (c : Cl) : M Fl :=
  seqS (dropM (m1 (consM (varM 1) nilM) (callD 1 (c.call "check_lies"))))
  (seqS (dropM (m1 (consM (m1 (varM 0) (fldD (attrOk T "form") "form")) (consM (varM 2) nilM)) (callD 2 (c.call "check_talk"))))
  (seqS (setM (.nm 3) (newM (lcM (m1 (m1 (consM (varM 0) (consM (varM 1) (consM (varM 2) nilM))) (callD 3 (c.call "left_in"))) itsD) [5, 6] (.tp [.nm 5, .nm 6]) yesM (varM 5))))
  (seqS (iteM (asB (m2 (m1 (seqM (varM 3)) lenQ) (constM (.int 0)) (cmpD .Eq))) (retM (constM .non)) skipM)
  (seqS (setM (.nm 4) (m2 (varM 3) (constM (.int 0)) ixD))
  (seqS (forM' (m1 (m3 (varM 3) (oSome (constM (.int 1))) oNone slD) itsD) (.nm 5) (setM (.nm 4) (m1 (consM (varM 4) (consM (varM 5) nilM)) (callD 2 (c.call "shared_by")))))
  (retM (varM 4)))))))
theorem e_sure_by (c : Cl) : bodyM T c F_sure_by = b_sure_by c := by kernel_rfl
theorem r_sure_by {k : Nat} {a0 a1 a2 : D} {s : S} : (cl (k + 1)).call "sure_by" [a0, a1, a2] s = (b_sure_by (cl k) [some a0, some a1, some a2, none, none, none, none] s).bind endR := by
  unfold cl
  rw [cl_call (F := F_sure_by) (by kernel_rfl)]
  unfold bodyR
  rw [e_sure_by]
  rfl
def b__law_hand (c : Cl) : M Fl :=
  seqS (setM (.nm 1) (newM (lcM (m1 (m3 (varM 0) oNone (oSome (constM (.int 63))) slD) itsD) [2] (.nm 2) yesM (m1 (m1 (varM 2) intD) absD))))
  (retM (newM (consM (varM 1) (consM (constM (.int 0)) (consM (constM (.int 0)) (consM (m2 (constM (.int 83)) (m2 (constM (.int 7)) (m1 (seqM (varM 1)) lenQ) (binD .Mult)) (binD .Add)) (consM (constM (.int 0)) nilM)))))))
theorem e__law_hand (c : Cl) : bodyM T c F__law_hand = b__law_hand c := by kernel_rfl
theorem r__law_hand {k : Nat} {a0 : D} {s : S} : (cl (k + 1)).call "_law_hand" [a0] s = (b__law_hand (cl k) [some a0, none, none] s).bind endR := by
  unfold cl
  rw [cl_call (F := F__law_hand) (by kernel_rfl)]
  unfold bodyR
  rw [e__law_hand]
  rfl
def b__law_draw (c : Cl) : M Fl :=
  seqS (iteM (andM (asB (m2 (m2 (varM 0) (constM (.int 2)) ixD) (constM (.int 0)) (cmpD .Eq))) (asB (m2 (m2 (varM 0) (constM (.int 1)) ixD) (m1 (seqM (m2 (varM 0) (constM (.int 0)) ixD)) lenQ) (cmpD .Lt)))) (seqS (setM (.nm 2) (m2 (m2 (varM 0) (constM (.int 0)) ixD) (m2 (varM 0) (constM (.int 1)) ixD) ixD))
  (seqS (setIM (m2 (m2 (varM 0) (constM (.int 1)) ixD) (constM (.int 1)) (binD .Add)) (varM 0) (constM (.int 1)))
  (seqS (setIM (m2 (m1 (m2 (m2 (m2 (m2 (varM 0) (constM (.int 3)) ixD) (constM (.int 69621)) (binD .Mult)) (varM 2) (binD .Add)) (constM (.int 29)) (binD .Add)) intD) (constM (.int 2147483629)) (binD .Mod)) (varM 0) (constM (.int 3)))
  (iteM (asB (m2 (varM 2) (m2 (constM (.int 10)) (constM (.int 18)) (binD .Pow)) (cmpD .GtE))) (setIM (varM 2) (varM 0) (constM (.int 2))) skipM)))) skipM)
  (seqS (iteM (asB (m2 (m2 (varM 0) (constM (.int 2)) ixD) (constM (.int 0)) (cmpD .Gt))) (seqS (setM (.nm 3) (m2 (m1 (m2 (varM 0) (constM (.int 2)) ixD) intD) (varM 1) (binD .Mod)))
  (seqS (setIM (m2 (m2 (varM 0) (constM (.int 2)) ixD) (varM 1) (binD .FloorDiv)) (varM 0) (constM (.int 2)))
  (retM (varM 3)))) skipM)
  (seqS (setIM (m2 (m2 (varM 0) (constM (.int 4)) ixD) (constM (.int 1)) (binD .Add)) (varM 0) (constM (.int 4)))
  (seqS (setM (.nm 4) (m2 (m1 (m2 (m1 (m2 (m2 (varM 0) (constM (.int 3)) ixD) (m2 (constM (.int 7919)) (m2 (varM 0) (constM (.int 4)) ixD) (binD .Mult)) (binD .Add)) intD) (constM (.int 48271)) (binD .Mult)) intD) (constM (.int 2147483647)) (binD .Mod)))
  (seqS (setM (.nm 4) (m2 (m1 (m2 (varM 4) (m2 (m2 (varM 4) (constM (.int 1009)) (binD .FloorDiv)) (constM (.int 69621)) (binD .Add)) (binD .Mult)) intD) (constM (.int 2147483647)) (binD .Mod)))
  (seqS (setM (.nm 4) (m2 (m1 (m2 (varM 4) (m2 (m2 (varM 4) (constM (.int 2003)) (binD .FloorDiv)) (constM (.int 40692)) (binD .Add)) (binD .Mult)) intD) (constM (.int 2147483399)) (binD .Mod)))
  (retM (m2 (m1 (m2 (varM 4) (constM (.int 16)) (binD .FloorDiv)) intD) (varM 1) (binD .Mod))))))))
theorem e__law_draw (c : Cl) : bodyM T c F__law_draw = b__law_draw c := by kernel_rfl
theorem r__law_draw {k : Nat} {a0 a1 : D} {s : S} : (cl (k + 1)).call "_law_draw" [a0, a1] s = (b__law_draw (cl k) [some a0, some a1, none, none, none] s).bind endR := by
  unfold cl
  rw [cl_call (F := F__law_draw) (by kernel_rfl)]
  unfold bodyR
  rw [e__law_draw]
  rfl
def b__law_some (c : Cl) : M Fl :=
  retM (m2 (varM 1) (m1 (consM (varM 0) (consM (m1 (seqM (varM 1)) lenQ) nilM)) (callD 2 (c.call "_law_draw"))) ixD)
theorem e__law_some (c : Cl) : bodyM T c F__law_some = b__law_some c := by kernel_rfl
theorem r__law_some {k : Nat} {a0 a1 : D} {s : S} : (cl (k + 1)).call "_law_some" [a0, a1] s = (b__law_some (cl k) [some a0, some a1] s).bind endR := by
  unfold cl
  rw [cl_call (F := F__law_some) (by kernel_rfl)]
  unfold bodyR
  rw [e__law_some]
  rfl
def b__law_form (c : Cl) : M Fl :=
  seqS (parM [3, 4] (consM (newM nilM) (consM (constM (.int 1)) nilM)))
  (seqS (forM' (m1 (rg1 (m2 (constM (.int 1)) (m1 (consM (varM 0) (consM (varM 1) nilM)) (callD 2 (c.call "_law_draw"))) (binD .Add))) rgI) (.nm 5) (seqS (setM (.nm 6) (m2 (constM (.int 2)) (m1 (consM (varM 0) (consM (newM (consM (constM (.int 0)) (consM (constM (.int 0)) (consM (constM (.int 0)) (consM (constM (.int 1)) (consM (constM (.int 1)) (consM (constM (.int 2)) (consM (constM (.int 4)) nilM)))))))) nilM)) (callD 2 (c.call "_law_some"))) (binD .Add)))
  (iteM (orM (asB (m2 (m2 (varM 4) (varM 6) (binD .Mult)) (varM 2) (cmpD .LtE))) (asB (m2 (varM 5) (constM (.int 0)) (cmpD .Eq)))) (seqS (dropM (methM (varM 3) (consM (varM 6) nilM) appD))
  (setM (.nm 4) (m2 (varM 4) (varM 6) (binD .Mult)))) skipM)))
  (retM (m1 (seqM (varM 3)) tupQ)))
theorem e__law_form (c : Cl) : bodyM T c F__law_form = b__law_form c := by kernel_rfl
theorem r__law_form {k : Nat} {a0 a1 a2 : D} {s : S} : (cl (k + 1)).call "_law_form" [a0, a1, a2] s = (b__law_form (cl k) [some a0, some a1, some a2, none, none, none, none] s).bind endR := by
  unfold cl
  rw [cl_call (F := F__law_form) (by kernel_rfl)]
  unfold bodyR
  rw [e__law_form]
  rfl
def b__law_lot (c : Cl) : M Fl :=
  seqS (setM (.nm 2) (newM (lcM (m1 (rg1 (varM 1)) rgI) [3] (.nm 3) (asB (m2 (m1 (consM (varM 0) (consM (constM (.int 2)) nilM)) (callD 2 (c.call "_law_draw"))) (constM (.int 0)) (cmpD .Eq))) (varM 3))))
  (retM (iteM (asB (m2 (m1 (seqM (varM 2)) lenQ) (constM (.int 0)) (cmpD .Gt))) (m1 (seqM (varM 2)) tupQ) (tupM (consM (m1 (consM (varM 0) (consM (varM 1) nilM)) (callD 2 (c.call "_law_draw"))) nilM))))
theorem e__law_lot (c : Cl) : bodyM T c F__law_lot = b__law_lot c := by kernel_rfl
theorem r__law_lot {k : Nat} {a0 a1 : D} {s : S} : (cl (k + 1)).call "_law_lot" [a0, a1] s = (b__law_lot (cl k) [some a0, some a1, none, none] s).bind endR := by
  unfold cl
  rw [cl_call (F := F__law_lot) (by kernel_rfl)]
  unfold bodyR
  rw [e__law_lot]
  rfl
def b__law_box (c : Cl) : M Fl :=
  retM (m1 (lcM (m1 (varM 1) itsD) [2] (.nm 2) yesM (iteM (asB (m2 (m1 (consM (varM 0) (consM (constM (.int 2)) nilM)) (callD 2 (c.call "_law_draw"))) (constM (.int 0)) (cmpD .Eq))) (m1 (rg1 (varM 2)) tupQ) (m1 (consM (varM 0) (consM (varM 2) nilM)) (callD 2 (c.call "_law_lot"))))) tupQ)
theorem e__law_box (c : Cl) : bodyM T c F__law_box = b__law_box c := by kernel_rfl
theorem r__law_box {k : Nat} {a0 a1 : D} {s : S} : (cl (k + 1)).call "_law_box" [a0, a1] s = (b__law_box (cl k) [some a0, some a1, none] s).bind endR := by
  unfold cl
  rw [cl_call (F := F__law_box) (by kernel_rfl)]
  unfold bodyR
  rw [e__law_box]
  rfl
def b__law_rules (c : Cl) : M Fl :=
  retM (m1 (lcM (m1 (rg1 (m1 (consM (varM 0) (consM (m2 (varM 2) (constM (.int 1)) (binD .Add)) nilM)) (callD 2 (c.call "_law_draw")))) rgI) [3] (.nm 3) yesM (m1 (consM (varM 0) (consM (varM 1) nilM)) (callD 2 (c.call "_law_box")))) tupQ)
theorem e__law_rules (c : Cl) : bodyM T c F__law_rules = b__law_rules c := by kernel_rfl
theorem r__law_rules {k : Nat} {a0 a1 a2 : D} {s : S} : (cl (k + 1)).call "_law_rules" [a0, a1, a2] s = (b__law_rules (cl k) [some a0, some a1, some a2, none] s).bind endR := by
  unfold cl
  rw [cl_call (F := F__law_rules) (by kernel_rfl)]
  unfold bodyR
  rw [e__law_rules]
  rfl
def b__law_faults (c : Cl) : M Fl :=
  seqS (setM (.nm 1) (newM (consM (tupM nilM) nilM)))
  (seqS (forM' (m1 (varM 0) itsD) (.nm 2) (seqS (setM (.nm 3) (newM nilM))
  (seqS (forM' (m1 (varM 1) itsD) (.nm 4) (dropM (extM (varM 3) (lcM (m1 (rg1 (varM 2)) rgI) [5] (.nm 5) yesM (m2 (varM 4) (tupM (consM (varM 5) nilM)) (binD .Add))))))
  (setM (.nm 1) (varM 3)))))
  (retM (varM 1)))
theorem e__law_faults (c : Cl) : bodyM T c F__law_faults = b__law_faults c := by kernel_rfl
theorem r__law_faults {k : Nat} {a0 : D} {s : S} : (cl (k + 1)).call "_law_faults" [a0] s = (b__law_faults (cl k) [some a0, none, none, none, none, none] s).bind endR := by
  unfold cl
  rw [cl_call (F := F__law_faults) (by kernel_rfl)]
  unfold bodyR
  rw [e__law_faults]
  rfl
def b__law_held (c : Cl) : M Fl :=
  retM (m1 (lcM (m2 (m1 (varM 0) itsD) (m1 (varM 1) itsD) zipI) [2, 3] (.tp [.nm 2, .nm 3]) yesM (m2 (varM 3) (varM 2) (cmpD .In))) allQ)
theorem e__law_held (c : Cl) : bodyM T c F__law_held = b__law_held c := by kernel_rfl
theorem r__law_held {k : Nat} {a0 a1 : D} {s : S} : (cl (k + 1)).call "_law_held" [a0, a1] s = (b__law_held (cl k) [some a0, some a1, none, none] s).bind endR := by
  unfold cl
  rw [cl_call (F := F__law_held) (by kernel_rfl)]
  unfold bodyR
  rw [e__law_held]
  rfl
def b__law_lawful (c : Cl) : M Fl :=
  retM (newM (lcM (m1 (m1 (consM (varM 0) nilM) (callD 1 (c.call "_law_faults"))) itsD) [2] (.nm 2) (notM (asB (m1 (lcM (m1 (varM 1) itsD) [3] (.nm 3) yesM (m1 (consM (varM 3) (consM (varM 2) nilM)) (callD 2 (c.call "_law_held")))) anyQ))) (varM 2)))
theorem e__law_lawful (c : Cl) : bodyM T c F__law_lawful = b__law_lawful c := by kernel_rfl
theorem r__law_lawful {k : Nat} {a0 a1 : D} {s : S} : (cl (k + 1)).call "_law_lawful" [a0, a1] s = (b__law_lawful (cl k) [some a0, some a1, none, none] s).bind endR := by
  unfold cl
  rw [cl_call (F := F__law_lawful) (by kernel_rfl)]
  unfold bodyR
  rw [e__law_lawful]
  rfl
def b__law_few_book (c : Cl) : M Fl :=
  seqS (forM' (m1 (rg1 (constM (.int 12))) rgI) (.nm 4) (seqS (setM (.nm 5) (m1 (consM (varM 0) (consM (varM 1) (consM (varM 2) nilM))) (callD 3 (c.call "_law_form"))))
  (seqS (setM (.nm 6) (m1 (consM (varM 0) (consM (varM 5) (consM (constM (.int 4)) nilM))) (callD 3 (c.call "_law_rules"))))
  (seqS (setM (.nm 7) (m1 (consM (varM 5) (consM (varM 6) nilM)) (callD 2 (c.call "_law_lawful"))))
  (iteM (asB (chainM (cmpD .Lt) (cmpD .LtE) (constM (.int 0)) (m1 (seqM (varM 7)) lenQ) (varM 3))) (retM (tupM (consM (varM 5) (consM (varM 6) (consM (varM 7) nilM))))) skipM)))))
  (retM (tupM (consM (tupM (consM (constM (.int 2)) nilM)) (consM (tupM nilM) (consM (newM (consM (tupM (consM (constM (.int 0)) nilM)) (consM (tupM (consM (constM (.int 1)) nilM)) nilM))) nilM)))))
theorem e__law_few_book (c : Cl) : bodyM T c F__law_few_book = b__law_few_book c := by kernel_rfl
theorem r__law_few_book {k : Nat} {a0 a1 a2 a3 : D} {s : S} : (cl (k + 1)).call "_law_few_book" [a0, a1, a2, a3] s = (b__law_few_book (cl k) [some a0, some a1, some a2, some a3, none, none, none, none] s).bind endR := by
  unfold cl
  rw [cl_call (F := F__law_few_book) (by kernel_rfl)]
  unfold bodyR
  rw [e__law_few_book]
  rfl
def b__law_talk (c : Cl) : M Fl :=
  seqS (parM [4, 5] (consM (m1 (consM (varM 0) (consM (varM 2) nilM)) (callD 2 (c.call "_law_some"))) (consM (newM nilM) nilM)))
  (seqS (forM' (m1 (rg1 (m1 (consM (varM 0) (consM (m2 (varM 3) (constM (.int 1)) (binD .Add)) nilM)) (callD 2 (c.call "_law_draw")))) rgI) (.nm 6) (seqS (setM (.nm 7) (m1 (consM (varM 0) (consM (m1 (seqM (varM 1)) lenQ) nilM)) (callD 2 (c.call "_law_draw"))))
  (dropM (methM (varM 5) (consM (tupM (consM (varM 7) (consM (iteM (asB (m2 (m1 (consM (varM 0) (consM (constM (.int 4)) nilM)) (callD 2 (c.call "_law_draw"))) (constM (.int 0)) (cmpD .Gt))) (m2 (varM 4) (varM 7) ixD) (m1 (consM (varM 0) (consM (m2 (varM 1) (varM 7) ixD) nilM)) (callD 2 (c.call "_law_draw")))) nilM))) nilM) appD))))
  (retM (iteM (asB (m2 (m1 (consM (varM 0) (consM (constM (.int 2)) nilM)) (callD 2 (c.call "_law_draw"))) (constM (.int 0)) (cmpD .Eq))) (varM 5) (m1 (seqM (varM 5)) tupQ))))
theorem e__law_talk (c : Cl) : bodyM T c F__law_talk = b__law_talk c := by kernel_rfl
theorem r__law_talk {k : Nat} {a0 a1 a2 a3 : D} {s : S} : (cl (k + 1)).call "_law_talk" [a0, a1, a2, a3] s = (b__law_talk (cl k) [some a0, some a1, some a2, some a3, none, none, none, none] s).bind endR := by
  unfold cl
  rw [cl_call (F := F__law_talk) (by kernel_rfl)]
  unfold bodyR
  rw [e__law_talk]
  rfl
def b__law_left (c : Cl) : M Fl :=
  seqS (setM (.nm 3) (newM nilM))
  (seqS (forM' (m1 (varM 0) itsD) (.nm 4) (seqS (setM (.nm 5) (m1 (lcM (m1 (varM 2) itsD) [6, 7] (.tp [.nm 6, .nm 7]) (asB (m2 (m2 (varM 4) (varM 6) ixD) (varM 7) (cmpD .NotEq))) (varM 6)) lenQ))
  (iteM (asB (m2 (varM 5) (varM 1) (cmpD .LtE))) (dropM (methM (varM 3) (consM (tupM (consM (varM 4) (consM (m2 (varM 1) (varM 5) (binD .Sub)) nilM))) nilM) appD)) skipM)))
  (retM (varM 3)))
theorem e__law_left (c : Cl) : bodyM T c F__law_left = b__law_left c := by kernel_rfl
theorem r__law_left {k : Nat} {a0 a1 a2 : D} {s : S} : (cl (k + 1)).call "_law_left" [a0, a1, a2] s = (b__law_left (cl k) [some a0, some a1, some a2, none, none, none, none, none] s).bind endR := by
  unfold cl
  rw [cl_call (F := F__law_left) (by kernel_rfl)]
  unfold bodyR
  rw [e__law_left]
  rfl
def b__law_is (c : Cl) : M Fl :=
  seqS (iteM (asB (m2 (varM 1) (consM (constM (.ty "tuple")) (consM (constM (.ty "list")) nilM)) isiTD)) (seqS (iteM (orM (asB (m2 (m2 (varM 0) (constM (.ty "tuple")) isiD) (m2 (varM 1) (constM (.ty "tuple")) isiD) (cmpD .NotEq))) (asB (m2 (m2 (varM 0) (constM (.ty "list")) isiD) (m2 (varM 1) (constM (.ty "list")) isiD) (cmpD .NotEq)))) (retM (constM (.bl false))) skipM)
  (retM (iteM (asB (m2 (m1 (seqM (varM 0)) lenQ) (m1 (seqM (varM 1)) lenQ) (cmpD .Eq))) (m1 (lcM (m2 (m1 (varM 0) itsD) (m1 (varM 1) itsD) zipI) [2, 3] (.tp [.nm 2, .nm 3]) yesM (m1 (consM (varM 2) (consM (varM 3) nilM)) (callD 2 (c.call "_law_is")))) allQ) (constM (.bl false))))) skipM)
  (seqS (iteM (orM (asB (m2 (varM 1) (constM .non) (cmpD .Is))) (asB (m2 (varM 0) (constM .non) (cmpD .Is)))) (retM (iteM (asB (m2 (varM 1) (constM .non) (cmpD .Is))) (m2 (varM 0) (constM .non) (cmpD .Is)) (constM (.bl false)))) skipM)
  (seqS (iteM (orM (asB (m2 (m2 (varM 0) (constM (.ty "bool")) isiD) (m2 (varM 1) (constM (.ty "bool")) isiD) (cmpD .NotEq))) (asB (m2 (m2 (varM 0) (constM (.ty "int")) isiD) (m2 (varM 1) (constM (.ty "int")) isiD) (cmpD .NotEq)))) (retM (constM (.bl false))) skipM)
  (retM (iteM (asB (m2 (m2 (varM 0) (constM (.ty "str")) isiD) (m2 (varM 1) (constM (.ty "str")) isiD) (cmpD .Eq))) (m2 (varM 0) (varM 1) (cmpD .Eq)) (constM (.bl false))))))
theorem e__law_is (c : Cl) : bodyM T c F__law_is = b__law_is c := by kernel_rfl
theorem r__law_is {k : Nat} {a0 a1 : D} {s : S} : (cl (k + 1)).call "_law_is" [a0, a1] s = (b__law_is (cl k) [some a0, some a1, none, none] s).bind endR := by
  unfold cl
  rw [cl_call (F := F__law_is) (by kernel_rfl)]
  unfold bodyR
  rw [e__law_is]
  rfl
def b__law_mixed (c : Cl) : M Fl :=
  seqS (parM [2, 3] (consM (newM (seqM (varM 1))) (consM (newM nilM) nilM)))
  (seqS (whGo (asB (m2 (m1 (seqM (varM 2)) lenQ) (constM (.int 0)) (cmpD .Gt))) (dropM (methM (varM 3) (consM (methM (varM 2) (consM (m1 (consM (varM 0) (consM (m1 (seqM (varM 2)) lenQ) nilM)) (callD 2 (c.call "_law_draw"))) nilM) popD) nilM) appD)) turns)
  (retM (varM 3)))
theorem e__law_mixed (c : Cl) : bodyM T c F__law_mixed = b__law_mixed c := by kernel_rfl
theorem r__law_mixed {k : Nat} {a0 a1 : D} {s : S} : (cl (k + 1)).call "_law_mixed" [a0, a1] s = (b__law_mixed (cl k) [some a0, some a1, none, none] s).bind endR := by
  unfold cl
  rw [cl_call (F := F__law_mixed) (by kernel_rfl)]
  unfold bodyR
  rw [e__law_mixed]
  rfl
def b__law_answered (c : Cl) : M Fl :=
  seqS (setM (.nm 3) (newM nilM))
  (seqS (forM' (m1 (varM 0) itsD) (.tp [.nm 4, .nm 5]) (iteM (asB (m2 (m2 (varM 4) (varM 1) ixD) (varM 2) (cmpD .Eq))) (dropM (methM (varM 3) (consM (tupM (consM (varM 4) (consM (varM 5) nilM))) nilM) appD)) (iteM (asB (m2 (varM 5) (constM (.int 0)) (cmpD .Gt))) (dropM (methM (varM 3) (consM (tupM (consM (varM 4) (consM (m2 (varM 5) (constM (.int 1)) (binD .Sub)) nilM))) nilM) appD)) skipM)))
  (retM (m1 (seqM (varM 3)) tupQ)))
theorem e__law_answered (c : Cl) : bodyM T c F__law_answered = b__law_answered c := by kernel_rfl
theorem r__law_answered {k : Nat} {a0 a1 a2 : D} {s : S} : (cl (k + 1)).call "_law_answered" [a0, a1, a2] s = (b__law_answered (cl k) [some a0, some a1, some a2, none, none, none] s).bind endR := by
  unfold cl
  rw [cl_call (F := F__law_answered) (by kernel_rfl)]
  unfold bodyR
  rw [e__law_answered]
  rfl
def b__law_common (c : Cl) : M Fl :=
  seqS (iteM (asB (m2 (m1 (seqM (varM 1)) lenQ) (constM (.int 0)) (cmpD .Eq))) (retM (constM .non)) skipM)
  (seqS (setM (.nm 2) (m2 (varM 1) (constM (.int 0)) ixD))
  (retM (m1 (lcM (m1 (rg1 (m1 (seqM (varM 0)) lenQ)) rgI) [3] (.nm 3) yesM (iteM (asB (m1 (lcM (m1 (varM 1) itsD) [4] (.nm 4) yesM (m2 (m2 (varM 4) (varM 3) ixD) (m2 (varM 2) (varM 3) ixD) (cmpD .Eq))) allQ)) (m2 (varM 2) (varM 3) ixD) (constM .non))) tupQ)))
theorem e__law_common (c : Cl) : bodyM T c F__law_common = b__law_common c := by kernel_rfl
theorem r__law_common {k : Nat} {a0 a1 : D} {s : S} : (cl (k + 1)).call "_law_common" [a0, a1] s = (b__law_common (cl k) [some a0, some a1, none, none, none] s).bind endR := by
  unfold cl
  rw [cl_call (F := F__law_common) (by kernel_rfl)]
  unfold bodyR
  rw [e__law_common]
  rfl
def b_law (c : Cl) : M Fl :=
  seqS (setM (.nm 1) (m1 (consM (varM 0) nilM) (callD 1 (c.call "_law_hand"))))
  (seqS (setM (.nm 2) (m1 (consM (tupM (consM (constM (.int 2)) (consM (constM (.int 2)) nilM))) (consM (tupM (consM (tupM (consM (tupM (consM (constM (.int 1)) nilM)) (consM (tupM (consM (constM (.int 1)) nilM)) nilM))) nilM)) nilM)) (makeD "Book" 2 (c.init "Book"))))
  (seqS (iteM (orM (asB (m2 (m1 (consM (varM 2) (consM (constM (.int 1)) (consM (newM (consM (tupM (consM (constM (.int 0)) (consM (constM (.int 1)) nilM))) (consM (tupM (consM (constM (.int 0)) (consM (constM (.int 1)) nilM))) nilM))) nilM))) (callD 3 (c.call "left_by"))) (newM (consM (tupM (consM (tupM (consM (constM (.int 1)) (consM (constM (.int 0)) nilM))) (consM (constM (.int 1)) nilM))) nilM)) (cmpD .NotEq))) (asB (m2 (m1 (consM (varM 2) (consM (constM (.int 0)) (consM (newM (consM (tupM (consM (constM (.int 0)) (consM (constM (.int 1)) nilM))) (consM (tupM (consM (constM (.int 0)) (consM (constM (.int 0)) nilM))) nilM))) nilM))) (callD 3 (c.call "left_by"))) (newM nilM) (cmpD .NotEq)))) (retM (constM (.bl false))) skipM)
  (seqS (forM' (m1 (rg1 (constM (.int 4))) rgI) (.nm 3) (seqS (setM (.tp [.nm 4, .nm 5, .nm 6]) (m1 (consM (varM 1) (consM (constM (.int 3)) (consM (constM (.int 24)) (consM (constM (.int 20)) nilM)))) (callD 4 (c.call "_law_few_book"))))
  (seqS (setM (.tp [.nm 7, .nm 8]) (tupM (consM (m1 (consM (varM 4) (consM (varM 5) nilM)) (makeD "Book" 2 (c.init "Book"))) (consM (m1 (consM (varM 1) (consM (constM (.int 4)) nilM)) (callD 2 (c.call "_law_draw"))) nilM))))
  (seqS (setM (.nm 9) (m1 (consM (varM 1) (consM (varM 4) (consM (varM 6) (consM (constM (.int 8)) nilM)))) (callD 4 (c.call "_law_talk"))))
  (seqS (setM (.nm 10) (m1 (consM (varM 6) (consM (varM 8) (consM (varM 9) nilM))) (callD 3 (c.call "_law_left"))))
  (seqS (setM (.nm 11) (m1 (consM (varM 7) (consM (varM 8) (consM (varM 9) nilM))) (callD 3 (c.call "left_by"))))
  (seqS (iteM (notM (asB (m1 (consM (varM 11) (consM (varM 10) nilM)) (callD 2 (c.call "_law_is"))))) (retM (constM (.bl false))) skipM)
  (seqS (iteM (notM (asB (m1 (consM (m1 (consM (varM 7) (consM (varM 8) (consM (varM 9) nilM))) (callD 3 (c.call "sure_by"))) (consM (m1 (consM (varM 4) (consM (newM (lcM (m1 (varM 10) itsD) [16, 17] (.tp [.nm 16, .nm 17]) yesM (varM 16))) nilM)) (callD 2 (c.call "_law_common"))) nilM)) (callD 2 (c.call "_law_is"))))) (retM (constM (.bl false))) skipM)
  (seqS (iteM (notM (asB (m1 (consM (m1 (consM (varM 7) (consM (varM 8) (consM (m1 (seqM (m1 (consM (varM 1) (consM (varM 9) nilM)) (callD 2 (c.call "_law_mixed")))) tupQ) nilM))) (callD 3 (c.call "left_by"))) (consM (varM 10) nilM)) (callD 2 (c.call "_law_is"))))) (retM (constM (.bl false))) skipM)
  (seqS (setM (.nm 12) (m1 (consM (varM 1) (consM (m1 (seqM (varM 4)) lenQ) nilM)) (callD 2 (c.call "_law_draw"))))
  (seqS (setM (.nm 13) (m1 (consM (varM 1) (consM (m2 (varM 4) (varM 12) ixD) nilM)) (callD 2 (c.call "_law_draw"))))
  (seqS (setM (.nm 14) (m1 (consM (varM 7) (consM (varM 8) (consM (m2 (newM (seqM (varM 9))) (newM (consM (tupM (consM (varM 12) (consM (varM 13) nilM))) nilM)) (binD .Add)) nilM))) (callD 3 (c.call "left_by"))))
  (seqS (iteM (notM (asB (m1 (consM (varM 14) (consM (newM (seqM (m1 (consM (m1 (seqM (varM 10)) tupQ) (consM (varM 12) (consM (varM 13) nilM))) (callD 3 (c.call "_law_answered"))))) nilM)) (callD 2 (c.call "_law_is"))))) (retM (constM (.bl false))) skipM)
  (seqS (iteM (asB (m2 (varM 8) (constM (.int 3)) (cmpD .Lt))) (seqS (setM (.nm 15) (m1 (m1 (m1 (consM (varM 7) (consM (m2 (varM 8) (constM (.int 1)) (binD .Add)) (consM (varM 9) nilM))) (callD 3 (c.call "left_by"))) lsD) dictQ))
  (iteM (notM (asB (m1 (lcM (m1 (varM 10) itsD) [16, 17] (.tp [.nm 16, .nm 17]) yesM (m2 (getM (varM 15) (varM 16)) (m2 (varM 17) (constM (.int 1)) (binD .Add)) (cmpD .Eq))) allQ))) (retM (constM (.bl false))) skipM)) skipM)
  (iteM (notM (asB (m1 (consM (m1 (consM (varM 7) (consM (varM 8) (consM (tupM nilM) nilM))) (callD 3 (c.call "left_by"))) (consM (newM (lcM (m1 (varM 6) itsD) [16] (.nm 16) yesM (tupM (consM (varM 16) (consM (varM 8) nilM))))) nilM)) (callD 2 (c.call "_law_is"))))) (retM (constM (.bl false))) skipM)))))))))))))))
  (retM (constM (.bl true))))))
theorem e_law (c : Cl) : bodyM T c F_law = b_law c := by kernel_rfl
theorem r_law {k : Nat} {a0 : D} {s : S} : (cl (k + 1)).call "law" [a0] s = (b_law (cl k) [some a0, none, none, none, none, none, none, none, none, none, none, none, none, none, none, none, none, none] s).bind endR := by
  unfold cl
  rw [cl_call (F := F_law) (by kernel_rfl)]
  unfold bodyR
  rw [e_law]
  rfl
def b_Book_init (c : Cl) : M Fl :=
  seqS (iteM (notM (asB (m1 (consM (varM 1) nilM) (callD 1 (c.call "is_form"))))) badF skipM)
  (seqS (iteM (orM (notM (asB (m1 (consM (varM 1) (consM (varM 2) nilM)) (callD 2 (c.call "are_rules"))))) (notM (asB (m1 (consM (varM 2) (consM (constM (.int 0)) (consM (constM (.int 40)) nilM))) (callD 3 (c.call "is_tuple")))))) badF skipM)
  (seqS (setAs [⟨attrOk T "form", "form", varM 0⟩, ⟨attrOk T "rules", "rules", varM 0⟩] (consM (varM 1) (consM (varM 2) nilM)))
  (setFM (attrOk T "listed") "listed" (constM .non) (varM 0))))
theorem e_Book_init (c : Cl) : bodyM T c C_Book = b_Book_init c := by kernel_rfl
theorem r_Book_init {k : Nat} {a0 a1 a2 : D} {s : S} : (cl (k + 2)).init "Book" [a0, a1, a2] s = (b_Book_init (cl k) [some a0, some a1, some a2] s).bind endR := by
  unfold cl
  rw [cl_init (F := C_Book) (by kernel_rfl)]
  unfold bodyR
  rw [e_Book_init]
  rfl
end Law_k72

set_option Elab.async false
set_option maxRecDepth 100000
set_option linter.all false
set_option maxHeartbeats 1000000
namespace Law_k72
open PySem L2 Mini
section
variable {k : Nat} {s : S}
theorem s_is_integer {i : Int} : (cl (k + 1)).call "is_integer" [.int i] s = .ok (.bl true) s := by
  rw [r_is_integer]
  apply W_eq
  unfold b_is_integer
  simp only [W_ok, W_m1, W_m2, W_m3, W_const, W_var, W_nil, W_cons, W_tup, W_new, W_asB, W_boolD, W_ofB, W_ite, W_not, W_and, W_or, W_chain, W_seqM, W_oNone, W_oSome, W_skip, W_brk, W_cnt, W_badF, W_seq, W_drop, W_ret, W_setN, W_set, W_par, parGo, W_setI, W_setF, W_setAs, W_meth, W_endR, W_for, W_lc, W_ext, W_rg1, rgIE, itsI, seqI, isiI, isiBl, isiNo, W_call, List.getElem?_cons_succ, List.getElem?_cons_zero, Option.getD_some, List.set_cons_succ, List.set_cons_zero, List.length_cons, List.length_nil, Nat.reduceAdd, Nat.zero_add, Nat.reduceEqDiff, Tset1, Tset2, Tset3, wipeE, cmpD, isN, isNN, eqN, eqI, neI, eqB, neB, ltI, leI, addI, subI, intI, seqT, lenE, tupE, eqT, neT, inT, allE, anyE, isiTup, isiInt, itsT, okB, isiB]
  simp
theorem s_is_within {i a b : Int} : (cl (k + 2)).call "is_within" [.int i, .int a, .int b] s = .ok (.bl (decide (a ≤ i) && decide (i ≤ b))) s := by
  rw [r_is_within]
  apply W_eq
  unfold b_is_within
  simp only [W_ok, W_m1, W_m2, W_m3, W_const, W_var, W_nil, W_cons, W_tup, W_new, W_asB, W_boolD, W_ofB, W_ite, W_not, W_and, W_or, W_chain, W_seqM, W_oNone, W_oSome, W_skip, W_brk, W_cnt, W_badF, W_seq, W_drop, W_ret, W_setN, W_set, W_par, parGo, W_setI, W_setF, W_setAs, W_meth, W_endR, W_for, W_lc, W_ext, W_rg1, rgIE, itsI, seqI, isiI, isiBl, isiNo, W_call, List.getElem?_cons_succ, List.getElem?_cons_zero, Option.getD_some, List.set_cons_succ, List.set_cons_zero, List.length_cons, List.length_nil, Nat.reduceAdd, Nat.zero_add, Nat.reduceEqDiff, Tset1, Tset2, Tset3, wipeE, cmpD, isN, isNN, eqN, eqI, neI, eqB, neB, ltI, leI, addI, subI, intI, seqT, lenE, tupE, eqT, neT, inT, allE, anyE, isiTup, isiInt, itsT, okB, isiB, s_is_integer]
  by_cases h : a ≤ i <;> simp [h]
theorem s_is_tuple {ds : List D} {a b : Int} : (cl (k + 1)).call "is_tuple" [.tup ds, .int a, .int b] s = .ok (.bl (decide (a ≤ ds.length) && decide ((ds.length : Int) ≤ b))) s := by
  rw [r_is_tuple]
  apply W_eq
  unfold b_is_tuple
  simp only [W_ok, W_m1, W_m2, W_m3, W_const, W_var, W_nil, W_cons, W_tup, W_new, W_asB, W_boolD, W_ofB, W_ite, W_not, W_and, W_or, W_chain, W_seqM, W_oNone, W_oSome, W_skip, W_brk, W_cnt, W_badF, W_seq, W_drop, W_ret, W_setN, W_set, W_par, parGo, W_setI, W_setF, W_setAs, W_meth, W_endR, W_for, W_lc, W_ext, W_rg1, rgIE, itsI, seqI, isiI, isiBl, isiNo, W_call, List.getElem?_cons_succ, List.getElem?_cons_zero, Option.getD_some, List.set_cons_succ, List.set_cons_zero, List.length_cons, List.length_nil, Nat.reduceAdd, Nat.zero_add, Nat.reduceEqDiff, Tset1, Tset2, Tset3, wipeE, cmpD, isN, isNN, eqN, eqI, neI, eqB, neB, ltI, leI, addI, subI, intI, seqT, lenE, tupE, eqT, neT, inT, allE, anyE, isiTup, isiInt, itsT, okB, isiB]
  by_cases h : a ≤ ds.length <;> simp [h]
theorem isiTR {ds : List D} : isiTD (.tup ds) [.ty "list", .ty "tuple"] s = .ok (.bl true) s := rfl
theorem isiLR {n : Nat} {xs : List D} (h : s[n]? = some (.lst xs)) : isiTD (.ref n) [.ty "list", .ty "tuple"] s = .ok (.bl true) s := by
  unfold isiTD tyD
  simp only
  rw [h]
  rfl
theorem s_is_row {ds : List D} {a b : Int} : (cl (k + 1)).call "is_row" [.tup ds, .int a, .int b] s = .ok (.bl (decide (a ≤ ds.length) && decide ((ds.length : Int) ≤ b))) s := by
  rw [r_is_row]
  apply W_eq
  unfold b_is_row
  simp only [W_ok, W_m1, W_m2, W_m3, W_const, W_var, W_nil, W_cons, W_tup, W_new, W_asB, W_boolD, W_ofB, W_ite, W_not, W_and, W_or, W_chain, W_seqM, W_oNone, W_oSome, W_skip, W_brk, W_cnt, W_badF, W_seq, W_drop, W_ret, W_setN, W_set, W_par, parGo, W_setI, W_setF, W_setAs, W_meth, W_endR, W_for, W_lc, W_ext, W_rg1, rgIE, itsI, seqI, isiI, isiBl, isiNo, W_call, List.getElem?_cons_succ, List.getElem?_cons_zero, Option.getD_some, List.set_cons_succ, List.set_cons_zero, List.length_cons, List.length_nil, Nat.reduceAdd, Nat.zero_add, Nat.reduceEqDiff, Tset1, Tset2, Tset3, wipeE, cmpD, isN, isNN, eqN, eqI, neI, eqB, neB, ltI, leI, addI, subI, intI, seqT, lenE, tupE, eqT, neT, inT, allE, anyE, isiTup, isiInt, itsT, okB, isiB, isiTR]
  by_cases h : a ≤ ds.length <;> simp [h]
theorem s_is_rowL {n : Nat} {ds : List D} {a b : Int} (hn : s[n]? = some (.lst ds)) : (cl (k + 1)).call "is_row" [.ref n, .int a, .int b] s = .ok (.bl (decide (a ≤ ds.length) && decide ((ds.length : Int) ≤ b))) s := by
  rw [r_is_row]
  apply W_eq
  unfold b_is_row
  simp only [W_ok, W_m1, W_m2, W_m3, W_const, W_var, W_nil, W_cons, W_tup, W_new, W_asB, W_boolD, W_ofB, W_ite, W_not, W_and, W_or, W_chain, W_seqM, W_oNone, W_oSome, W_skip, W_brk, W_cnt, W_badF, W_seq, W_drop, W_ret, W_setN, W_set, W_par, parGo, W_setI, W_setF, W_setAs, W_meth, W_endR, W_for, W_lc, W_ext, W_rg1, rgIE, itsI, seqI, isiI, isiBl, isiNo, W_call, List.getElem?_cons_succ, List.getElem?_cons_zero, Option.getD_some, List.set_cons_succ, List.set_cons_zero, List.length_cons, List.length_nil, Nat.reduceAdd, Nat.zero_add, Nat.reduceEqDiff, Tset1, Tset2, Tset3, wipeE, cmpD, isN, isNN, eqN, eqI, neI, eqB, neB, ltI, leI, addI, subI, intI, seqT, lenE, tupE, eqT, neT, inT, allE, anyE, isiTup, isiInt, itsT, okB, isiB, isiLR hn, seqL hn]
  by_cases h : a ≤ ds.length <;> simp [h]
/-- a lot: ascending values of a field -/
def Lot (n : Int) (l : List Int) : Prop := (∀ v ∈ l, 0 ≤ v ∧ v < n) ∧ l.Pairwise (· < ·)
theorem cut1 {ds : List D} : cutD ds (some 1) none = ds.drop 1 := by
  unfold cutD
  have e1 : HT.sIx ds.length 0 (some 1) = min 1 ds.length := HT.sIx_nat ds.length 0 1
  have e2 : HT.sIx ds.length ds.length none = ds.length := rfl
  rw [e1, e2]
  cases ds with
  | nil => rfl
  | cons d ds =>
    have : min 1 (d :: ds).length = 1 := by simp
    rw [this]
    apply List.take_of_length_le
    simp
theorem asc_zip : ∀ l : List Int, l.Pairwise (· < ·) → ∀ p ∈ l.zip (l.drop 1), p.1 < p.2
  | [], _, p, h => by cases h
  | [x], _, p, h => by cases h
  | x :: y :: l, h, p, hp => by
    have hp : p ∈ (x, y) :: (y :: l).zip ((y :: l).drop 1) := by simpa using hp
    rcases List.mem_cons.mp hp with rfl | hp
    · exact (List.pairwise_cons.mp h).1 y List.mem_cons_self
    · exact asc_zip (y :: l) (List.pairwise_cons.mp h).2 p hp
theorem s_is_lot {l : List Int} {n : Int} (h : Lot n l) (hl : l.length ≤ 1000) : (cl (k + 3)).call "is_lot" [iT l, .int n] s = .ok (.bl true) s := by
  rw [r_is_lot]
  apply W_eq
  unfold b_is_lot iT
  simp only [W_ok, W_m1, W_m2, W_m3, W_const, W_var, W_nil, W_cons, W_tup, W_new, W_asB, W_boolD, W_ofB, W_ite, W_not, W_and, W_or, W_chain, W_seqM, W_oNone, W_oSome, W_skip, W_brk, W_cnt, W_badF, W_seq, W_drop, W_ret, W_setN, W_set, W_par, parGo, W_setI, W_setF, W_setAs, W_meth, W_endR, W_for, W_lc, W_ext, W_rg1, rgIE, itsI, seqI, isiI, isiBl, isiNo, W_call, List.getElem?_cons_succ, List.getElem?_cons_zero, Option.getD_some, List.set_cons_succ, List.set_cons_zero, List.length_cons, List.length_nil, Nat.reduceAdd, Nat.zero_add, Nat.reduceEqDiff, Tset1, Tset2, Tset3, wipeE, cmpD, isN, isNN, eqN, eqI, neI, eqB, neB, ltI, leI, addI, subI, intI, seqT, lenE, tupE, eqT, neT, inT, allE, anyE, isiTup, isiInt, itsT, okB, isiB, W_lc, slD, cut1]
  simp only [if_true, if_false, Bool.not_true, Bool.false_eq_true]
  refine ⟨size_ok (by simp; omega), W_of_eq (lcGo_all watch_nil _ (fun v => .bl (decide (0 ≤ v) && decide (v ≤ n - 1))) l fun v hv => ⟨_, rfl, ?_⟩) ?_⟩
  · simp only [W_ok, W_m1, W_m2, W_m3, W_const, W_var, W_nil, W_cons, W_tup, W_new, W_asB, W_boolD, W_ofB, W_ite, W_not, W_and, W_or, W_chain, W_seqM, W_oNone, W_oSome, W_skip, W_brk, W_cnt, W_badF, W_seq, W_drop, W_ret, W_setN, W_set, W_par, parGo, W_setI, W_setF, W_setAs, W_meth, W_endR, W_for, W_lc, W_ext, W_rg1, rgIE, itsI, seqI, isiI, isiBl, isiNo, W_call, List.getElem?_cons_succ, List.getElem?_cons_zero, Option.getD_some, List.set_cons_succ, List.set_cons_zero, List.length_cons, List.length_nil, Nat.reduceAdd, Nat.zero_add, Nat.reduceEqDiff, Tset1, Tset2, Tset3, wipeE, cmpD, isN, isNN, eqN, eqI, neI, eqB, neB, ltI, leI, addI, subI, intI, seqT, lenE, tupE, eqT, neT, inT, allE, anyE, isiTup, isiInt, itsT, okB, isiB, s_is_within]
    simp
  · rw [allG]
    have : (l.all fun v => decide (0 ≤ v) && decide (v ≤ n - 1)) = true := by
      rw [List.all_eq_true]
      intro v hv
      have := h.1 v hv
      simp
      omega
    simp only [W_ok, W_m1, W_m2, W_m3, W_const, W_var, W_nil, W_cons, W_tup, W_new, W_asB, W_boolD, W_ofB, W_ite, W_not, W_and, W_or, W_chain, W_seqM, W_oNone, W_oSome, W_skip, W_brk, W_cnt, W_badF, W_seq, W_drop, W_ret, W_setN, W_set, W_par, parGo, W_setI, W_setF, W_setAs, W_meth, W_endR, W_for, W_lc, W_ext, W_rg1, rgIE, itsI, seqI, isiI, isiBl, isiNo, W_call, List.getElem?_cons_succ, List.getElem?_cons_zero, Option.getD_some, List.set_cons_succ, List.set_cons_zero, List.length_cons, List.length_nil, Nat.reduceAdd, Nat.zero_add, Nat.reduceEqDiff, Tset1, Tset2, Tset3, wipeE, cmpD, isN, isNN, eqN, eqI, neI, eqB, neB, ltI, leI, addI, subI, intI, seqT, lenE, tupE, eqT, neT, inT, allE, anyE, isiTup, isiInt, itsT, okB, isiB, this, ← List.map_drop, zip_its]
    simp only [if_true, if_false, Bool.not_true, Bool.false_eq_true]
    refine ⟨size_ok (by simp; omega), W_of_eq (lcGo_all watch_nil _ (fun p => .bl (decide (p.1 < p.2))) _ fun v hv => ⟨_, rfl, ?_⟩) ?_⟩
    · simp only [W_ok, W_m1, W_m2, W_m3, W_const, W_var, W_nil, W_cons, W_tup, W_new, W_asB, W_boolD, W_ofB, W_ite, W_not, W_and, W_or, W_chain, W_seqM, W_oNone, W_oSome, W_skip, W_brk, W_cnt, W_badF, W_seq, W_drop, W_ret, W_setN, W_set, W_par, parGo, W_setI, W_setF, W_setAs, W_meth, W_endR, W_for, W_lc, W_ext, W_rg1, rgIE, itsI, seqI, isiI, isiBl, isiNo, W_call, List.getElem?_cons_succ, List.getElem?_cons_zero, Option.getD_some, List.set_cons_succ, List.set_cons_zero, List.length_cons, List.length_nil, Nat.reduceAdd, Nat.zero_add, Nat.reduceEqDiff, Tset1, Tset2, Tset3, wipeE, cmpD, isN, isNN, eqN, eqI, neI, eqB, neB, ltI, leI, addI, subI, intI, seqT, lenE, tupE, eqT, neT, inT, allE, anyE, isiTup, isiInt, itsT, okB, isiB]
      simp
    · rw [allG]
      have : ((l.zip (l.drop 1)).all fun p => decide (p.1 < p.2)) = true := by
        rw [List.all_eq_true]
        intro v hv
        simpa using asc_zip l h.2 v hv
      simp only [W_ok, W_m1, W_m2, W_m3, W_const, W_var, W_nil, W_cons, W_tup, W_new, W_asB, W_boolD, W_ofB, W_ite, W_not, W_and, W_or, W_chain, W_seqM, W_oNone, W_oSome, W_skip, W_brk, W_cnt, W_badF, W_seq, W_drop, W_ret, W_setN, W_set, W_par, parGo, W_setI, W_setF, W_setAs, W_meth, W_endR, W_for, W_lc, W_ext, W_rg1, rgIE, itsI, seqI, isiI, isiBl, isiNo, W_call, List.getElem?_cons_succ, List.getElem?_cons_zero, Option.getD_some, List.set_cons_succ, List.set_cons_zero, List.length_cons, List.length_nil, Nat.reduceAdd, Nat.zero_add, Nat.reduceEqDiff, Tset1, Tset2, Tset3, wipeE, cmpD, isN, isNN, eqN, eqI, neI, eqB, neB, ltI, leI, addI, subI, intI, seqT, lenE, tupE, eqT, neT, inT, allE, anyE, isiTup, isiInt, itsT, okB, isiB, this]
      simp
theorem w_held (c : Cl) {box : List (List Int)} {f : List Int} (hl : box.length ≤ 1000) : (b_held c [some (.tup (box.map iT)), some (iT f), none, none] s).bind endR = .ok (.bl ((box.zip f).all fun p => decide (p.2 ∈ p.1))) s := by
  apply W_eq
  unfold b_held
  rw [show iT f = .tup (f.map .int) from rfl]
  simp only [W_ok, W_m1, W_m2, W_m3, W_const, W_var, W_nil, W_cons, W_tup, W_new, W_asB, W_boolD, W_ofB, W_ite, W_not, W_and, W_or, W_chain, W_seqM, W_oNone, W_oSome, W_skip, W_brk, W_cnt, W_badF, W_seq, W_drop, W_ret, W_setN, W_set, W_par, parGo, W_setI, W_setF, W_setAs, W_meth, W_endR, W_for, W_lc, W_ext, W_rg1, rgIE, itsI, seqI, isiI, isiBl, isiNo, W_call, List.getElem?_cons_succ, List.getElem?_cons_zero, Option.getD_some, List.set_cons_succ, List.set_cons_zero, List.length_cons, List.length_nil, Nat.reduceAdd, Nat.zero_add, Nat.reduceEqDiff, Tset1, Tset2, Tset3, wipeE, cmpD, isN, isNN, eqN, eqI, neI, eqB, neB, ltI, leI, addI, subI, intI, seqT, lenE, tupE, eqT, neT, inT, allE, anyE, isiTup, isiInt, itsT, okB, isiB, W_lc, zip_its]
  refine ⟨size_ok (by simp; omega), W_of_eq (lcGo_all watch_nil _ (fun p => .bl (decide (p.2 ∈ p.1))) _ fun p hp => ⟨_, rfl, ?_⟩) ?_⟩
  · simp only [W_ok, W_m1, W_m2, W_m3, W_const, W_var, W_nil, W_cons, W_tup, W_new, W_asB, W_boolD, W_ofB, W_ite, W_not, W_and, W_or, W_chain, W_seqM, W_oNone, W_oSome, W_skip, W_brk, W_cnt, W_badF, W_seq, W_drop, W_ret, W_setN, W_set, W_par, parGo, W_setI, W_setF, W_setAs, W_meth, W_endR, W_for, W_lc, W_ext, W_rg1, rgIE, itsI, seqI, isiI, isiBl, isiNo, W_call, List.getElem?_cons_succ, List.getElem?_cons_zero, Option.getD_some, List.set_cons_succ, List.set_cons_zero, List.length_cons, List.length_nil, Nat.reduceAdd, Nat.zero_add, Nat.reduceEqDiff, Tset1, Tset2, Tset3, wipeE, cmpD, isN, isNN, eqN, eqI, neI, eqB, neB, ltI, leI, addI, subI, intI, seqT, lenE, tupE, eqT, neT, inT, allE, anyE, isiTup, isiInt, itsT, okB, isiB]
    simp
  · simp only [W_ok, W_m1, W_m2, W_m3, W_const, W_var, W_nil, W_cons, W_tup, W_new, W_asB, W_boolD, W_ofB, W_ite, W_not, W_and, W_or, W_chain, W_seqM, W_oNone, W_oSome, W_skip, W_brk, W_cnt, W_badF, W_seq, W_drop, W_ret, W_setN, W_set, W_par, parGo, W_setI, W_setF, W_setAs, W_meth, W_endR, W_for, W_lc, W_ext, W_rg1, rgIE, itsI, seqI, isiI, isiBl, isiNo, W_call, List.getElem?_cons_succ, List.getElem?_cons_zero, Option.getD_some, List.set_cons_succ, List.set_cons_zero, List.length_cons, List.length_nil, Nat.reduceAdd, Nat.zero_add, Nat.reduceEqDiff, Tset1, Tset2, Tset3, wipeE, cmpD, isN, isNN, eqN, eqI, neI, eqB, neB, ltI, leI, addI, subI, intI, seqT, lenE, tupE, eqT, neT, inT, allE, anyE, isiTup, isiInt, itsT, okB, isiB, allG]
    simp
theorem s_held {box : List (List Int)} {f : List Int} (hl : box.length ≤ 1000) : (cl (k + 1)).call "held" [.tup (box.map iT), iT f] s = .ok (.bl ((box.zip f).all fun p => decide (p.2 ∈ p.1))) s := by
  rw [r_held]
  exact w_held _ hl
theorem s__law_held {box : List (List Int)} {f : List Int} (hl : box.length ≤ 1000) : (cl (k + 1)).call "_law_held" [.tup (box.map iT), iT f] s = .ok (.bl ((box.zip f).all fun p => decide (p.2 ∈ p.1))) s := by
  rw [r__law_held]
  exact w_held (cl k) hl
end
end Law_k72

set_option Elab.async false
set_option maxRecDepth 100000
set_option linter.all false
set_option maxHeartbeats 1000000
namespace Law_k72
open PySem L2 Mini
/-! the faults of a form -/
def stepF (found : List (List Int)) (n : Int) : List (List Int) := found.flatMap fun f => (upto n).map fun (v : Nat) => f ++ [(v : Int)]
def allF (form : List Int) : List (List Int) := form.foldl stepF [[]]
def prodF (form : List Int) : Nat := (form.map Int.toNat).foldr (· * ·) 1
structure Form (form : List Int) : Prop where
  len1 : 1 ≤ form.length
  len8 : form.length ≤ 8
  val : ∀ n ∈ form, 2 ≤ n ∧ n ≤ 6
  prod : prodF form ≤ 4000
theorem upto_len {n : Int} : (upto n).length = n.toNat := by simp [upto]
theorem len_flat {α β : Type} {f : α → List β} {n : Nat} (h : ∀ a, (f a).length = n) : ∀ l : List α, (l.flatMap f).length = l.length * n
  | [] => by simp
  | a :: l => by
    rw [List.flatMap_cons, List.length_append, h, len_flat h l, List.length_cons, Nat.add_mul, Nat.one_mul, Nat.add_comm]
theorem stepF_len {found : List (List Int)} {n : Int} : (stepF found n).length = found.length * n.toNat := len_flat (fun f => by simp [upto_len]) found
theorem prodF_cons {n : Int} {form : List Int} : prodF (n :: form) = n.toNat * prodF form := rfl
theorem prodF_pos : ∀ {form : List Int}, (∀ n ∈ form, 2 ≤ n ∧ n ≤ 6) → 1 ≤ prodF form
  | [], _ => Nat.le_refl _
  | n :: form, h => by
    have ih := prodF_pos (form := form) fun m hm => h m (List.mem_cons_of_mem _ hm)
    have := h n List.mem_cons_self
    rw [prodF_cons]
    exact Nat.mul_pos (by omega) ih
section
variable {k : Nat} {s : S}
theorem w_all_faults (c : Cl) {form : List Int} (hf : Form form) : W ((b_all_faults c [some (iT form), none, none, none, none, none] s).bind endR) fun d s' => ∃ n, d = .ref n ∧ s'[n]? = some (.lst ((allF form).map iT)) ∧ Fr No s s' ∧ s.length ≤ n := by
  unfold b_all_faults
  simp only [W_ok, W_m1, W_m2, W_m3, W_const, W_var, W_nil, W_cons, W_tup, W_new, W_asB, W_boolD, W_ofB, W_ite, W_not, W_and, W_or, W_chain, W_seqM, W_oNone, W_oSome, W_skip, W_brk, W_cnt, W_badF, W_seq, W_drop, W_ret, W_setN, W_set, W_par, parGo, W_setI, W_setF, W_setAs, W_meth, W_endR, W_for, W_lc, W_ext, W_rg1, rgIE, itsI, seqI, isiI, isiBl, isiNo, W_call, List.getElem?_cons_succ, List.getElem?_cons_zero, Option.getD_some, List.set_cons_succ, List.set_cons_zero, List.length_cons, List.length_nil, Nat.reduceAdd, Nat.zero_add, Nat.reduceEqDiff, Tset1, Tset2, Tset3, wipeE, cmpD, isN, isNN, eqN, eqI, neI, eqB, neB, ltI, leI, addI, subI, intI, seqT, lenE, tupE, eqT, neT, inT, allE, anyE, isiTup, isiInt, itsT, okB, isiB]
  refine W_goT D.int (fun rest env s' => ∃ n found d2 d3 d4 d5, env = [some (iT form), some (.ref n), d2, d3, d4, d5] ∧ s'[n]? = some (.lst (found.map iT)) ∧ rest.foldl stepF found = allF form ∧ Fr No s s' ∧ s.length ≤ n ∧ found.length * prodF rest ≤ 4000 ∧
      (∀ f ∈ found, f.length + rest.length ≤ 8) ∧ ∀ m ∈ rest, 2 ≤ m ∧ m ≤ 6) ?_ ?_ form _ _ ?_
  · rintro env s' ⟨n, found, d2, d3, d4, d5, rfl, h1, h2, h3, h4, _⟩
    simp only [W_ok, W_m1, W_m2, W_m3, W_const, W_var, W_nil, W_cons, W_tup, W_new, W_asB, W_boolD, W_ofB, W_ite, W_not, W_and, W_or, W_chain, W_seqM, W_oNone, W_oSome, W_skip, W_brk, W_cnt, W_badF, W_seq, W_drop, W_ret, W_setN, W_set, W_par, parGo, W_setI, W_setF, W_setAs, W_meth, W_endR, W_for, W_lc, W_ext, W_rg1, rgIE, itsI, seqI, isiI, isiBl, isiNo, W_call, List.getElem?_cons_succ, List.getElem?_cons_zero, Option.getD_some, List.set_cons_succ, List.set_cons_zero, List.length_cons, List.length_nil, Nat.reduceAdd, Nat.zero_add, Nat.reduceEqDiff, Tset1, Tset2, Tset3, wipeE, cmpD, isN, isNN, eqN, eqI, neI, eqB, neB, ltI, leI, addI, subI, intI, seqT, lenE, tupE, eqT, neT, inT, allE, anyE, isiTup, isiInt, itsT, okB, isiB]
    exact ⟨n, rfl, by rw [h1, ← h2]; rfl, h3, h4⟩
  · rintro m rest env s1 ⟨n, found, d2, d3, d4, d5, rfl, h1, h2, h3, h4, h5, h6, h7⟩
    refine ⟨_, rfl, ?_⟩
    have hm := h7 m List.mem_cons_self
    have hp : 1 ≤ prodF rest := prodF_pos fun x hx => h7 x (List.mem_cons_of_mem _ hx)
    have hb : found.length * m.toNat ≤ 4000 := by
      rw [prodF_cons, ← Nat.mul_assoc] at h5
      exact Nat.le_trans (Nat.le_mul_of_pos_right _ hp) h5
    simp only [W_ok, W_m1, W_m2, W_m3, W_const, W_var, W_nil, W_cons, W_tup, W_new, W_asB, W_boolD, W_ofB, W_ite, W_not, W_and, W_or, W_chain, W_seqM, W_oNone, W_oSome, W_skip, W_brk, W_cnt, W_badF, W_seq, W_drop, W_ret, W_setN, W_set, W_par, parGo, W_setI, W_setF, W_setAs, W_meth, W_endR, W_for, W_lc, W_ext, W_rg1, rgIE, itsI, seqI, isiI, isiBl, isiNo, W_call, List.getElem?_cons_succ, List.getElem?_cons_zero, Option.getD_some, List.set_cons_succ, List.set_cons_zero, List.length_cons, List.length_nil, Nat.reduceAdd, Nat.zero_add, Nat.reduceEqDiff, Tset1, Tset2, Tset3, wipeE, cmpD, isN, isNN, eqN, eqI, neI, eqB, neB, ltI, leI, addI, subI, intI, seqT, lenE, tupE, eqT, neT, inT, allE, anyE, isiTup, isiInt, itsT, okB, isiB, itsL (at_old h1)]
    refine W_goT iT (fun rest2 env s' => ∃ acc d4 d5, env = [some (iT form), some (.ref n), some (.int m), some (.ref s1.length), d4, d5] ∧ s'[n]? = some (.lst (found.map iT)) ∧ s'[s1.length]? = some (.lst (acc.map iT)) ∧ acc ++ stepF rest2 m = stepF found m ∧ Fr No s1 s' ∧
      acc.length + rest2.length * m.toNat ≤ 4000 ∧ ∀ f ∈ rest2, f.length + (rest.length + 1) ≤ 8) ?_ ?_ found _ _ ?_
    · rintro env s2 ⟨acc, d4, d5, rfl, g1, g2, g3, g4, g5, g6⟩
      simp only [W_ok, W_m1, W_m2, W_m3, W_const, W_var, W_nil, W_cons, W_tup, W_new, W_asB, W_boolD, W_ofB, W_ite, W_not, W_and, W_or, W_chain, W_seqM, W_oNone, W_oSome, W_skip, W_brk, W_cnt, W_badF, W_seq, W_drop, W_ret, W_setN, W_set, W_par, parGo, W_setI, W_setF, W_setAs, W_meth, W_endR, W_for, W_lc, W_ext, W_rg1, rgIE, itsI, seqI, isiI, isiBl, isiNo, W_call, List.getElem?_cons_succ, List.getElem?_cons_zero, Option.getD_some, List.set_cons_succ, List.set_cons_zero, List.length_cons, List.length_nil, Nat.reduceAdd, Nat.zero_add, Nat.reduceEqDiff, Tset1, Tset2, Tset3, wipeE, cmpD, isN, isNN, eqN, eqI, neI, eqB, neB, ltI, leI, addI, subI, intI, seqT, lenE, tupE, eqT, neT, inT, allE, anyE, isiTup, isiInt, itsT, okB, isiB]
      refine ⟨rfl, s1.length, acc, _, _, _, _, rfl, g2, ?_, h3.trans g4, Nat.le_trans h3.len (Nat.le_refl _), ?_, ?_, fun x hx => h7 x (List.mem_cons_of_mem _ hx)⟩
      · have : acc = stepF found m := by simpa [stepF] using g3
        rw [this]
        exact h2
      · have : acc = stepF found m := by simpa [stepF] using g3
        rw [this, stepF_len, Nat.mul_assoc]
        exact h5
      · have : acc = stepF found m := by simpa [stepF] using g3
        rw [this]
        intro f hf
        unfold stepF at hf
        rw [List.mem_flatMap] at hf
        obtain ⟨g, hg, hf⟩ := hf
        rw [List.mem_map] at hf
        obtain ⟨v, _, rfl⟩ := hf
        have := h6 g hg
        simp at this ⊢
        omega
    · rintro f rest2 env s2 ⟨acc, d4, d5, rfl, g1, g2, g3, g4, g5, g6⟩
      refine ⟨_, rfl, ?_⟩
      have hfl := g6 f List.mem_cons_self
      simp only [W_ok, W_m1, W_m2, W_m3, W_const, W_var, W_nil, W_cons, W_tup, W_new, W_asB, W_boolD, W_ofB, W_ite, W_not, W_and, W_or, W_chain, W_seqM, W_oNone, W_oSome, W_skip, W_brk, W_cnt, W_badF, W_seq, W_drop, W_ret, W_setN, W_set, W_par, parGo, W_setI, W_setF, W_setAs, W_meth, W_endR, W_for, W_lc, W_ext, W_rg1, rgIE, itsI, seqI, isiI, isiBl, isiNo, W_call, List.getElem?_cons_succ, List.getElem?_cons_zero, Option.getD_some, List.set_cons_succ, List.set_cons_zero, List.length_cons, List.length_nil, Nat.reduceAdd, Nat.zero_add, Nat.reduceEqDiff, Tset1, Tset2, Tset3, wipeE, cmpD, isN, isNN, eqN, eqI, neI, eqB, neB, ltI, leI, addI, subI, intI, seqT, lenE, tupE, eqT, neT, inT, allE, anyE, isiTup, isiInt, itsT, okB, isiB, isL g2, rgN (n := m) (by omega) (by omega)]
      refine ⟨trivial, by simp [upto_len]; rw [sizeLine_eq]; omega, W_of_eq (lcGo_all watch_nil nI (fun v => iT (f ++ [(v : Int)])) (upto m) fun v hv => ⟨_, rfl, ?_⟩) ?_⟩
      · simp only [W_ok, W_m1, W_m2, W_m3, W_const, W_var, W_nil, W_cons, W_tup, W_new, W_asB, W_boolD, W_ofB, W_ite, W_not, W_and, W_or, W_chain, W_seqM, W_oNone, W_oSome, W_skip, W_brk, W_cnt, W_badF, W_seq, W_drop, W_ret, W_setN, W_set, W_par, parGo, W_setI, W_setF, W_setAs, W_meth, W_endR, W_for, W_lc, W_ext, W_rg1, rgIE, itsI, seqI, isiI, isiBl, isiNo, W_call, List.getElem?_cons_succ, List.getElem?_cons_zero, Option.getD_some, List.set_cons_succ, List.set_cons_zero, List.length_cons, List.length_nil, Nat.reduceAdd, Nat.zero_add, Nat.reduceEqDiff, Tset1, Tset2, Tset3, wipeE, cmpD, isN, isNN, eqN, eqI, neI, eqB, neB, ltI, leI, addI, subI, intI, seqT, lenE, tupE, eqT, neT, inT, allE, anyE, isiTup, isiInt, itsT, okB, isiB]
        unfold nI
        rw [addI1 (by rw [sizeLine_eq]; omega)]
        simp only [W_ok, W_m1, W_m2, W_m3, W_const, W_var, W_nil, W_cons, W_tup, W_new, W_asB, W_boolD, W_ofB, W_ite, W_not, W_and, W_or, W_chain, W_seqM, W_oNone, W_oSome, W_skip, W_brk, W_cnt, W_badF, W_seq, W_drop, W_ret, W_setN, W_set, W_par, parGo, W_setI, W_setF, W_setAs, W_meth, W_endR, W_for, W_lc, W_ext, W_rg1, rgIE, itsI, seqI, isiI, isiBl, isiNo, W_call, List.getElem?_cons_succ, List.getElem?_cons_zero, Option.getD_some, List.set_cons_succ, List.set_cons_zero, List.length_cons, List.length_nil, Nat.reduceAdd, Nat.zero_add, Nat.reduceEqDiff, Tset1, Tset2, Tset3, wipeE, cmpD, isN, isNN, eqN, eqI, neI, eqB, neB, ltI, leI, addI, subI, intI, seqT, lenE, tupE, eqT, neT, inT, allE, anyE, isiTup, isiInt, itsT, okB, isiB]
        simp
      · have hne : s1.length ≠ n := by
          have := (List.getElem?_eq_some_iff.mp h1).1
          omega
        have hlen : acc.length + m.toNat ≤ 4000 := by
          rw [List.length_cons, Nat.add_mul, Nat.one_mul] at g5
          omega
        rw [extL g2 (by simp [upto_len]; rw [sizeLine_eq]; omega)]
        simp only [W_ok, W_m1, W_m2, W_m3, W_const, W_var, W_nil, W_cons, W_tup, W_new, W_asB, W_boolD, W_ofB, W_ite, W_not, W_and, W_or, W_chain, W_seqM, W_oNone, W_oSome, W_skip, W_brk, W_cnt, W_badF, W_seq, W_drop, W_ret, W_setN, W_set, W_par, parGo, W_setI, W_setF, W_setAs, W_meth, W_endR, W_for, W_lc, W_ext, W_rg1, rgIE, itsI, seqI, isiI, isiBl, isiNo, W_call, List.getElem?_cons_succ, List.getElem?_cons_zero, Option.getD_some, List.set_cons_succ, List.set_cons_zero, List.length_cons, List.length_nil, Nat.reduceAdd, Nat.zero_add, Nat.reduceEqDiff, Tset1, Tset2, Tset3, wipeE, cmpD, isN, isNN, eqN, eqI, neI, eqB, neB, ltI, leI, addI, subI, intI, seqT, lenE, tupE, eqT, neT, inT, allE, anyE, isiTup, isiInt, itsT, okB, isiB]
        have hn1 : (s2.set s1.length (.lst (acc.map iT ++ (upto m).map fun (v : Nat) => iT (f ++ [(v : Int)]))))[n]? = some (.lst (found.map iT)) := by
          rw [List.getElem?_set_ne hne]
          exact g1
        refine ⟨watch_one hn1, acc ++ (upto m).map (fun (v : Nat) => f ++ [(v : Int)]), _, _, rfl, hn1, ?_, ?_, g4.new (Nat.le_refl _), ?_, fun x hx => g6 x (List.mem_cons_of_mem _ hx)⟩
        · have hl := (List.getElem?_eq_some_iff.mp g2).1
          rw [List.getElem?_set_self hl]
          simp
        · rw [← g3]
          unfold stepF
          rw [List.flatMap_cons, List.append_assoc]
        · rw [List.length_cons, Nat.add_mul, Nat.one_mul] at g5
          simp [upto_len]
          omega
    · refine ⟨[], _, _, rfl, at_old h1, at_len, rfl, Fr.push, ?_, fun f hf => ?_⟩
      · simp
        exact hb
      · have := h6 f hf
        simpa using this
  · exact ⟨s.length, [[]], _, _, _, _, rfl, at_len, rfl, Fr.push, Nat.le_refl _, by simpa using hf.prod, by simpa using hf.len8, hf.val⟩
theorem s_all_faults {form : List Int} (hf : Form form) : W ((cl (k + 1)).call "all_faults" [iT form] s) fun d s' => ∃ n, d = .ref n ∧ s'[n]? = some (.lst ((allF form).map iT)) ∧ Fr No s s' ∧ s.length ≤ n := by
  rw [r_all_faults]
  exact w_all_faults _ hf
theorem s__law_faults {form : List Int} (hf : Form form) : W ((cl (k + 1)).call "_law_faults" [iT form] s) fun d s' => ∃ n, d = .ref n ∧ s'[n]? = some (.lst ((allF form).map iT)) ∧ Fr No s s' ∧ s.length ≤ n := by
  rw [r__law_faults]
  exact w_all_faults (cl k) hf
end
end Law_k72

set_option Elab.async false
set_option maxRecDepth 100000
set_option linter.all false
set_option maxHeartbeats 1000000
namespace Law_k72
open PySem L2 Mini
def bT (box : List (List Int)) : D := .tup (box.map iT)
def rT (rules : List (List (List Int))) : D := .tup (rules.map bT)
/-- a box of a form -/
structure Box (form : List Int) (box : List (List Int)) : Prop where
  len : box.length = form.length
  lot : ∀ p ∈ box.zip form, Lot p.2 p.1 ∧ p.1 ≠ []
structure Rules (form : List Int) (rules : List (List (List Int))) : Prop where
  len : rules.length ≤ 40
  box : ∀ b ∈ rules, Box form b
def heldB (box : List (List Int)) (f : List Int) : Bool := (box.zip f).all fun p => decide (p.2 ∈ p.1)
def lawB (rules : List (List (List Int))) (f : List Int) : Bool := !rules.any fun r => heldB r f
def lawF (form : List Int) (rules : List (List (List Int))) : List (List Int) := (allF form).filter (lawB rules)
theorem asc_len : ∀ (l : List Int) (a b : Int), l.Pairwise (· < ·) → (∀ v ∈ l, a ≤ v ∧ v < b) → l.length ≤ (b - a).toNat
  | [], _, _, _, _ => Nat.zero_le _
  | x :: l, a, b, h, hv => by
    have h1 := List.pairwise_cons.mp h
    have hx := hv x List.mem_cons_self
    have := asc_len l (x + 1) b h1.2 fun v hm => ⟨h1.1 v hm, (hv v (List.mem_cons_of_mem _ hm)).2⟩
    rw [List.length_cons]
    omega
theorem Lot.len {n : Int} {l : List Int} (h : Lot n l) (hn : n ≤ 6) : l.length ≤ 6 := by
  have := asc_len l 0 n h.2 h.1
  omega
section
variable {k : Nat} {s : S}
theorem s_is_form {form : List Int} (hf : Form form) : (cl (k + 3)).call "is_form" [iT form] s = .ok (.bl true) s := by
  rw [r_is_form]
  apply W_eq
  unfold b_is_form
  rw [show iT form = .tup (form.map .int) from rfl]
  have h8 := hf.len8
  have h1 := hf.len1
  simp only [W_ok, W_m1, W_m2, W_m3, W_const, W_var, W_nil, W_cons, W_tup, W_new, W_asB, W_boolD, W_ofB, W_ite, W_not, W_and, W_or, W_chain, W_seqM, W_oNone, W_oSome, W_skip, W_brk, W_cnt, W_badF, W_seq, W_drop, W_ret, W_setN, W_set, W_par, parGo, W_setI, W_setF, W_setAs, W_meth, W_endR, W_for, W_lc, W_ext, W_rg1, rgIE, itsI, seqI, isiI, isiBl, isiNo, W_call, List.getElem?_cons_succ, List.getElem?_cons_zero, Option.getD_some, List.set_cons_succ, List.set_cons_zero, List.length_cons, List.length_nil, Nat.reduceAdd, Nat.zero_add, Nat.reduceEqDiff, Tset1, Tset2, Tset3, wipeE, cmpD, isN, isNN, eqN, eqI, neI, eqB, neB, ltI, leI, addI, subI, intI, seqT, lenE, tupE, eqT, neT, inT, allE, anyE, isiTup, isiInt, itsT, okB, isiB, s_is_tuple]
  simp only [List.length_map, show decide ((1 : Int) ≤ form.length) = true from decide_eq_true (by omega), show decide ((form.length : Int) ≤ 8) = true from decide_eq_true (by omega), Bool.and_self, Bool.not_true, if_true, if_false, Bool.false_eq_true]
  refine ⟨by rw [sizeLine_eq]; omega, W_of_eq (lcGo_all watch_nil _ (fun v => .bl (decide (2 ≤ v) && decide (v ≤ 6))) form fun v hv => ⟨_, rfl, ?_⟩) ?_⟩
  · simp only [W_ok, W_m1, W_m2, W_m3, W_const, W_var, W_nil, W_cons, W_tup, W_new, W_asB, W_boolD, W_ofB, W_ite, W_not, W_and, W_or, W_chain, W_seqM, W_oNone, W_oSome, W_skip, W_brk, W_cnt, W_badF, W_seq, W_drop, W_ret, W_setN, W_set, W_par, parGo, W_setI, W_setF, W_setAs, W_meth, W_endR, W_for, W_lc, W_ext, W_rg1, rgIE, itsI, seqI, isiI, isiBl, isiNo, W_call, List.getElem?_cons_succ, List.getElem?_cons_zero, Option.getD_some, List.set_cons_succ, List.set_cons_zero, List.length_cons, List.length_nil, Nat.reduceAdd, Nat.zero_add, Nat.reduceEqDiff, Tset1, Tset2, Tset3, wipeE, cmpD, isN, isNN, eqN, eqI, neI, eqB, neB, ltI, leI, addI, subI, intI, seqT, lenE, tupE, eqT, neT, inT, allE, anyE, isiTup, isiInt, itsT, okB, isiB, s_is_within]
    simp
  · rw [allG]
    have : (form.all fun v => decide (2 ≤ v) && decide (v ≤ 6)) = true := by
      rw [List.all_eq_true]
      intro v hv
      have := hf.val v hv
      simp [this]
    simp only [W_ok, W_m1, W_m2, W_m3, W_const, W_var, W_nil, W_cons, W_tup, W_new, W_asB, W_boolD, W_ofB, W_ite, W_not, W_and, W_or, W_chain, W_seqM, W_oNone, W_oSome, W_skip, W_brk, W_cnt, W_badF, W_seq, W_drop, W_ret, W_setN, W_set, W_par, parGo, W_setI, W_setF, W_setAs, W_meth, W_endR, W_for, W_lc, W_ext, W_rg1, rgIE, itsI, seqI, isiI, isiBl, isiNo, W_call, List.getElem?_cons_succ, List.getElem?_cons_zero, Option.getD_some, List.set_cons_succ, List.set_cons_zero, List.length_cons, List.length_nil, Nat.reduceAdd, Nat.zero_add, Nat.reduceEqDiff, Tset1, Tset2, Tset3, wipeE, cmpD, isN, isNN, eqN, eqI, neI, eqB, neB, ltI, leI, addI, subI, intI, seqT, lenE, tupE, eqT, neT, inT, allE, anyE, isiTup, isiInt, itsT, okB, isiB, this]
    simp only [Bool.not_true, if_false, Bool.false_eq_true]
    refine W_goT D.int (fun rest env s' => ∃ (p : Nat) (d2 : Option D), env = [some (.tup (form.map .int)), some (.int p), d2] ∧ s' = s ∧ p * prodF rest = prodF form ∧ ∀ m ∈ rest, 2 ≤ m ∧ m ≤ 6) ?_ ?_ form _ _ ?_
    · rintro env s' ⟨p, d2, rfl, rfl, h1, h2⟩
      simp only [W_ok, W_m1, W_m2, W_m3, W_const, W_var, W_nil, W_cons, W_tup, W_new, W_asB, W_boolD, W_ofB, W_ite, W_not, W_and, W_or, W_chain, W_seqM, W_oNone, W_oSome, W_skip, W_brk, W_cnt, W_badF, W_seq, W_drop, W_ret, W_setN, W_set, W_par, parGo, W_setI, W_setF, W_setAs, W_meth, W_endR, W_for, W_lc, W_ext, W_rg1, rgIE, itsI, seqI, isiI, isiBl, isiNo, W_call, List.getElem?_cons_succ, List.getElem?_cons_zero, Option.getD_some, List.set_cons_succ, List.set_cons_zero, List.length_cons, List.length_nil, Nat.reduceAdd, Nat.zero_add, Nat.reduceEqDiff, Tset1, Tset2, Tset3, wipeE, cmpD, isN, isNN, eqN, eqI, neI, eqB, neB, ltI, leI, addI, subI, intI, seqT, lenE, tupE, eqT, neT, inT, allE, anyE, isiTup, isiInt, itsT, okB, isiB]
      have := hf.prod
      have hp : p ≤ 4000 := by
        have : p * 1 = prodF form := h1
        omega
      simp
      omega
    · rintro m rest env s' ⟨p, d2, rfl, rfl, h1, h2⟩
      refine ⟨_, rfl, ?_⟩
      have hm := h2 m List.mem_cons_self
      simp only [W_ok, W_m1, W_m2, W_m3, W_const, W_var, W_nil, W_cons, W_tup, W_new, W_asB, W_boolD, W_ofB, W_ite, W_not, W_and, W_or, W_chain, W_seqM, W_oNone, W_oSome, W_skip, W_brk, W_cnt, W_badF, W_seq, W_drop, W_ret, W_setN, W_set, W_par, parGo, W_setI, W_setF, W_setAs, W_meth, W_endR, W_for, W_lc, W_ext, W_rg1, rgIE, itsI, seqI, isiI, isiBl, isiNo, W_call, List.getElem?_cons_succ, List.getElem?_cons_zero, Option.getD_some, List.set_cons_succ, List.set_cons_zero, List.length_cons, List.length_nil, Nat.reduceAdd, Nat.zero_add, Nat.reduceEqDiff, Tset1, Tset2, Tset3, wipeE, cmpD, isN, isNN, eqN, eqI, neI, eqB, neB, ltI, leI, addI, subI, intI, seqT, lenE, tupE, eqT, neT, inT, allE, anyE, isiTup, isiInt, itsT, okB, isiB]
      rw [mulI (smallR (by omega) (by omega))]
      simp only [W_ok, W_m1, W_m2, W_m3, W_const, W_var, W_nil, W_cons, W_tup, W_new, W_asB, W_boolD, W_ofB, W_ite, W_not, W_and, W_or, W_chain, W_seqM, W_oNone, W_oSome, W_skip, W_brk, W_cnt, W_badF, W_seq, W_drop, W_ret, W_setN, W_set, W_par, parGo, W_setI, W_setF, W_setAs, W_meth, W_endR, W_for, W_lc, W_ext, W_rg1, rgIE, itsI, seqI, isiI, isiBl, isiNo, W_call, List.getElem?_cons_succ, List.getElem?_cons_zero, Option.getD_some, List.set_cons_succ, List.set_cons_zero, List.length_cons, List.length_nil, Nat.reduceAdd, Nat.zero_add, Nat.reduceEqDiff, Tset1, Tset2, Tset3, wipeE, cmpD, isN, isNN, eqN, eqI, neI, eqB, neB, ltI, leI, addI, subI, intI, seqT, lenE, tupE, eqT, neT, inT, allE, anyE, isiTup, isiInt, itsT, okB, isiB]
      refine ⟨watch_nil, p * m.toNat, some (.int m), ?_, trivial, ?_, fun x hx => h2 x (List.mem_cons_of_mem _ hx)⟩
      · have : (p : Int) * m = ((p * m.toNat : Nat) : Int) := by
          rw [Int.natCast_mul, Int.toNat_of_nonneg (by omega)]
        rw [this]
      · rw [Nat.mul_assoc]
        exact h1
    · exact ⟨1, _, rfl, rfl, by simp, hf.val⟩
theorem s_box_in {form : List Int} {box : List (List Int)} (hf : Form form) (hb : Box form box) : (cl (k + 4)).call "box_in" [iT form, bT box] s = .ok (.bl true) s := by
  rw [r_box_in]
  apply W_eq
  unfold b_box_in bT
  rw [show iT form = .tup (form.map .int) from rfl]
  have h8 := hf.len8
  have hl := hb.len
  simp only [W_ok, W_m1, W_m2, W_m3, W_const, W_var, W_nil, W_cons, W_tup, W_new, W_asB, W_boolD, W_ofB, W_ite, W_not, W_and, W_or, W_chain, W_seqM, W_oNone, W_oSome, W_skip, W_brk, W_cnt, W_badF, W_seq, W_drop, W_ret, W_setN, W_set, W_par, parGo, W_setI, W_setF, W_setAs, W_meth, W_endR, W_for, W_lc, W_ext, W_rg1, rgIE, itsI, seqI, isiI, isiBl, isiNo, W_call, List.getElem?_cons_succ, List.getElem?_cons_zero, Option.getD_some, List.set_cons_succ, List.set_cons_zero, List.length_cons, List.length_nil, Nat.reduceAdd, Nat.zero_add, Nat.reduceEqDiff, Tset1, Tset2, Tset3, wipeE, cmpD, isN, isNN, eqN, eqI, neI, eqB, neB, ltI, leI, addI, subI, intI, seqT, lenE, tupE, eqT, neT, inT, allE, anyE, isiTup, isiInt, itsT, okB, isiB, s_is_tuple]
  simp only [List.length_map, hl, Int.le_refl, decide_true, Bool.and_self, Bool.not_true, if_false, Bool.false_eq_true]
  simp only [W_ok, W_m1, W_m2, W_m3, W_const, W_var, W_nil, W_cons, W_tup, W_new, W_asB, W_boolD, W_ofB, W_ite, W_not, W_and, W_or, W_chain, W_seqM, W_oNone, W_oSome, W_skip, W_brk, W_cnt, W_badF, W_seq, W_drop, W_ret, W_setN, W_set, W_par, parGo, W_setI, W_setF, W_setAs, W_meth, W_endR, W_for, W_lc, W_ext, W_rg1, rgIE, itsI, seqI, isiI, isiBl, isiNo, W_call, List.getElem?_cons_succ, List.getElem?_cons_zero, Option.getD_some, List.set_cons_succ, List.set_cons_zero, List.length_cons, List.length_nil, Nat.reduceAdd, Nat.zero_add, Nat.reduceEqDiff, Tset1, Tset2, Tset3, wipeE, cmpD, isN, isNN, eqN, eqI, neI, eqB, neB, ltI, leI, addI, subI, intI, seqT, lenE, tupE, eqT, neT, inT, allE, anyE, isiTup, isiInt, itsT, okB, isiB, zip_its]
  refine ⟨size_ok (by simp; omega), W_of_eq (lcGo_all watch_nil _ (fun p => .bl true) _ fun p hp => ⟨_, rfl, ?_⟩) ?_⟩
  · obtain ⟨hlot, hne⟩ := hb.lot p hp
    have hn : p.2 ∈ form := (List.of_mem_zip (a := p.1) (b := p.2) hp).2
    have := hlot.len (hf.val _ hn).2
    simp only [W_ok, W_m1, W_m2, W_m3, W_const, W_var, W_nil, W_cons, W_tup, W_new, W_asB, W_boolD, W_ofB, W_ite, W_not, W_and, W_or, W_chain, W_seqM, W_oNone, W_oSome, W_skip, W_brk, W_cnt, W_badF, W_seq, W_drop, W_ret, W_setN, W_set, W_par, parGo, W_setI, W_setF, W_setAs, W_meth, W_endR, W_for, W_lc, W_ext, W_rg1, rgIE, itsI, seqI, isiI, isiBl, isiNo, W_call, List.getElem?_cons_succ, List.getElem?_cons_zero, Option.getD_some, List.set_cons_succ, List.set_cons_zero, List.length_cons, List.length_nil, Nat.reduceAdd, Nat.zero_add, Nat.reduceEqDiff, Tset1, Tset2, Tset3, wipeE, cmpD, isN, isNN, eqN, eqI, neI, eqB, neB, ltI, leI, addI, subI, intI, seqT, lenE, tupE, eqT, neT, inT, allE, anyE, isiTup, isiInt, itsT, okB, isiB, s_is_lot hlot (by omega)]
    have h0 : 0 < p.1.length := List.length_pos_iff.mpr hne
    simp
    omega
  · rw [allG (f := fun _ => true)]
    simp only [W_ok, W_m1, W_m2, W_m3, W_const, W_var, W_nil, W_cons, W_tup, W_new, W_asB, W_boolD, W_ofB, W_ite, W_not, W_and, W_or, W_chain, W_seqM, W_oNone, W_oSome, W_skip, W_brk, W_cnt, W_badF, W_seq, W_drop, W_ret, W_setN, W_set, W_par, parGo, W_setI, W_setF, W_setAs, W_meth, W_endR, W_for, W_lc, W_ext, W_rg1, rgIE, itsI, seqI, isiI, isiBl, isiNo, W_call, List.getElem?_cons_succ, List.getElem?_cons_zero, Option.getD_some, List.set_cons_succ, List.set_cons_zero, List.length_cons, List.length_nil, Nat.reduceAdd, Nat.zero_add, Nat.reduceEqDiff, Tset1, Tset2, Tset3, wipeE, cmpD, isN, isNN, eqN, eqI, neI, eqB, neB, ltI, leI, addI, subI, intI, seqT, lenE, tupE, eqT, neT, inT, allE, anyE, isiTup, isiInt, itsT, okB, isiB]
    simp
theorem s_are_rules {form : List Int} {rules : List (List (List Int))} (hf : Form form) (hr : Rules form rules) : (cl (k + 5)).call "are_rules" [iT form, rT rules] s = .ok (.bl true) s := by
  rw [r_are_rules]
  apply W_eq
  unfold b_are_rules rT
  have hl := hr.len
  simp only [W_ok, W_m1, W_m2, W_m3, W_const, W_var, W_nil, W_cons, W_tup, W_new, W_asB, W_boolD, W_ofB, W_ite, W_not, W_and, W_or, W_chain, W_seqM, W_oNone, W_oSome, W_skip, W_brk, W_cnt, W_badF, W_seq, W_drop, W_ret, W_setN, W_set, W_par, parGo, W_setI, W_setF, W_setAs, W_meth, W_endR, W_for, W_lc, W_ext, W_rg1, rgIE, itsI, seqI, isiI, isiBl, isiNo, W_call, List.getElem?_cons_succ, List.getElem?_cons_zero, Option.getD_some, List.set_cons_succ, List.set_cons_zero, List.length_cons, List.length_nil, Nat.reduceAdd, Nat.zero_add, Nat.reduceEqDiff, Tset1, Tset2, Tset3, wipeE, cmpD, isN, isNN, eqN, eqI, neI, eqB, neB, ltI, leI, addI, subI, intI, seqT, lenE, tupE, eqT, neT, inT, allE, anyE, isiTup, isiInt, itsT, okB, isiB]
  simp only [if_true]
  refine ⟨size_ok (by simp; omega), W_of_eq (lcGo_all watch_nil _ (fun p => .bl true) _ fun p hp => ⟨_, rfl, ?_⟩) ?_⟩
  · simp only [W_ok, W_m1, W_m2, W_m3, W_const, W_var, W_nil, W_cons, W_tup, W_new, W_asB, W_boolD, W_ofB, W_ite, W_not, W_and, W_or, W_chain, W_seqM, W_oNone, W_oSome, W_skip, W_brk, W_cnt, W_badF, W_seq, W_drop, W_ret, W_setN, W_set, W_par, parGo, W_setI, W_setF, W_setAs, W_meth, W_endR, W_for, W_lc, W_ext, W_rg1, rgIE, itsI, seqI, isiI, isiBl, isiNo, W_call, List.getElem?_cons_succ, List.getElem?_cons_zero, Option.getD_some, List.set_cons_succ, List.set_cons_zero, List.length_cons, List.length_nil, Nat.reduceAdd, Nat.zero_add, Nat.reduceEqDiff, Tset1, Tset2, Tset3, wipeE, cmpD, isN, isNN, eqN, eqI, neI, eqB, neB, ltI, leI, addI, subI, intI, seqT, lenE, tupE, eqT, neT, inT, allE, anyE, isiTup, isiInt, itsT, okB, isiB, s_box_in hf (hr.box p hp)]
    simp
  · rw [allG (f := fun _ => true)]
    simp only [W_ok, W_m1, W_m2, W_m3, W_const, W_var, W_nil, W_cons, W_tup, W_new, W_asB, W_boolD, W_ofB, W_ite, W_not, W_and, W_or, W_chain, W_seqM, W_oNone, W_oSome, W_skip, W_brk, W_cnt, W_badF, W_seq, W_drop, W_ret, W_setN, W_set, W_par, parGo, W_setI, W_setF, W_setAs, W_meth, W_endR, W_for, W_lc, W_ext, W_rg1, rgIE, itsI, seqI, isiI, isiBl, isiNo, W_call, List.getElem?_cons_succ, List.getElem?_cons_zero, Option.getD_some, List.set_cons_succ, List.set_cons_zero, List.length_cons, List.length_nil, Nat.reduceAdd, Nat.zero_add, Nat.reduceEqDiff, Tset1, Tset2, Tset3, wipeE, cmpD, isN, isNN, eqN, eqI, neI, eqB, neB, ltI, leI, addI, subI, intI, seqT, lenE, tupE, eqT, neT, inT, allE, anyE, isiTup, isiInt, itsT, okB, isiB]
    simp
/-! a book -/
theorem nfr : ¬ (("form" : Str) = "rules") := by decide +kernel
theorem nfl : ¬ (("form" : Str) = "listed") := by decide +kernel
theorem nrl : ¬ (("rules" : Str) = "listed") := by decide +kernel
def bookO (form : List Int) (rules : List (List (List Int))) (L : D) : O := .ins "Book" [("form", iT form), ("rules", rT rules), ("listed", L)]
theorem ok_form : attrOk T "form" "Book" = true := by decide +kernel
theorem ok_rules : attrOk T "rules" "Book" = true := by decide +kernel
theorem ok_listed : attrOk T "listed" "Book" = true := by decide +kernel
theorem lk_form {a b c : D} : ([("form", a), ("rules", b), ("listed", c)] : List (Str × D)).lookup ("form" : Str) = some a := by simp
theorem lk_rules {a b c : D} : ([("form", a), ("rules", b), ("listed", c)] : List (Str × D)).lookup ("rules" : Str) = some b := by
  have h : (("rules" : Str) == "form") = false := by simpa using fun e => nfr e.symm
  rw [List.lookup_cons, h, List.lookup_cons]
  simp
theorem lk_listed {a b c : D} : ([("form", a), ("rules", b), ("listed", c)] : List (Str × D)).lookup ("listed" : Str) = some c := by
  have h : (("listed" : Str) == "form") = false := by simpa using fun e => nfl e.symm
  have h2 : (("listed" : Str) == "rules") = false := by simpa using fun e => nrl e.symm
  rw [List.lookup_cons, h, List.lookup_cons, h2, List.lookup_cons]
  simp
theorem put_listed {a b c d : D} : putD "listed" d ([("form", a), ("rules", b), ("listed", c)] : List (Str × D)) = ([("form", a), ("rules", b), ("listed", d)] : List (Str × D)) := by
  simp [putD, nfl, nrl]
theorem s_is_tupleR {rules : List (List (List Int))} {a b : Int} : (cl (k + 1)).call "is_tuple" [rT rules, .int a, .int b] s = .ok (.bl (decide (a ≤ (rules.map bT).length) && decide (((rules.map bT).length : Int) ≤ b))) s := s_is_tuple
theorem s_Book {form : List Int} {rules : List (List (List Int))} (hf : Form form) (hr : Rules form rules) : makeD "Book" 2 ((cl (k + 7)).init "Book") [iT form, rT rules] s = .ok (.ref s.length) (s ++ [bookO form rules .non]) := by
  have key : (cl (k + 7)).init "Book" [.ref s.length, iT form, rT rules] (s ++ [.ins "Book" []]) = .ok .non (s ++ [bookO form rules .non]) := by
    rw [r_Book_init]
    apply W_eq
    unfold b_Book_init
    have hl := hr.len
    simp only [W_ok, W_m1, W_m2, W_m3, W_const, W_var, W_nil, W_cons, W_tup, W_new, W_asB, W_boolD, W_ofB, W_ite, W_not, W_and, W_or, W_chain, W_seqM, W_oNone, W_oSome, W_skip, W_brk, W_cnt, W_badF, W_seq, W_drop, W_ret, W_setN, W_set, W_par, parGo, W_setI, W_setF, W_setAs, W_meth, W_endR, W_for, W_lc, W_ext, W_rg1, rgIE, itsI, seqI, isiI, isiBl, isiNo, W_call, List.getElem?_cons_succ, List.getElem?_cons_zero, Option.getD_some, List.set_cons_succ, List.set_cons_zero, List.length_cons, List.length_nil, Nat.reduceAdd, Nat.zero_add, Nat.reduceEqDiff, Tset1, Tset2, Tset3, wipeE, cmpD, isN, isNN, eqN, eqI, neI, eqB, neB, ltI, leI, addI, subI, intI, seqT, lenE, tupE, eqT, neT, inT, allE, anyE, isiTup, isiInt, itsT, okB, isiB, s_is_form hf, s_are_rules hf hr, s_is_tupleR]
    simp only [List.length_map, show decide ((0 : Int) ≤ rules.length) = true from decide_eq_true (by omega), show decide ((rules.length : Int) ≤ 40) = true from decide_eq_true (by omega), Bool.and_self, Bool.not_true, if_true, if_false, Bool.false_eq_true, attrsGo, W_bind]
    simp only [W_ok, W_m1, W_m2, W_m3, W_const, W_var, W_nil, W_cons, W_tup, W_new, W_asB, W_boolD, W_ofB, W_ite, W_not, W_and, W_or, W_chain, W_seqM, W_oNone, W_oSome, W_skip, W_brk, W_cnt, W_badF, W_seq, W_drop, W_ret, W_setN, W_set, W_par, parGo, W_setI, W_setF, W_setAs, W_meth, W_endR, W_for, W_lc, W_ext, W_rg1, rgIE, itsI, seqI, isiI, isiBl, isiNo, W_call, List.getElem?_cons_succ, List.getElem?_cons_zero, Option.getD_some, List.set_cons_succ, List.set_cons_zero, List.length_cons, List.length_nil, Nat.reduceAdd, Nat.zero_add, Nat.reduceEqDiff, Tset1, Tset2, Tset3, wipeE, cmpD, isN, isNN, eqN, eqI, neI, eqB, neB, ltI, leI, addI, subI, intI, seqT, lenE, tupE, eqT, neT, inT, allE, anyE, isiTup, isiInt, itsT, okB, isiB]
    rw [setE (C := "Book") (fs := []) (at_len) ok_form (by decide)]
    simp only [W_ok, W_m1, W_m2, W_m3, W_const, W_var, W_nil, W_cons, W_tup, W_new, W_asB, W_boolD, W_ofB, W_ite, W_not, W_and, W_or, W_chain, W_seqM, W_oNone, W_oSome, W_skip, W_brk, W_cnt, W_badF, W_seq, W_drop, W_ret, W_setN, W_set, W_par, parGo, W_setI, W_setF, W_setAs, W_meth, W_endR, W_for, W_lc, W_ext, W_rg1, rgIE, itsI, seqI, isiI, isiBl, isiNo, W_call, List.getElem?_cons_succ, List.getElem?_cons_zero, Option.getD_some, List.set_cons_succ, List.set_cons_zero, List.length_cons, List.length_nil, Nat.reduceAdd, Nat.zero_add, Nat.reduceEqDiff, Tset1, Tset2, Tset3, wipeE, cmpD, isN, isNN, eqN, eqI, neI, eqB, neB, ltI, leI, addI, subI, intI, seqT, lenE, tupE, eqT, neT, inT, allE, anyE, isiTup, isiInt, itsT, okB, isiB, attrsGo, W_bind]
    rw [setE (C := "Book") (fs := [("form", iT form)]) (by simp [putD]) ok_rules (by show 1 < 1000; decide)]
    simp only [W_ok, W_m1, W_m2, W_m3, W_const, W_var, W_nil, W_cons, W_tup, W_new, W_asB, W_boolD, W_ofB, W_ite, W_not, W_and, W_or, W_chain, W_seqM, W_oNone, W_oSome, W_skip, W_brk, W_cnt, W_badF, W_seq, W_drop, W_ret, W_setN, W_set, W_par, parGo, W_setI, W_setF, W_setAs, W_meth, W_endR, W_for, W_lc, W_ext, W_rg1, rgIE, itsI, seqI, isiI, isiBl, isiNo, W_call, List.getElem?_cons_succ, List.getElem?_cons_zero, Option.getD_some, List.set_cons_succ, List.set_cons_zero, List.length_cons, List.length_nil, Nat.reduceAdd, Nat.zero_add, Nat.reduceEqDiff, Tset1, Tset2, Tset3, wipeE, cmpD, isN, isNN, eqN, eqI, neI, eqB, neB, ltI, leI, addI, subI, intI, seqT, lenE, tupE, eqT, neT, inT, allE, anyE, isiTup, isiInt, itsT, okB, isiB, attrsGo, W_bind]
    rw [setE (C := "Book") (fs := [("form", iT form), ("rules", rT rules)]) (by simp [putD, nfr]) ok_listed (by show 2 < 1000; decide)]
    simp only [W_ok, W_m1, W_m2, W_m3, W_const, W_var, W_nil, W_cons, W_tup, W_new, W_asB, W_boolD, W_ofB, W_ite, W_not, W_and, W_or, W_chain, W_seqM, W_oNone, W_oSome, W_skip, W_brk, W_cnt, W_badF, W_seq, W_drop, W_ret, W_setN, W_set, W_par, parGo, W_setI, W_setF, W_setAs, W_meth, W_endR, W_for, W_lc, W_ext, W_rg1, rgIE, itsI, seqI, isiI, isiBl, isiNo, W_call, List.getElem?_cons_succ, List.getElem?_cons_zero, Option.getD_some, List.set_cons_succ, List.set_cons_zero, List.length_cons, List.length_nil, Nat.reduceAdd, Nat.zero_add, Nat.reduceEqDiff, Tset1, Tset2, Tset3, wipeE, cmpD, isN, isNN, eqN, eqI, neI, eqB, neB, ltI, leI, addI, subI, intI, seqT, lenE, tupE, eqT, neT, inT, allE, anyE, isiTup, isiInt, itsT, okB, isiB]
    simp [putD, nfl, nrl, bookO]
  unfold makeD
  rw [if_pos (show [iT form, rT rules].length = 2 from rfl), key, R.bind_ok]
end
end Law_k72

set_option Elab.async false
set_option maxRecDepth 100000
set_option linter.all false
set_option maxHeartbeats 1000000
namespace Law_k72
open PySem L2 Mini
/-- a book stands at b; its list, if it has one, is that of the lawful faults -/
def BookAt (s : S) (b : Nat) (form : List Int) (rules : List (List (List Int))) : Prop :=
  ∃ L, s[b]? = some (bookO form rules L) ∧ (L = .non ∨ ∃ n, L = .ref n ∧ n ≠ b ∧ s[n]? = some (.lst ((lawF form rules).map iT)))
theorem BookAt.fr {s s' : S} {b : Nat} {form : List Int} {rules : List (List (List Int))} {X : Nat → Prop} (h : BookAt s b form rules) (f : Fr X s s') (hb : ¬ X b) (hx : ∀ n xs, s[n]? = some (.lst xs) → (∀ x ∈ xs, ∃ f, x = iT f) → ¬ X n) : BookAt s' b form rules := by
  obtain ⟨L, h1, h2⟩ := h
  refine ⟨L, f b _ h1 hb, ?_⟩
  rcases h2 with h2 | ⟨n, h2, h3, h4⟩
  · exact .inl h2
  · refine .inr ⟨n, h2, h3, f n _ h4 (hx n _ h4 fun x hx => ?_)⟩
    obtain ⟨f, _, rfl⟩ := List.mem_map.mp hx
    exact ⟨f, rfl⟩
section
variable {k : Nat} {s : S}
theorem s_heldB {box : List (List Int)} {f : List Int} (hl : box.length ≤ 1000) : (cl (k + 1)).call "held" [bT box, iT f] s = .ok (.bl (heldB box f)) s := s_held hl
theorem s_is_lawful {form : List Int} {rules : List (List (List Int))} {b : Nat} {L : D} {f : List Int} (hf : Form form) (hr : Rules form rules) (hb : s[b]? = some (bookO form rules L)) :
    (cl (k + 2)).call "is_lawful" [.ref b, iT f] s = .ok (.bl (lawB rules f)) s := by
  rw [r_is_lawful]
  apply W_eq
  unfold b_is_lawful
  have hl := hr.len
  have h8 := hf.len8
  simp only [W_ok, W_m1, W_m2, W_m3, W_const, W_var, W_nil, W_cons, W_tup, W_new, W_asB, W_boolD, W_ofB, W_ite, W_not, W_and, W_or, W_chain, W_seqM, W_oNone, W_oSome, W_skip, W_brk, W_cnt, W_badF, W_seq, W_drop, W_ret, W_setN, W_set, W_par, parGo, W_setI, W_setF, W_setAs, W_meth, W_endR, W_for, W_lc, W_ext, W_rg1, rgIE, itsI, seqI, isiI, isiBl, isiNo, W_call, List.getElem?_cons_succ, List.getElem?_cons_zero, Option.getD_some, List.set_cons_succ, List.set_cons_zero, List.length_cons, List.length_nil, Nat.reduceAdd, Nat.zero_add, Nat.reduceEqDiff, Tset1, Tset2, Tset3, wipeE, cmpD, isN, isNN, eqN, eqI, neI, eqB, neB, ltI, leI, addI, subI, intI, seqT, lenE, tupE, eqT, neT, inT, allE, anyE, isiTup, isiInt, itsT, okB, isiB, fldE hb ok_rules lk_rules, rT]
  refine ⟨size_ok (by simp; omega), W_of_eq (lcGo_all watch_nil _ (fun r => .bl (heldB r f)) _ fun r hm => ⟨_, rfl, ?_⟩) ?_⟩
  · simp only [W_ok, W_m1, W_m2, W_m3, W_const, W_var, W_nil, W_cons, W_tup, W_new, W_asB, W_boolD, W_ofB, W_ite, W_not, W_and, W_or, W_chain, W_seqM, W_oNone, W_oSome, W_skip, W_brk, W_cnt, W_badF, W_seq, W_drop, W_ret, W_setN, W_set, W_par, parGo, W_setI, W_setF, W_setAs, W_meth, W_endR, W_for, W_lc, W_ext, W_rg1, rgIE, itsI, seqI, isiI, isiBl, isiNo, W_call, List.getElem?_cons_succ, List.getElem?_cons_zero, Option.getD_some, List.set_cons_succ, List.set_cons_zero, List.length_cons, List.length_nil, Nat.reduceAdd, Nat.zero_add, Nat.reduceEqDiff, Tset1, Tset2, Tset3, wipeE, cmpD, isN, isNN, eqN, eqI, neI, eqB, neB, ltI, leI, addI, subI, intI, seqT, lenE, tupE, eqT, neT, inT, allE, anyE, isiTup, isiInt, itsT, okB, isiB]
    rw [s_heldB (by rw [(hr.box r hm).len]; omega)]
    simp only [W_ok, W_m1, W_m2, W_m3, W_const, W_var, W_nil, W_cons, W_tup, W_new, W_asB, W_boolD, W_ofB, W_ite, W_not, W_and, W_or, W_chain, W_seqM, W_oNone, W_oSome, W_skip, W_brk, W_cnt, W_badF, W_seq, W_drop, W_ret, W_setN, W_set, W_par, parGo, W_setI, W_setF, W_setAs, W_meth, W_endR, W_for, W_lc, W_ext, W_rg1, rgIE, itsI, seqI, isiI, isiBl, isiNo, W_call, List.getElem?_cons_succ, List.getElem?_cons_zero, Option.getD_some, List.set_cons_succ, List.set_cons_zero, List.length_cons, List.length_nil, Nat.reduceAdd, Nat.zero_add, Nat.reduceEqDiff, Tset1, Tset2, Tset3, wipeE, cmpD, isN, isNN, eqN, eqI, neI, eqB, neB, ltI, leI, addI, subI, intI, seqT, lenE, tupE, eqT, neT, inT, allE, anyE, isiTup, isiInt, itsT, okB, isiB]
    simp
  · rw [anyG]
    simp only [W_ok, W_m1, W_m2, W_m3, W_const, W_var, W_nil, W_cons, W_tup, W_new, W_asB, W_boolD, W_ofB, W_ite, W_not, W_and, W_or, W_chain, W_seqM, W_oNone, W_oSome, W_skip, W_brk, W_cnt, W_badF, W_seq, W_drop, W_ret, W_setN, W_set, W_par, parGo, W_setI, W_setF, W_setAs, W_meth, W_endR, W_for, W_lc, W_ext, W_rg1, rgIE, itsI, seqI, isiI, isiBl, isiNo, W_call, List.getElem?_cons_succ, List.getElem?_cons_zero, Option.getD_some, List.set_cons_succ, List.set_cons_zero, List.length_cons, List.length_nil, Nat.reduceAdd, Nat.zero_add, Nat.reduceEqDiff, Tset1, Tset2, Tset3, wipeE, cmpD, isN, isNN, eqN, eqI, neI, eqB, neB, ltI, leI, addI, subI, intI, seqT, lenE, tupE, eqT, neT, inT, allE, anyE, isiTup, isiInt, itsT, okB, isiB]
    simp [lawB]
theorem allF_len_aux {form : List Int} : ∀ (rest : List Int) (found : List (List Int)), (rest.foldl stepF found).length = found.length * prodF rest
  | [], found => by simp [prodF]
  | m :: rest, found => by
    rw [List.foldl_cons, allF_len_aux (form := form) rest, stepF_len, prodF_cons, Nat.mul_assoc]
theorem allF_len {form : List Int} (hf : Form form) : (allF form).length ≤ 4000 := by
  unfold allF
  rw [allF_len_aux (form := form)]
  simpa using hf.prod
theorem lawF_len {form : List Int} {rules : List (List (List Int))} (hf : Form form) : (lawF form rules).length ≤ 4000 := Nat.le_trans (List.length_filter_le _ _) (allF_len hf)
/-- only the book b is changed, by its list -/
theorem s_listed {form : List Int} {rules : List (List (List Int))} {b : Nat} (hf : Form form) (hr : Rules form rules) (hb : BookAt s b form rules) :
    W ((cl (k + 3)).call "listed" [.ref b] s) fun d s' => ∃ n, d = .ref n ∧ s'[n]? = some (.lst ((lawF form rules).map iT)) ∧ n ≠ b ∧ s'[b]? = some (bookO form rules (.ref n)) ∧ Fr (· = b) s s' ∧ (n < s.length → s[b]? = some (bookO form rules (.ref n))) := by
  obtain ⟨L, h1, h2⟩ := hb
  rw [r_listed]
  unfold b_listed
  simp only [W_ok, W_m1, W_m2, W_m3, W_const, W_var, W_nil, W_cons, W_tup, W_new, W_asB, W_boolD, W_ofB, W_ite, W_not, W_and, W_or, W_chain, W_seqM, W_oNone, W_oSome, W_skip, W_brk, W_cnt, W_badF, W_seq, W_drop, W_ret, W_setN, W_set, W_par, parGo, W_setI, W_setF, W_setAs, W_meth, W_endR, W_for, W_lc, W_ext, W_rg1, rgIE, itsI, seqI, isiI, isiBl, isiNo, W_call, List.getElem?_cons_succ, List.getElem?_cons_zero, Option.getD_some, List.set_cons_succ, List.set_cons_zero, List.length_cons, List.length_nil, Nat.reduceAdd, Nat.zero_add, Nat.reduceEqDiff, Tset1, Tset2, Tset3, wipeE, cmpD, isN, isNN, eqN, eqI, neI, eqB, neB, ltI, leI, addI, subI, intI, seqT, lenE, tupE, eqT, neT, inT, allE, anyE, isiTup, isiInt, itsT, okB, isiB, fldE h1 ok_listed lk_listed]
  rcases h2 with rfl | ⟨n, rfl, h3, h4⟩
  · simp only [decide_true, if_true]
    simp only [W_ok, W_m1, W_m2, W_m3, W_const, W_var, W_nil, W_cons, W_tup, W_new, W_asB, W_boolD, W_ofB, W_ite, W_not, W_and, W_or, W_chain, W_seqM, W_oNone, W_oSome, W_skip, W_brk, W_cnt, W_badF, W_seq, W_drop, W_ret, W_setN, W_set, W_par, parGo, W_setI, W_setF, W_setAs, W_meth, W_endR, W_for, W_lc, W_ext, W_rg1, rgIE, itsI, seqI, isiI, isiBl, isiNo, W_call, List.getElem?_cons_succ, List.getElem?_cons_zero, Option.getD_some, List.set_cons_succ, List.set_cons_zero, List.length_cons, List.length_nil, Nat.reduceAdd, Nat.zero_add, Nat.reduceEqDiff, Tset1, Tset2, Tset3, wipeE, cmpD, isN, isNN, eqN, eqI, neI, eqB, neB, ltI, leI, addI, subI, intI, seqT, lenE, tupE, eqT, neT, inT, allE, anyE, isiTup, isiInt, itsT, okB, isiB, fldE h1 ok_form lk_form]
    refine (s_all_faults hf).mono fun d s1 ⟨n, e, g1, g2, g3⟩ => ?_
    subst e
    have h1' := g2 b _ h1 id
    have hlen := allF_len hf
    simp only [W_ok, W_m1, W_m2, W_m3, W_const, W_var, W_nil, W_cons, W_tup, W_new, W_asB, W_boolD, W_ofB, W_ite, W_not, W_and, W_or, W_chain, W_seqM, W_oNone, W_oSome, W_skip, W_brk, W_cnt, W_badF, W_seq, W_drop, W_ret, W_setN, W_set, W_par, parGo, W_setI, W_setF, W_setAs, W_meth, W_endR, W_for, W_lc, W_ext, W_rg1, rgIE, itsI, seqI, isiI, isiBl, isiNo, W_call, List.getElem?_cons_succ, List.getElem?_cons_zero, Option.getD_some, List.set_cons_succ, List.set_cons_zero, List.length_cons, List.length_nil, Nat.reduceAdd, Nat.zero_add, Nat.reduceEqDiff, Tset1, Tset2, Tset3, wipeE, cmpD, isN, isNN, eqN, eqI, neI, eqB, neB, ltI, leI, addI, subI, intI, seqT, lenE, tupE, eqT, neT, inT, allE, anyE, isiTup, isiInt, itsT, okB, isiB, itsL g1]
    refine ⟨size_ok (by simp; omega), W_of_eq (lcGo_over (watch_one g1) iT (lawB rules) iT _ fun f hm => ⟨_, rfl, ?_, fun _ => ?_⟩) ?_⟩
    · simp only [W_ok, W_m1, W_m2, W_m3, W_const, W_var, W_nil, W_cons, W_tup, W_new, W_asB, W_boolD, W_ofB, W_ite, W_not, W_and, W_or, W_chain, W_seqM, W_oNone, W_oSome, W_skip, W_brk, W_cnt, W_badF, W_seq, W_drop, W_ret, W_setN, W_set, W_par, parGo, W_setI, W_setF, W_setAs, W_meth, W_endR, W_for, W_lc, W_ext, W_rg1, rgIE, itsI, seqI, isiI, isiBl, isiNo, W_call, List.getElem?_cons_succ, List.getElem?_cons_zero, Option.getD_some, List.set_cons_succ, List.set_cons_zero, List.length_cons, List.length_nil, Nat.reduceAdd, Nat.zero_add, Nat.reduceEqDiff, Tset1, Tset2, Tset3, wipeE, cmpD, isN, isNN, eqN, eqI, neI, eqB, neB, ltI, leI, addI, subI, intI, seqT, lenE, tupE, eqT, neT, inT, allE, anyE, isiTup, isiInt, itsT, okB, isiB, s_is_lawful hf hr h1']
      simp
    · simp only [W_ok, W_m1, W_m2, W_m3, W_const, W_var, W_nil, W_cons, W_tup, W_new, W_asB, W_boolD, W_ofB, W_ite, W_not, W_and, W_or, W_chain, W_seqM, W_oNone, W_oSome, W_skip, W_brk, W_cnt, W_badF, W_seq, W_drop, W_ret, W_setN, W_set, W_par, parGo, W_setI, W_setF, W_setAs, W_meth, W_endR, W_for, W_lc, W_ext, W_rg1, rgIE, itsI, seqI, isiI, isiBl, isiNo, W_call, List.getElem?_cons_succ, List.getElem?_cons_zero, Option.getD_some, List.set_cons_succ, List.set_cons_zero, List.length_cons, List.length_nil, Nat.reduceAdd, Nat.zero_add, Nat.reduceEqDiff, Tset1, Tset2, Tset3, wipeE, cmpD, isN, isNN, eqN, eqI, neI, eqB, neB, ltI, leI, addI, subI, intI, seqT, lenE, tupE, eqT, neT, inT, allE, anyE, isiTup, isiInt, itsT, okB, isiB]
      simp
    · have h1'' : (s1 ++ [O.lst ((List.filter (lawB rules) (allF form)).map iT)])[b]? = some (bookO form rules .non) := at_old h1'
      rw [setE h1'' ok_listed (by show 3 < 1000; decide)]
      have hbl := (List.getElem?_eq_some_iff.mp h1'').1
      simp only [W_ok, W_m1, W_m2, W_m3, W_const, W_var, W_nil, W_cons, W_tup, W_new, W_asB, W_boolD, W_ofB, W_ite, W_not, W_and, W_or, W_chain, W_seqM, W_oNone, W_oSome, W_skip, W_brk, W_cnt, W_badF, W_seq, W_drop, W_ret, W_setN, W_set, W_par, parGo, W_setI, W_setF, W_setAs, W_meth, W_endR, W_for, W_lc, W_ext, W_rg1, rgIE, itsI, seqI, isiI, isiBl, isiNo, W_call, List.getElem?_cons_succ, List.getElem?_cons_zero, Option.getD_some, List.set_cons_succ, List.set_cons_zero, List.length_cons, List.length_nil, Nat.reduceAdd, Nat.zero_add, Nat.reduceEqDiff, Tset1, Tset2, Tset3, wipeE, cmpD, isN, isNN, eqN, eqI, neI, eqB, neB, ltI, leI, addI, subI, intI, seqT, lenE, tupE, eqT, neT, inT, allE, anyE, isiTup, isiInt, itsT, okB, isiB]
      rw [fldE (C := "Book") (List.getElem?_set_self hbl) ok_listed (by rw [put_listed]; exact lk_listed)]
      simp only [W_ok, W_m1, W_m2, W_m3, W_const, W_var, W_nil, W_cons, W_tup, W_new, W_asB, W_boolD, W_ofB, W_ite, W_not, W_and, W_or, W_chain, W_seqM, W_oNone, W_oSome, W_skip, W_brk, W_cnt, W_badF, W_seq, W_drop, W_ret, W_setN, W_set, W_par, parGo, W_setI, W_setF, W_setAs, W_meth, W_endR, W_for, W_lc, W_ext, W_rg1, rgIE, itsI, seqI, isiI, isiBl, isiNo, W_call, List.getElem?_cons_succ, List.getElem?_cons_zero, Option.getD_some, List.set_cons_succ, List.set_cons_zero, List.length_cons, List.length_nil, Nat.reduceAdd, Nat.zero_add, Nat.reduceEqDiff, Tset1, Tset2, Tset3, wipeE, cmpD, isN, isNN, eqN, eqI, neI, eqB, neB, ltI, leI, addI, subI, intI, seqT, lenE, tupE, eqT, neT, inT, allE, anyE, isiTup, isiInt, itsT, okB, isiB]
      have hne : s1.length ≠ b := by
        have := (List.getElem?_eq_some_iff.mp h1').1
        omega
      refine ⟨s1.length, rfl, ?_, hne, ?_, ?_, fun hlt => ?_⟩
      · rw [List.getElem?_set_ne (Ne.symm hne)]
        exact at_len
      · rw [List.getElem?_set_self hbl, put_listed]
        rfl
      · exact ((g2.imp fun _ h => h.elim).trans Fr.push).trans (Fr.set rfl)
      · have := g2.len
        omega
  · have : decide (D.ref n = D.non) = false := decide_eq_false (fun h => by cases h)
    simp only [this, if_false, Bool.false_eq_true]
    exact ⟨n, rfl, h4, h3, h1, Fr.refl, fun _ => h1⟩
theorem s_check_lies {l : Int} (h0 : 0 ≤ l) (h3 : l ≤ 3) : (cl (k + 3)).call "check_lies" [.int l] s = .ok .non s := by
  rw [r_check_lies]
  apply W_eq
  unfold b_check_lies
  simp only [W_ok, W_m1, W_m2, W_m3, W_const, W_var, W_nil, W_cons, W_tup, W_new, W_asB, W_boolD, W_ofB, W_ite, W_not, W_and, W_or, W_chain, W_seqM, W_oNone, W_oSome, W_skip, W_brk, W_cnt, W_badF, W_seq, W_drop, W_ret, W_setN, W_set, W_par, parGo, W_setI, W_setF, W_setAs, W_meth, W_endR, W_for, W_lc, W_ext, W_rg1, rgIE, itsI, seqI, isiI, isiBl, isiNo, W_call, List.getElem?_cons_succ, List.getElem?_cons_zero, Option.getD_some, List.set_cons_succ, List.set_cons_zero, List.length_cons, List.length_nil, Nat.reduceAdd, Nat.zero_add, Nat.reduceEqDiff, Tset1, Tset2, Tset3, wipeE, cmpD, isN, isNN, eqN, eqI, neI, eqB, neB, ltI, leI, addI, subI, intI, seqT, lenE, tupE, eqT, neT, inT, allE, anyE, isiTup, isiInt, itsT, okB, isiB, s_is_within]
  simp [h0, h3]
/-! talks -/
def tP (p : Int × Int) : D := iT [p.1, p.2]
structure Talk (form : List Int) (tk : List (Int × Int)) : Prop where
  len : tk.length ≤ 40
  val : ∀ p ∈ tk, 0 ≤ p.1 ∧ ∃ n, form[p.1.toNat]? = some n ∧ 0 ≤ p.2 ∧ p.2 < n
theorem ixO {a b : Int} : ixD (iT [a, b]) (.int 0) s = .ok (.int a) s := ixI (i := 0) rfl
theorem ixS {a b : Int} : ixD (iT [a, b]) (.int 1) s = .ok (.int b) s := ixI (i := 1) rfl
theorem ixZ {ns : List Int} {i x : Int} (h0 : 0 ≤ i) (h : ns[i.toNat]? = some x) : ixD (iT ns) (.int i) s = .ok (.int x) s := by
  have := ixI (s := s) h
  rwa [Int.toNat_of_nonneg h0] at this
theorem s_is_tupleI {ns : List Int} {a b : Int} : (cl (k + 1)).call "is_tuple" [iT ns, .int a, .int b] s = .ok (.bl (decide (a ≤ (ns.map D.int).length) && decide (((ns.map D.int).length : Int) ≤ b))) s := s_is_tuple
theorem s_is_answer {form : List Int} {p : Int × Int} (h0 : 0 ≤ p.1) {n : Int} (h1 : form[p.1.toNat]? = some n) (h2 : 0 ≤ p.2) (h3 : p.2 < n) : (cl (k + 3)).call "is_answer" [iT form, tP p] s = .ok (.bl true) s := by
  rw [r_is_answer]
  apply W_eq
  unfold b_is_answer tP
  have hl := (List.getElem?_eq_some_iff.mp h1).1
  simp only [W_ok, W_m1, W_m2, W_m3, W_const, W_var, W_nil, W_cons, W_tup, W_new, W_asB, W_boolD, W_ofB, W_ite, W_not, W_and, W_or, W_chain, W_seqM, W_oNone, W_oSome, W_skip, W_brk, W_cnt, W_badF, W_seq, W_drop, W_ret, W_setN, W_set, W_par, parGo, W_setI, W_setF, W_setAs, W_meth, W_endR, W_for, W_lc, W_ext, W_rg1, rgIE, itsI, seqI, isiI, isiBl, isiNo, W_call, List.getElem?_cons_succ, List.getElem?_cons_zero, Option.getD_some, List.set_cons_succ, List.set_cons_zero, List.length_cons, List.length_nil, Nat.reduceAdd, Nat.zero_add, Nat.reduceEqDiff, Tset1, Tset2, Tset3, wipeE, cmpD, isN, isNN, eqN, eqI, neI, eqB, neB, ltI, leI, addI, subI, intI, seqT, lenE, tupE, eqT, neT, inT, allE, anyE, isiTup, isiInt, itsT, okB, isiB, s_is_tupleI, ixO, ixS, s_is_within]
  simp only [List.map_cons, List.map_nil, List.length_cons, List.length_nil, List.length_map]
  have e1 : decide (p.1 ≤ (form.length : Int) - 1) = true := decide_eq_true (by omega)
  simp only [e1, decide_eq_true h0]
  simp
  simp only [W_ok, W_m1, W_m2, W_m3, W_const, W_var, W_nil, W_cons, W_tup, W_new, W_asB, W_boolD, W_ofB, W_ite, W_not, W_and, W_or, W_chain, W_seqM, W_oNone, W_oSome, W_skip, W_brk, W_cnt, W_badF, W_seq, W_drop, W_ret, W_setN, W_set, W_par, parGo, W_setI, W_setF, W_setAs, W_meth, W_endR, W_for, W_lc, W_ext, W_rg1, rgIE, itsI, seqI, isiI, isiBl, isiNo, W_call, List.getElem?_cons_succ, List.getElem?_cons_zero, Option.getD_some, List.set_cons_succ, List.set_cons_zero, List.length_cons, List.length_nil, Nat.reduceAdd, Nat.zero_add, Nat.reduceEqDiff, Tset1, Tset2, Tset3, wipeE, cmpD, isN, isNN, eqN, eqI, neI, eqB, neB, ltI, leI, addI, subI, intI, seqT, lenE, tupE, eqT, neT, inT, allE, anyE, isiTup, isiInt, itsT, okB, isiB, s_is_within, ixZ h0 h1]
  simp [h2]
  omega
theorem s_check_talk {form : List Int} {tk : List (Int × Int)} {d : D} (ht : Talk form tk) (hd : Row s d (tk.map tP)) : (cl (k + 4)).call "check_talk" [iT form, d] s = .ok .non s := by
  rw [r_check_talk]
  apply W_eq
  unfold b_check_talk
  have hl := ht.len
  have hrow : (cl (k + 3)).call "is_row" [d, .int 0, .int 40] s = .ok (.bl true) s := by
    rcases hd with rfl | ⟨n, rfl, hn⟩
    · rw [s_is_row]
      simp
      omega
    · rw [s_is_rowL hn]
      simp
      omega
  obtain ⟨w, hw1, hw2, _⟩ := hd.its
  simp only [W_ok, W_m1, W_m2, W_m3, W_const, W_var, W_nil, W_cons, W_tup, W_new, W_asB, W_boolD, W_ofB, W_ite, W_not, W_and, W_or, W_chain, W_seqM, W_oNone, W_oSome, W_skip, W_brk, W_cnt, W_badF, W_seq, W_drop, W_ret, W_setN, W_set, W_par, parGo, W_setI, W_setF, W_setAs, W_meth, W_endR, W_for, W_lc, W_ext, W_rg1, rgIE, itsI, seqI, isiI, isiBl, isiNo, W_call, List.getElem?_cons_succ, List.getElem?_cons_zero, Option.getD_some, List.set_cons_succ, List.set_cons_zero, List.length_cons, List.length_nil, Nat.reduceAdd, Nat.zero_add, Nat.reduceEqDiff, Tset1, Tset2, Tset3, wipeE, cmpD, isN, isNN, eqN, eqI, neI, eqB, neB, ltI, leI, addI, subI, intI, seqT, lenE, tupE, eqT, neT, inT, allE, anyE, isiTup, isiInt, itsT, okB, isiB, hrow]
  simp only [Bool.not_true, if_false, Bool.false_eq_true]
  rw [hw1]
  simp only [W_ok, W_m1, W_m2, W_m3, W_const, W_var, W_nil, W_cons, W_tup, W_new, W_asB, W_boolD, W_ofB, W_ite, W_not, W_and, W_or, W_chain, W_seqM, W_oNone, W_oSome, W_skip, W_brk, W_cnt, W_badF, W_seq, W_drop, W_ret, W_setN, W_set, W_par, parGo, W_setI, W_setF, W_setAs, W_meth, W_endR, W_for, W_lc, W_ext, W_rg1, rgIE, itsI, seqI, isiI, isiBl, isiNo, W_call, List.getElem?_cons_succ, List.getElem?_cons_zero, Option.getD_some, List.set_cons_succ, List.set_cons_zero, List.length_cons, List.length_nil, Nat.reduceAdd, Nat.zero_add, Nat.reduceEqDiff, Tset1, Tset2, Tset3, wipeE, cmpD, isN, isNN, eqN, eqI, neI, eqB, neB, ltI, leI, addI, subI, intI, seqT, lenE, tupE, eqT, neT, inT, allE, anyE, isiTup, isiInt, itsT, okB, isiB, enumI, pairsD_map]
  refine W_goT _ (fun rest env s' => s' = s ∧ (∃ d2 d3, env = [some (iT form), some d, d2, d3]) ∧ ∀ p ∈ rest, p.1 ∈ tk) ?_ ?_ _ _ _ ?_
  · rintro env s' ⟨rfl, ⟨d2, d3, rfl⟩, h⟩
    exact ⟨trivial, rfl⟩
  · rintro p rest env s' ⟨rfl, ⟨d2, d3, rfl⟩, h⟩
    refine ⟨_, rfl, ?_⟩
    obtain ⟨h0, n, h1, h2, h3⟩ := ht.val p.1 (h p List.mem_cons_self)
    simp only [W_ok, W_m1, W_m2, W_m3, W_const, W_var, W_nil, W_cons, W_tup, W_new, W_asB, W_boolD, W_ofB, W_ite, W_not, W_and, W_or, W_chain, W_seqM, W_oNone, W_oSome, W_skip, W_brk, W_cnt, W_badF, W_seq, W_drop, W_ret, W_setN, W_set, W_par, parGo, W_setI, W_setF, W_setAs, W_meth, W_endR, W_for, W_lc, W_ext, W_rg1, rgIE, itsI, seqI, isiI, isiBl, isiNo, W_call, List.getElem?_cons_succ, List.getElem?_cons_zero, Option.getD_some, List.set_cons_succ, List.set_cons_zero, List.length_cons, List.length_nil, Nat.reduceAdd, Nat.zero_add, Nat.reduceEqDiff, Tset1, Tset2, Tset3, wipeE, cmpD, isN, isNN, eqN, eqI, neI, eqB, neB, ltI, leI, addI, subI, intI, seqT, lenE, tupE, eqT, neT, inT, allE, anyE, isiTup, isiInt, itsT, okB, isiB, s_is_answer h0 h1 h2 h3]
    simp only [Bool.not_true, if_false, Bool.false_eq_true]
    exact ⟨hw2, trivial, ⟨_, _, rfl⟩, fun p hm => h p (List.mem_cons_of_mem _ hm)⟩
  · exact ⟨rfl, ⟨_, _, rfl⟩, fun p hp => by rw [(List.mem_zipIdx' hp).2]; exact List.getElem_mem _⟩
end
end Law_k72

set_option Elab.async false
set_option maxRecDepth 100000
set_option linter.all false
set_option maxHeartbeats 1000000
namespace Law_k72
open PySem L2 Mini
/-- which answers of a talk are false at a fault -/
def wrongP (f : List Int) (p : (Int × Int) × Nat) : Bool := !decide (f.getD p.1.1.toNat 0 = p.1.2)
def falseAt (f : List Int) (tk : List (Int × Int)) : List Nat := (tk.zipIdx.filter (wrongP f)).map (·.2)
def manyF (f : List Int) (tk : List (Int × Int)) : Int := ((falseAt f tk).length : Nat)
def pD (p : List Int × Int) : D := .tup [iT p.1, .int p.2]
def leftIn (some : List (List Int)) (lies : Int) (tk : List (Int × Int)) : List (List Int × Int) := (some.filter fun f => decide (manyF f tk ≤ lies)).map fun f => (f, lies - manyF f tk)
/-- the talk's fields are the fault's -/
def Fits (f : List Int) (tk : List (Int × Int)) : Prop := ∀ p ∈ tk, 0 ≤ p.1 ∧ p.1.toNat < f.length
theorem allF_aux : ∀ (rest : List Int) (found : List (List Int)) (n : Nat), (∀ f ∈ found, f.length = n) → ∀ f ∈ rest.foldl stepF found, f.length = n + rest.length
  | [], found, n, h, f, hf => h f hf
  | m :: rest, found, n, h, f, hf => by
    have := allF_aux rest (stepF found m) (n + 1) (fun g hg => by
      unfold stepF at hg
      obtain ⟨a, ha, hg⟩ := List.mem_flatMap.mp hg
      obtain ⟨v, _, rfl⟩ := List.mem_map.mp hg
      simp [h a ha]) f hf
    rw [List.length_cons]
    omega
theorem allF_flen {form : List Int} {f : List Int} (h : f ∈ allF form) : f.length = form.length := by
  have := allF_aux form [[]] 0 (by simp) f h
  omega
theorem Talk.fits {form : List Int} {tk : List (Int × Int)} (ht : Talk form tk) {f : List Int} (h : f.length = form.length) : Fits f tk := fun p hp => by
  obtain ⟨h0, n, h1, _⟩ := ht.val p hp
  have := (List.getElem?_eq_some_iff.mp h1).1
  exact ⟨h0, by omega⟩
section
variable {k : Nat} {s : S}
theorem zip_talk {tk : List (Int × Int)} {p : (Int × Int) × Nat} (h : p ∈ tk.zipIdx) : p.1 ∈ tk := by
  rw [(List.mem_zipIdx' h).2]
  exact List.getElem_mem _
theorem w_false_at (c : Cl) {f : List Int} {tk : List (Int × Int)} {d : D} (hl : tk.length ≤ 1000) (hf : Fits f tk) (hd : Row s d (tk.map tP)) :
    (b_false_at c [some (iT f), some d, none, none, none] s).bind endR = .ok (.ref s.length) (s ++ [.lst ((falseAt f tk).map nI)]) := by
  apply W_eq
  unfold b_false_at
  obtain ⟨w, hw1, hw2, _⟩ := hd.its
  simp only [W_ok, W_m1, W_m2, W_m3, W_const, W_var, W_nil, W_cons, W_tup, W_new, W_asB, W_boolD, W_ofB, W_ite, W_not, W_and, W_or, W_chain, W_seqM, W_oNone, W_oSome, W_skip, W_brk, W_cnt, W_badF, W_seq, W_drop, W_ret, W_setN, W_set, W_par, parGo, W_setI, W_setF, W_setAs, W_meth, W_endR, W_for, W_lc, W_ext, W_rg1, rgIE, itsI, seqI, isiI, isiBl, isiNo, W_call, List.getElem?_cons_succ, List.getElem?_cons_zero, Option.getD_some, List.set_cons_succ, List.set_cons_zero, List.length_cons, List.length_nil, Nat.reduceAdd, Nat.zero_add, Nat.reduceEqDiff, Tset1, Tset2, Tset3, wipeE, cmpD, isN, isNN, eqN, eqI, neI, eqB, neB, ltI, leI, addI, subI, intI, seqT, lenE, tupE, eqT, neT, inT, allE, anyE, isiTup, isiInt, itsT, okB, isiB]
  rw [hw1]
  simp only [W_ok, W_m1, W_m2, W_m3, W_const, W_var, W_nil, W_cons, W_tup, W_new, W_asB, W_boolD, W_ofB, W_ite, W_not, W_and, W_or, W_chain, W_seqM, W_oNone, W_oSome, W_skip, W_brk, W_cnt, W_badF, W_seq, W_drop, W_ret, W_setN, W_set, W_par, parGo, W_setI, W_setF, W_setAs, W_meth, W_endR, W_for, W_lc, W_ext, W_rg1, rgIE, itsI, seqI, isiI, isiBl, isiNo, W_call, List.getElem?_cons_succ, List.getElem?_cons_zero, Option.getD_some, List.set_cons_succ, List.set_cons_zero, List.length_cons, List.length_nil, Nat.reduceAdd, Nat.zero_add, Nat.reduceEqDiff, Tset1, Tset2, Tset3, wipeE, cmpD, isN, isNN, eqN, eqI, neI, eqB, neB, ltI, leI, addI, subI, intI, seqT, lenE, tupE, eqT, neT, inT, allE, anyE, isiTup, isiInt, itsT, okB, isiB, enumI, pairsD_map]
  refine ⟨size_ok (by simp; omega), W_of_eq (lcGo_over hw2 _ (wrongP f) (fun p => nI p.2) _ fun p hp => ⟨_, rfl, ?_, fun _ => ?_⟩) ?_⟩
  · obtain ⟨h0, h1⟩ := hf p.1 (zip_talk hp)
    have e : f[p.1.1.toNat]? = some (f.getD p.1.1.toNat 0) := by
      rw [List.getD_eq_getElem?_getD, List.getElem?_eq_getElem h1]
      rfl
    simp only [W_ok, W_m1, W_m2, W_m3, W_const, W_var, W_nil, W_cons, W_tup, W_new, W_asB, W_boolD, W_ofB, W_ite, W_not, W_and, W_or, W_chain, W_seqM, W_oNone, W_oSome, W_skip, W_brk, W_cnt, W_badF, W_seq, W_drop, W_ret, W_setN, W_set, W_par, parGo, W_setI, W_setF, W_setAs, W_meth, W_endR, W_for, W_lc, W_ext, W_rg1, rgIE, itsI, seqI, isiI, isiBl, isiNo, W_call, List.getElem?_cons_succ, List.getElem?_cons_zero, Option.getD_some, List.set_cons_succ, List.set_cons_zero, List.length_cons, List.length_nil, Nat.reduceAdd, Nat.zero_add, Nat.reduceEqDiff, Tset1, Tset2, Tset3, wipeE, cmpD, isN, isNN, eqN, eqI, neI, eqB, neB, ltI, leI, addI, subI, intI, seqT, lenE, tupE, eqT, neT, inT, allE, anyE, isiTup, isiInt, itsT, okB, isiB, ixZ h0 e]
    simp [wrongP]
  · simp only [W_ok, W_m1, W_m2, W_m3, W_const, W_var, W_nil, W_cons, W_tup, W_new, W_asB, W_boolD, W_ofB, W_ite, W_not, W_and, W_or, W_chain, W_seqM, W_oNone, W_oSome, W_skip, W_brk, W_cnt, W_badF, W_seq, W_drop, W_ret, W_setN, W_set, W_par, parGo, W_setI, W_setF, W_setAs, W_meth, W_endR, W_for, W_lc, W_ext, W_rg1, rgIE, itsI, seqI, isiI, isiBl, isiNo, W_call, List.getElem?_cons_succ, List.getElem?_cons_zero, Option.getD_some, List.set_cons_succ, List.set_cons_zero, List.length_cons, List.length_nil, Nat.reduceAdd, Nat.zero_add, Nat.reduceEqDiff, Tset1, Tset2, Tset3, wipeE, cmpD, isN, isNN, eqN, eqI, neI, eqB, neB, ltI, leI, addI, subI, intI, seqT, lenE, tupE, eqT, neT, inT, allE, anyE, isiTup, isiInt, itsT, okB, isiB]
    simp [nI]
  · simp [falseAt]
theorem s_false_at {f : List Int} {tk : List (Int × Int)} {d : D} (hl : tk.length ≤ 1000) (hf : Fits f tk) (hd : Row s d (tk.map tP)) :
    (cl (k + 1)).call "false_at" [iT f, d] s = .ok (.ref s.length) (s ++ [.lst ((falseAt f tk).map nI)]) := by
  rw [r_false_at]
  exact w_false_at _ hl hf hd
theorem row_ne {d : D} {ds : List D} {b : Nat} {form : List Int} {rules : List (List (List Int))} {L : D} (h : Row s d ds) (hb : s[b]? = some (bookO form rules L)) : ∀ n, d = .ref n → n ≠ b ∧ n < s.length := by
  rintro n rfl
  rcases h with h | ⟨m, h, h2⟩
  · cases h
  · cases h
    refine ⟨?_, (List.getElem?_eq_some_iff.mp h2).1⟩
    rintro rfl
    rw [hb] at h2
    cases h2
theorem leftIn_len {some : List (List Int)} {lies : Int} {tk : List (Int × Int)} : (leftIn some lies tk).length ≤ some.length := by
  unfold leftIn
  rw [List.length_map]
  exact List.length_filter_le _ _
theorem leftIn_cons {f : List Int} {some : List (List Int)} {lies : Int} {tk : List (Int × Int)} : leftIn (f :: some) lies tk = (if manyF f tk ≤ lies then [(f, lies - manyF f tk)] else []) ++ leftIn some lies tk := by
  unfold leftIn
  rw [List.filter_cons]
  by_cases h : manyF f tk ≤ lies <;> simp [h]
theorem s_left_in {form : List Int} {rules : List (List (List Int))} {b : Nat} {lies : Int} {tk : List (Int × Int)} {d : D} (hf : Form form) (hr : Rules form rules) (hb : BookAt s b form rules) (ht : Talk form tk) (hd : Row s d (tk.map tP)) :
    W ((cl (k + 4)).call "left_in" [.ref b, .int lies, d] s) fun x s' => ∃ n, x = .ref n ∧ s'[n]? = some (.lst ((leftIn (lawF form rules) lies tk).map pD)) ∧ s.length ≤ n ∧ BookAt s' b form rules ∧ Fr (· = b) s s' := by
  rw [r_left_in]
  unfold b_left_in
  simp only [W_ok, W_m1, W_m2, W_m3, W_const, W_var, W_nil, W_cons, W_tup, W_new, W_asB, W_boolD, W_ofB, W_ite, W_not, W_and, W_or, W_chain, W_seqM, W_oNone, W_oSome, W_skip, W_brk, W_cnt, W_badF, W_seq, W_drop, W_ret, W_setN, W_set, W_par, parGo, W_setI, W_setF, W_setAs, W_meth, W_endR, W_for, W_lc, W_ext, W_rg1, rgIE, itsI, seqI, isiI, isiBl, isiNo, W_call, List.getElem?_cons_succ, List.getElem?_cons_zero, Option.getD_some, List.set_cons_succ, List.set_cons_zero, List.length_cons, List.length_nil, Nat.reduceAdd, Nat.zero_add, Nat.reduceEqDiff, Tset1, Tset2, Tset3, wipeE, cmpD, isN, isNN, eqN, eqI, neI, eqB, neB, ltI, leI, addI, subI, intI, seqT, lenE, tupE, eqT, neT, inT, allE, anyE, isiTup, isiInt, itsT, okB, isiB]
  obtain ⟨L, hb1, hb2⟩ := id hb
  have hbl := (List.getElem?_eq_some_iff.mp hb1).1
  have hb0 : BookAt (s ++ [.lst []]) b form rules := by
    refine ⟨L, at_old hb1, ?_⟩
    rcases hb2 with h | ⟨n, h, h3, h4⟩
    · exact .inl h
    · exact .inr ⟨n, h, h3, at_old h4⟩
  refine (s_listed hf hr hb0).mono fun x s1 ⟨n, e, g1, g2, g3, g4, g5⟩ => ?_
  subst e
  have hnb : s.length ≠ b := by omega
  have hn3 : s1[s.length]? = some (.lst []) := g4 _ _ at_len hnb
  have hne : n ≠ s.length := by
    rintro rfl
    have h := g5 (by simp)
    rw [at_old hb1] at h
    have hL : L = .ref s.length := by
      have h := Option.some.inj h
      unfold bookO at h
      injection h with h1 h2
      simp at h2
      exact h2
    rcases hb2 with h | ⟨n, h, h3, h4⟩
    · rw [hL] at h; cases h
    · rw [hL] at h
      cases h
      have := (List.getElem?_eq_some_iff.mp h4).1
      omega
  have hd1 : Row s1 d (tk.map tP) := (hd.fr (X := No) Fr.push (fun _ _ h => h)).fr g4 fun m hm => (row_ne hd hb1 m hm).1
  have hll := lawF_len (rules := rules) hf
  have htl := ht.len
  simp only [W_ok, W_m1, W_m2, W_m3, W_const, W_var, W_nil, W_cons, W_tup, W_new, W_asB, W_boolD, W_ofB, W_ite, W_not, W_and, W_or, W_chain, W_seqM, W_oNone, W_oSome, W_skip, W_brk, W_cnt, W_badF, W_seq, W_drop, W_ret, W_setN, W_set, W_par, parGo, W_setI, W_setF, W_setAs, W_meth, W_endR, W_for, W_lc, W_ext, W_rg1, rgIE, itsI, seqI, isiI, isiBl, isiNo, W_call, List.getElem?_cons_succ, List.getElem?_cons_zero, Option.getD_some, List.set_cons_succ, List.set_cons_zero, List.length_cons, List.length_nil, Nat.reduceAdd, Nat.zero_add, Nat.reduceEqDiff, Tset1, Tset2, Tset3, wipeE, cmpD, isN, isNN, eqN, eqI, neI, eqB, neB, ltI, leI, addI, subI, intI, seqT, lenE, tupE, eqT, neT, inT, allE, anyE, isiTup, isiInt, itsT, okB, isiB, itsL g1]
  refine W_goT iT (fun rest env s' => ∃ acc d4 d5, env = [some (.ref b), some (.int lies), some d, some (.ref s.length), d4, d5] ∧ s'[s.length]? = some (.lst (acc.map pD)) ∧ acc ++ leftIn rest lies tk = leftIn (lawF form rules) lies tk ∧ Fr (· = s.length) s1 s' ∧
    ∀ f ∈ rest, f ∈ lawF form rules) ?_ ?_ _ _ _ ?_
  · rintro env s2 ⟨acc, d4, d5, rfl, h1, h2, h3, _⟩
    simp only [W_ok, W_m1, W_m2, W_m3, W_const, W_var, W_nil, W_cons, W_tup, W_new, W_asB, W_boolD, W_ofB, W_ite, W_not, W_and, W_or, W_chain, W_seqM, W_oNone, W_oSome, W_skip, W_brk, W_cnt, W_badF, W_seq, W_drop, W_ret, W_setN, W_set, W_par, parGo, W_setI, W_setF, W_setAs, W_meth, W_endR, W_for, W_lc, W_ext, W_rg1, rgIE, itsI, seqI, isiI, isiBl, isiNo, W_call, List.getElem?_cons_succ, List.getElem?_cons_zero, Option.getD_some, List.set_cons_succ, List.set_cons_zero, List.length_cons, List.length_nil, Nat.reduceAdd, Nat.zero_add, Nat.reduceEqDiff, Tset1, Tset2, Tset3, wipeE, cmpD, isN, isNN, eqN, eqI, neI, eqB, neB, ltI, leI, addI, subI, intI, seqT, lenE, tupE, eqT, neT, inT, allE, anyE, isiTup, isiInt, itsT, okB, isiB]
    refine ⟨s.length, rfl, ?_, Nat.le_refl _, ⟨.ref n, h3 _ _ g3 (Ne.symm hnb), .inr ⟨n, rfl, g2, h3 _ _ g1 hne⟩⟩, ?_⟩
    · rw [h1, ← h2]
      simp [leftIn]
    · intro m o hm hx
      have hlt := (List.getElem?_eq_some_iff.mp hm).1
      exact h3 _ _ (g4 _ _ (at_old hm) hx) (by omega)
  · rintro f rest env s2 ⟨acc, d4, d5, rfl, h1, h2, h3, h4⟩
    refine ⟨_, rfl, ?_⟩
    have hfm := h4 f List.mem_cons_self
    have hfl : f.length = form.length := allF_flen (List.mem_filter.mp hfm).1
    have hd2 : Row s2 d (tk.map tP) := hd1.fr h3 fun m hm => by have := (row_ne hd hb1 m hm).2; omega
    have hnl : s.length < s2.length := (List.getElem?_eq_some_iff.mp h1).1
    simp only [W_ok, W_m1, W_m2, W_m3, W_const, W_var, W_nil, W_cons, W_tup, W_new, W_asB, W_boolD, W_ofB, W_ite, W_not, W_and, W_or, W_chain, W_seqM, W_oNone, W_oSome, W_skip, W_brk, W_cnt, W_badF, W_seq, W_drop, W_ret, W_setN, W_set, W_par, parGo, W_setI, W_setF, W_setAs, W_meth, W_endR, W_for, W_lc, W_ext, W_rg1, rgIE, itsI, seqI, isiI, isiBl, isiNo, W_call, List.getElem?_cons_succ, List.getElem?_cons_zero, Option.getD_some, List.set_cons_succ, List.set_cons_zero, List.length_cons, List.length_nil, Nat.reduceAdd, Nat.zero_add, Nat.reduceEqDiff, Tset1, Tset2, Tset3, wipeE, cmpD, isN, isNN, eqN, eqI, neI, eqB, neB, ltI, leI, addI, subI, intI, seqT, lenE, tupE, eqT, neT, inT, allE, anyE, isiTup, isiInt, itsT, okB, isiB, s_false_at (k := k + 2) (by omega) (ht.fits hfl) hd2, seqL at_len]
    have hmany : (((falseAt f tk).map nI).length : Int) = manyF f tk := by simp [manyF]
    simp only [List.length_map]
    rw [show ((falseAt f tk).length : Int) = manyF f tk from rfl]
    have hw : (s2 ++ [O.lst ((falseAt f tk).map nI)])[n]? = some (.lst ((lawF form rules).map iT)) := at_old (h3 _ _ g1 hne)
    have h1' : (s2 ++ [O.lst ((falseAt f tk).map nI)])[s.length]? = some (.lst (acc.map pD)) := at_old h1
    have hfr : Fr (· = s.length) s1 (s2 ++ [O.lst ((falseAt f tk).map nI)]) := h3.trans Fr.push
    rw [leftIn_cons] at h2
    by_cases hc : manyF f tk ≤ lies
    · have hacc : acc.length < 4001 := by
        have := congrArg List.length h2
        have h5 := leftIn_len (some := lawF form rules) (lies := lies) (tk := tk)
        simp [hc] at this
        omega
      simp only [decide_eq_true hc, if_true]
      simp only [W_ok, W_m1, W_m2, W_m3, W_const, W_var, W_nil, W_cons, W_tup, W_new, W_asB, W_boolD, W_ofB, W_ite, W_not, W_and, W_or, W_chain, W_seqM, W_oNone, W_oSome, W_skip, W_brk, W_cnt, W_badF, W_seq, W_drop, W_ret, W_setN, W_set, W_par, parGo, W_setI, W_setF, W_setAs, W_meth, W_endR, W_for, W_lc, W_ext, W_rg1, rgIE, itsI, seqI, isiI, isiBl, isiNo, W_call, List.getElem?_cons_succ, List.getElem?_cons_zero, Option.getD_some, List.set_cons_succ, List.set_cons_zero, List.length_cons, List.length_nil, Nat.reduceAdd, Nat.zero_add, Nat.reduceEqDiff, Tset1, Tset2, Tset3, wipeE, cmpD, isN, isNN, eqN, eqI, neI, eqB, neB, ltI, leI, addI, subI, intI, seqT, lenE, tupE, eqT, neT, inT, allE, anyE, isiTup, isiInt, itsT, okB, isiB, isL h1', appL h1' (by rw [sizeLine_eq]; simp; omega)]
      refine ⟨trivial, watch_one ?_, acc ++ [(f, lies - manyF f tk)], _, _, rfl, ?_, ?_, hfr.trans (Fr.set rfl), fun g hg => h4 g (List.mem_cons_of_mem _ hg)⟩
      · rw [List.getElem?_set_ne (Ne.symm hne)]
        exact hw
      · rw [List.getElem?_set_self (by simp; omega)]
        simp [pD]
      · rw [← h2]
        simp [hc]
    · simp only [decide_eq_false hc, if_false, Bool.false_eq_true]
      refine ⟨watch_one hw, acc, _, _, rfl, h1', ?_, hfr, fun g hg => h4 g (List.mem_cons_of_mem _ hg)⟩
      rw [← h2]
      simp [hc]
  · exact ⟨[], _, _, rfl, hn3, rfl, Fr.refl, fun f hf => hf⟩
end
end Law_k72

set_option Elab.async false
set_option maxRecDepth 100000
set_option linter.all false
set_option maxHeartbeats 1000000
namespace Law_k72
open PySem L2 Mini
def leftF (some : List (List Int)) (lies : Int) (tk : List (Int × Int)) : List (List Int) := some.filter fun f => decide (manyF f tk ≤ lies)
section
variable {k : Nat} {s : S}
theorem s_left_by {form : List Int} {rules : List (List (List Int))} {b : Nat} {lies : Int} {tk : List (Int × Int)} {d : D} (hf : Form form) (hr : Rules form rules) (hb : BookAt s b form rules) (ht : Talk form tk) (hd : Row s d (tk.map tP)) (h0 : 0 ≤ lies) (h3 : lies ≤ 3) :
    W ((cl (k + 5)).call "left_by" [.ref b, .int lies, d] s) fun x s' => ∃ n, x = .ref n ∧ s'[n]? = some (.lst ((leftIn (lawF form rules) lies tk).map pD)) ∧ s.length ≤ n ∧ BookAt s' b form rules ∧ Fr (· = b) s s' := by
  rw [r_left_by]
  unfold b_left_by
  obtain ⟨L, hb1, hb2⟩ := id hb
  simp only [W_ok, W_m1, W_m2, W_m3, W_const, W_var, W_nil, W_cons, W_tup, W_new, W_asB, W_boolD, W_ofB, W_ite, W_not, W_and, W_or, W_chain, W_seqM, W_oNone, W_oSome, W_skip, W_brk, W_cnt, W_badF, W_seq, W_drop, W_ret, W_setN, W_set, W_par, parGo, W_setI, W_setF, W_setAs, W_meth, W_endR, W_for, W_lc, W_ext, W_rg1, rgIE, itsI, seqI, isiI, isiBl, isiNo, W_call, List.getElem?_cons_succ, List.getElem?_cons_zero, Option.getD_some, List.set_cons_succ, List.set_cons_zero, List.length_cons, List.length_nil, Nat.reduceAdd, Nat.zero_add, Nat.reduceEqDiff, Tset1, Tset2, Tset3, wipeE, cmpD, isN, isNN, eqN, eqI, neI, eqB, neB, ltI, leI, addI, subI, intI, seqT, lenE, tupE, eqT, neT, inT, allE, anyE, isiTup, isiInt, itsT, okB, isiB, s_check_lies (k := k + 1) h0 h3, fldE hb1 ok_form lk_form, s_check_talk ht hd]
  exact s_left_in hf hr hb ht hd
end
end Law_k72

set_option Elab.async false
set_option maxRecDepth 100000
set_option linter.all false
set_option maxHeartbeats 1000000
namespace Law_k72
open PySem L2 Mini
section
variable {k : Nat} {s : S}
theorem frh {h : Nat} {o : O} {s : S} : Fr (· = h) s (s.set h o) := Fr.set rfl
theorem s_draw {h c : Nat} {n : Int} (H : Hand s h c) (h0 : 0 < n) (h1 : n < 18446744073709551616) :
    W ((cl (k + 1)).call "_law_draw" [.ref h, .int n] s) fun d s' => ∃ r : Int, d = .int r ∧ 0 ≤ r ∧ r < n ∧ Hand s' h c ∧ Fr (· = h) s s' := by
  rw [r__law_draw]
  unfold b__law_draw
  rw [W_endR]
  refine W_seqI (fun e s' => ∃ v2, e = [some (.ref h), some (.int n), v2, none, none] ∧ Hand s' h c ∧ Fr (· = h) s s') ?_ ?_
  · obtain ⟨cells, i, j, x, y, H⟩ := H
    simp only [W_ok, W_m1, W_m2, W_m3, W_const, W_var, W_nil, W_cons, W_tup, W_new, W_asB, W_boolD, W_ofB, W_ite, W_not, W_and, W_or, W_chain, W_seqM, W_oNone, W_oSome, W_skip, W_brk, W_cnt, W_badF, W_seq, W_drop, W_ret, W_setN, W_set, W_par, parGo, W_setI, W_setF, W_setAs, W_meth, W_endR, W_for, W_lc, W_ext, W_rg1, rgIE, itsI, seqI, isiI, isiBl, isiNo, W_call, List.getElem?_cons_succ, List.getElem?_cons_zero, Option.getD_some, List.set_cons_succ, List.set_cons_zero, List.length_cons, List.length_nil, Nat.reduceAdd, Nat.zero_add, Nat.reduceEqDiff, Tset1, Tset2, Tset3, wipeE, cmpD, isN, isNN, eqN, eqI, neI, eqB, neB, ltI, leI, addI, subI, intI, seqT, lenE, tupE, eqT, neT, inT, allE, anyE, isiTup, isiInt, itsT, okB, isiB, hx2 H.hh, hx1 H.hh, hx0 H.hh, seqL H.hc]
    by_cases hj : j = 0
    · by_cases hi : (i : Int) < ((cells.map D.int).length : Int)
      · simp only [decide_eq_true hj, decide_eq_true hi, if_true]
        have hi' : i < cells.length := by simpa using hi
        have hcell : (cells.map D.int)[i]? = some (.int (cells[i])) := by simp [hi']
        rw [ixL H.hc hcell]
        simp only [W_ok, W_m1, W_m2, W_m3, W_const, W_var, W_nil, W_cons, W_tup, W_new, W_asB, W_boolD, W_ofB, W_ite, W_not, W_and, W_or, W_chain, W_seqM, W_oNone, W_oSome, W_skip, W_brk, W_cnt, W_badF, W_seq, W_drop, W_ret, W_setN, W_set, W_par, parGo, W_setI, W_setF, W_setAs, W_meth, W_endR, W_for, W_lc, W_ext, W_rg1, rgIE, itsI, seqI, isiI, isiBl, isiNo, W_call, List.getElem?_cons_succ, List.getElem?_cons_zero, Option.getD_some, List.set_cons_succ, List.set_cons_zero, List.length_cons, List.length_nil, Nat.reduceAdd, Nat.zero_add, Nat.reduceEqDiff, Tset1, Tset2, Tset3, wipeE, cmpD, isN, isNN, eqN, eqI, neI, eqB, neB, ltI, leI, addI, subI, intI, seqT, lenE, tupE, eqT, neT, inT, allE, anyE, isiTup, isiInt, itsT, okB, isiB, hx1 H.hh, hs1 H.hh]
        have H1 := H.put (i' := i + 1) (j' := j) (x' := x) (y' := y) H.j0 H.x0 H.x1 H.y0
        have e1 : ((i : Int) + 1) = ((i + 1 : Nat) : Int) := by omega
        rw [e1]
        simp only [hx3 H1.hh, W_ok, W_m1, W_m2, W_m3, W_const, W_var, W_nil, W_cons, W_tup, W_new, W_asB, W_boolD, W_ofB, W_ite, W_not, W_and, W_or, W_chain, W_seqM, W_oNone, W_oSome, W_skip, W_brk, W_cnt, W_badF, W_seq, W_drop, W_ret, W_setN, W_set, W_par, parGo, W_setI, W_setF, W_setAs, W_meth, W_endR, W_for, W_lc, W_ext, W_rg1, rgIE, itsI, seqI, isiI, isiBl, isiNo, W_call, List.getElem?_cons_succ, List.getElem?_cons_zero, Option.getD_some, List.set_cons_succ, List.set_cons_zero, List.length_cons, List.length_nil, Nat.reduceAdd, Nat.zero_add, Nat.reduceEqDiff, Tset1, Tset2, Tset3, wipeE, cmpD, isN, isNN, eqN, eqI, neI, eqB, neB, ltI, leI, addI, subI, intI, seqT, lenE, tupE, eqT, neT, inT, allE, anyE, isiTup, isiInt, itsT, okB, isiB]
        rw [mulI (smallR (by decide) (by decide))]
        simp only [W_ok, W_m1, W_m2, W_m3, W_const, W_var, W_nil, W_cons, W_tup, W_new, W_asB, W_boolD, W_ofB, W_ite, W_not, W_and, W_or, W_chain, W_seqM, W_oNone, W_oSome, W_skip, W_brk, W_cnt, W_badF, W_seq, W_drop, W_ret, W_setN, W_set, W_par, parGo, W_setI, W_setF, W_setAs, W_meth, W_endR, W_for, W_lc, W_ext, W_rg1, rgIE, itsI, seqI, isiI, isiBl, isiNo, W_call, List.getElem?_cons_succ, List.getElem?_cons_zero, Option.getD_some, List.set_cons_succ, List.set_cons_zero, List.length_cons, List.length_nil, Nat.reduceAdd, Nat.zero_add, Nat.reduceEqDiff, Tset1, Tset2, Tset3, wipeE, cmpD, isN, isNN, eqN, eqI, neI, eqB, neB, ltI, leI, addI, subI, intI, seqT, lenE, tupE, eqT, neT, inT, allE, anyE, isiTup, isiInt, itsT, okB, isiB]
        rw [modI (by decide)]
        simp only [W_ok, W_m1, W_m2, W_m3, W_const, W_var, W_nil, W_cons, W_tup, W_new, W_asB, W_boolD, W_ofB, W_ite, W_not, W_and, W_or, W_chain, W_seqM, W_oNone, W_oSome, W_skip, W_brk, W_cnt, W_badF, W_seq, W_drop, W_ret, W_setN, W_set, W_par, parGo, W_setI, W_setF, W_setAs, W_meth, W_endR, W_for, W_lc, W_ext, W_rg1, rgIE, itsI, seqI, isiI, isiBl, isiNo, W_call, List.getElem?_cons_succ, List.getElem?_cons_zero, Option.getD_some, List.set_cons_succ, List.set_cons_zero, List.length_cons, List.length_nil, Nat.reduceAdd, Nat.zero_add, Nat.reduceEqDiff, Tset1, Tset2, Tset3, wipeE, cmpD, isN, isNN, eqN, eqI, neI, eqB, neB, ltI, leI, addI, subI, intI, seqT, lenE, tupE, eqT, neT, inT, allE, anyE, isiTup, isiInt, itsT, okB, isiB, hs3 H1.hh]
        have hm0 := Int.emod_nonneg (x * 69621 + cells[i] + 29) (b := 2147483629) (by decide)
        have hm1 := Int.emod_lt_of_pos (x * 69621 + cells[i] + 29) (b := 2147483629) (by decide)
        have H2 := H1.put (i' := i + 1) (j' := j) (x' := (x * 69621 + cells[i] + 29) % 2147483629) (y' := y) H1.j0 hm0 (by omega) H1.y0
        rw [powI (by decide)]
        simp only [W_ok, W_m1, W_m2, W_m3, W_const, W_var, W_nil, W_cons, W_tup, W_new, W_asB, W_boolD, W_ofB, W_ite, W_not, W_and, W_or, W_chain, W_seqM, W_oNone, W_oSome, W_skip, W_brk, W_cnt, W_badF, W_seq, W_drop, W_ret, W_setN, W_set, W_par, parGo, W_setI, W_setF, W_setAs, W_meth, W_endR, W_for, W_lc, W_ext, W_rg1, rgIE, itsI, seqI, isiI, isiBl, isiNo, W_call, List.getElem?_cons_succ, List.getElem?_cons_zero, Option.getD_some, List.set_cons_succ, List.set_cons_zero, List.length_cons, List.length_nil, Nat.reduceAdd, Nat.zero_add, Nat.reduceEqDiff, Tset1, Tset2, Tset3, wipeE, cmpD, isN, isNN, eqN, eqI, neI, eqB, neB, ltI, leI, addI, subI, intI, seqT, lenE, tupE, eqT, neT, inT, allE, anyE, isiTup, isiInt, itsT, okB, isiB]
        split
        · rw [hs2 H2.hh]
          simp only [W_ok, W_m1, W_m2, W_m3, W_const, W_var, W_nil, W_cons, W_tup, W_new, W_asB, W_boolD, W_ofB, W_ite, W_not, W_and, W_or, W_chain, W_seqM, W_oNone, W_oSome, W_skip, W_brk, W_cnt, W_badF, W_seq, W_drop, W_ret, W_setN, W_set, W_par, parGo, W_setI, W_setF, W_setAs, W_meth, W_endR, W_for, W_lc, W_ext, W_rg1, rgIE, itsI, seqI, isiI, isiBl, isiNo, W_call, List.getElem?_cons_succ, List.getElem?_cons_zero, Option.getD_some, List.set_cons_succ, List.set_cons_zero, List.length_cons, List.length_nil, Nat.reduceAdd, Nat.zero_add, Nat.reduceEqDiff, Tset1, Tset2, Tset3, wipeE, cmpD, isN, isNN, eqN, eqI, neI, eqB, neB, ltI, leI, addI, subI, intI, seqT, lenE, tupE, eqT, neT, inT, allE, anyE, isiTup, isiInt, itsT, okB, isiB]
          refine ⟨_, rfl, _, rfl, ⟨cells, _, _, _, _, H2.put (H.v0 _ (List.getElem_mem _)) hm0 (by omega) H1.y0⟩, ?_⟩
          exact ((frh).trans (frh)).trans (frh)
        · exact ⟨_, rfl, _, rfl, ⟨cells, _, _, _, _, H2⟩, (frh).trans (frh)⟩
      · simp only [decide_eq_true hj, decide_eq_false hi, if_true, if_false, Bool.false_eq_true]
        exact ⟨_, rfl, _, rfl, ⟨cells, _, _, _, _, H⟩, Fr.refl⟩
    · simp only [decide_eq_false hj, if_false, Bool.false_eq_true]
      exact ⟨_, rfl, _, rfl, ⟨cells, _, _, _, _, H⟩, Fr.refl⟩
  · rintro e s1 ⟨v2, rfl, ⟨cells, i, j, x, y, H⟩, hf⟩
    simp only [W_ok, W_m1, W_m2, W_m3, W_const, W_var, W_nil, W_cons, W_tup, W_new, W_asB, W_boolD, W_ofB, W_ite, W_not, W_and, W_or, W_chain, W_seqM, W_oNone, W_oSome, W_skip, W_brk, W_cnt, W_badF, W_seq, W_drop, W_ret, W_setN, W_set, W_par, parGo, W_setI, W_setF, W_setAs, W_meth, W_endR, W_for, W_lc, W_ext, W_rg1, rgIE, itsI, seqI, isiI, isiBl, isiNo, W_call, List.getElem?_cons_succ, List.getElem?_cons_zero, Option.getD_some, List.set_cons_succ, List.set_cons_zero, List.length_cons, List.length_nil, Nat.reduceAdd, Nat.zero_add, Nat.reduceEqDiff, Tset1, Tset2, Tset3, wipeE, cmpD, isN, isNN, eqN, eqI, neI, eqB, neB, ltI, leI, addI, subI, intI, seqT, lenE, tupE, eqT, neT, inT, allE, anyE, isiTup, isiInt, itsT, okB, isiB, hx2 H.hh]
    by_cases hj : 0 < j
    · simp only [decide_eq_true hj, if_true]
      rw [modI h0]
      simp only [W_ok, W_m1, W_m2, W_m3, W_const, W_var, W_nil, W_cons, W_tup, W_new, W_asB, W_boolD, W_ofB, W_ite, W_not, W_and, W_or, W_chain, W_seqM, W_oNone, W_oSome, W_skip, W_brk, W_cnt, W_badF, W_seq, W_drop, W_ret, W_setN, W_set, W_par, parGo, W_setI, W_setF, W_setAs, W_meth, W_endR, W_for, W_lc, W_ext, W_rg1, rgIE, itsI, seqI, isiI, isiBl, isiNo, W_call, List.getElem?_cons_succ, List.getElem?_cons_zero, Option.getD_some, List.set_cons_succ, List.set_cons_zero, List.length_cons, List.length_nil, Nat.reduceAdd, Nat.zero_add, Nat.reduceEqDiff, Tset1, Tset2, Tset3, wipeE, cmpD, isN, isNN, eqN, eqI, neI, eqB, neB, ltI, leI, addI, subI, intI, seqT, lenE, tupE, eqT, neT, inT, allE, anyE, isiTup, isiInt, itsT, okB, isiB, hx2 H.hh]
      rw [divI ⟨h0, h1⟩]
      simp only [W_ok, W_m1, W_m2, W_m3, W_const, W_var, W_nil, W_cons, W_tup, W_new, W_asB, W_boolD, W_ofB, W_ite, W_not, W_and, W_or, W_chain, W_seqM, W_oNone, W_oSome, W_skip, W_brk, W_cnt, W_badF, W_seq, W_drop, W_ret, W_setN, W_set, W_par, parGo, W_setI, W_setF, W_setAs, W_meth, W_endR, W_for, W_lc, W_ext, W_rg1, rgIE, itsI, seqI, isiI, isiBl, isiNo, W_call, List.getElem?_cons_succ, List.getElem?_cons_zero, Option.getD_some, List.set_cons_succ, List.set_cons_zero, List.length_cons, List.length_nil, Nat.reduceAdd, Nat.zero_add, Nat.reduceEqDiff, Tset1, Tset2, Tset3, wipeE, cmpD, isN, isNN, eqN, eqI, neI, eqB, neB, ltI, leI, addI, subI, intI, seqT, lenE, tupE, eqT, neT, inT, allE, anyE, isiTup, isiInt, itsT, okB, isiB, hs2 H.hh]
      refine ⟨_, rfl, Int.emod_nonneg _ (by omega), Int.emod_lt_of_pos _ h0, ⟨cells, _, _, _, _, H.put (Int.ediv_nonneg (by omega) (by omega)) H.x0 H.x1 H.y0⟩, hf.trans (frh)⟩
    · simp only [decide_eq_false hj, if_false, Bool.false_eq_true]
      simp only [W_ok, W_m1, W_m2, W_m3, W_const, W_var, W_nil, W_cons, W_tup, W_new, W_asB, W_boolD, W_ofB, W_ite, W_not, W_and, W_or, W_chain, W_seqM, W_oNone, W_oSome, W_skip, W_brk, W_cnt, W_badF, W_seq, W_drop, W_ret, W_setN, W_set, W_par, parGo, W_setI, W_setF, W_setAs, W_meth, W_endR, W_for, W_lc, W_ext, W_rg1, rgIE, itsI, seqI, isiI, isiBl, isiNo, W_call, List.getElem?_cons_succ, List.getElem?_cons_zero, Option.getD_some, List.set_cons_succ, List.set_cons_zero, List.length_cons, List.length_nil, Nat.reduceAdd, Nat.zero_add, Nat.reduceEqDiff, Tset1, Tset2, Tset3, wipeE, cmpD, isN, isNN, eqN, eqI, neI, eqB, neB, ltI, leI, addI, subI, intI, seqT, lenE, tupE, eqT, neT, inT, allE, anyE, isiTup, isiInt, itsT, okB, isiB, hx4 H.hh, hs4 H.hh]
      have H1 := H.put (i' := i) (j' := j) (x' := x) (y' := y + 1) H.j0 H.x0 H.x1 (by have := H.y0; omega)
      simp only [W_ok, W_m1, W_m2, W_m3, W_const, W_var, W_nil, W_cons, W_tup, W_new, W_asB, W_boolD, W_ofB, W_ite, W_not, W_and, W_or, W_chain, W_seqM, W_oNone, W_oSome, W_skip, W_brk, W_cnt, W_badF, W_seq, W_drop, W_ret, W_setN, W_set, W_par, parGo, W_setI, W_setF, W_setAs, W_meth, W_endR, W_for, W_lc, W_ext, W_rg1, rgIE, itsI, seqI, isiI, isiBl, isiNo, W_call, List.getElem?_cons_succ, List.getElem?_cons_zero, Option.getD_some, List.set_cons_succ, List.set_cons_zero, List.length_cons, List.length_nil, Nat.reduceAdd, Nat.zero_add, Nat.reduceEqDiff, Tset1, Tset2, Tset3, wipeE, cmpD, isN, isNN, eqN, eqI, neI, eqB, neB, ltI, leI, addI, subI, intI, seqT, lenE, tupE, eqT, neT, inT, allE, anyE, isiTup, isiInt, itsT, okB, isiB, hx3 H1.hh, hx4 H1.hh]
      rw [mulI (smallL (by decide) (by decide))]
      simp only [W_ok, W_m1, W_m2, W_m3, W_const, W_var, W_nil, W_cons, W_tup, W_new, W_asB, W_boolD, W_ofB, W_ite, W_not, W_and, W_or, W_chain, W_seqM, W_oNone, W_oSome, W_skip, W_brk, W_cnt, W_badF, W_seq, W_drop, W_ret, W_setN, W_set, W_par, parGo, W_setI, W_setF, W_setAs, W_meth, W_endR, W_for, W_lc, W_ext, W_rg1, rgIE, itsI, seqI, isiI, isiBl, isiNo, W_call, List.getElem?_cons_succ, List.getElem?_cons_zero, Option.getD_some, List.set_cons_succ, List.set_cons_zero, List.length_cons, List.length_nil, Nat.reduceAdd, Nat.zero_add, Nat.reduceEqDiff, Tset1, Tset2, Tset3, wipeE, cmpD, isN, isNN, eqN, eqI, neI, eqB, neB, ltI, leI, addI, subI, intI, seqT, lenE, tupE, eqT, neT, inT, allE, anyE, isiTup, isiInt, itsT, okB, isiB]
      rw [mulI (smallR (by decide) (by decide))]
      simp only [W_ok, W_m1, W_m2, W_m3, W_const, W_var, W_nil, W_cons, W_tup, W_new, W_asB, W_boolD, W_ofB, W_ite, W_not, W_and, W_or, W_chain, W_seqM, W_oNone, W_oSome, W_skip, W_brk, W_cnt, W_badF, W_seq, W_drop, W_ret, W_setN, W_set, W_par, parGo, W_setI, W_setF, W_setAs, W_meth, W_endR, W_for, W_lc, W_ext, W_rg1, rgIE, itsI, seqI, isiI, isiBl, isiNo, W_call, List.getElem?_cons_succ, List.getElem?_cons_zero, Option.getD_some, List.set_cons_succ, List.set_cons_zero, List.length_cons, List.length_nil, Nat.reduceAdd, Nat.zero_add, Nat.reduceEqDiff, Tset1, Tset2, Tset3, wipeE, cmpD, isN, isNN, eqN, eqI, neI, eqB, neB, ltI, leI, addI, subI, intI, seqT, lenE, tupE, eqT, neT, inT, allE, anyE, isiTup, isiInt, itsT, okB, isiB]
      rw [modI (by decide)]
      simp only [W_ok, W_m1, W_m2, W_m3, W_const, W_var, W_nil, W_cons, W_tup, W_new, W_asB, W_boolD, W_ofB, W_ite, W_not, W_and, W_or, W_chain, W_seqM, W_oNone, W_oSome, W_skip, W_brk, W_cnt, W_badF, W_seq, W_drop, W_ret, W_setN, W_set, W_par, parGo, W_setI, W_setF, W_setAs, W_meth, W_endR, W_for, W_lc, W_ext, W_rg1, rgIE, itsI, seqI, isiI, isiBl, isiNo, W_call, List.getElem?_cons_succ, List.getElem?_cons_zero, Option.getD_some, List.set_cons_succ, List.set_cons_zero, List.length_cons, List.length_nil, Nat.reduceAdd, Nat.zero_add, Nat.reduceEqDiff, Tset1, Tset2, Tset3, wipeE, cmpD, isN, isNN, eqN, eqI, neI, eqB, neB, ltI, leI, addI, subI, intI, seqT, lenE, tupE, eqT, neT, inT, allE, anyE, isiTup, isiInt, itsT, okB, isiB]
      generalize hA : ((x + 7919 * (y + 1)) * 48271) % 2147483647 = A
      have a0 : 0 ≤ A := by rw [← hA]; exact Int.emod_nonneg _ (by decide)
      have a1 : A < 2147483647 := by rw [← hA]; exact Int.emod_lt_of_pos _ (by decide)
      rw [divI (by decide)]
      simp only [W_ok, W_m1, W_m2, W_m3, W_const, W_var, W_nil, W_cons, W_tup, W_new, W_asB, W_boolD, W_ofB, W_ite, W_not, W_and, W_or, W_chain, W_seqM, W_oNone, W_oSome, W_skip, W_brk, W_cnt, W_badF, W_seq, W_drop, W_ret, W_setN, W_set, W_par, parGo, W_setI, W_setF, W_setAs, W_meth, W_endR, W_for, W_lc, W_ext, W_rg1, rgIE, itsI, seqI, isiI, isiBl, isiNo, W_call, List.getElem?_cons_succ, List.getElem?_cons_zero, Option.getD_some, List.set_cons_succ, List.set_cons_zero, List.length_cons, List.length_nil, Nat.reduceAdd, Nat.zero_add, Nat.reduceEqDiff, Tset1, Tset2, Tset3, wipeE, cmpD, isN, isNN, eqN, eqI, neI, eqB, neB, ltI, leI, addI, subI, intI, seqT, lenE, tupE, eqT, neT, inT, allE, anyE, isiTup, isiInt, itsT, okB, isiB]
      rw [mulI (smallL (by omega) (by omega))]
      simp only [W_ok, W_m1, W_m2, W_m3, W_const, W_var, W_nil, W_cons, W_tup, W_new, W_asB, W_boolD, W_ofB, W_ite, W_not, W_and, W_or, W_chain, W_seqM, W_oNone, W_oSome, W_skip, W_brk, W_cnt, W_badF, W_seq, W_drop, W_ret, W_setN, W_set, W_par, parGo, W_setI, W_setF, W_setAs, W_meth, W_endR, W_for, W_lc, W_ext, W_rg1, rgIE, itsI, seqI, isiI, isiBl, isiNo, W_call, List.getElem?_cons_succ, List.getElem?_cons_zero, Option.getD_some, List.set_cons_succ, List.set_cons_zero, List.length_cons, List.length_nil, Nat.reduceAdd, Nat.zero_add, Nat.reduceEqDiff, Tset1, Tset2, Tset3, wipeE, cmpD, isN, isNN, eqN, eqI, neI, eqB, neB, ltI, leI, addI, subI, intI, seqT, lenE, tupE, eqT, neT, inT, allE, anyE, isiTup, isiInt, itsT, okB, isiB]
      rw [modI (by decide)]
      simp only [W_ok, W_m1, W_m2, W_m3, W_const, W_var, W_nil, W_cons, W_tup, W_new, W_asB, W_boolD, W_ofB, W_ite, W_not, W_and, W_or, W_chain, W_seqM, W_oNone, W_oSome, W_skip, W_brk, W_cnt, W_badF, W_seq, W_drop, W_ret, W_setN, W_set, W_par, parGo, W_setI, W_setF, W_setAs, W_meth, W_endR, W_for, W_lc, W_ext, W_rg1, rgIE, itsI, seqI, isiI, isiBl, isiNo, W_call, List.getElem?_cons_succ, List.getElem?_cons_zero, Option.getD_some, List.set_cons_succ, List.set_cons_zero, List.length_cons, List.length_nil, Nat.reduceAdd, Nat.zero_add, Nat.reduceEqDiff, Tset1, Tset2, Tset3, wipeE, cmpD, isN, isNN, eqN, eqI, neI, eqB, neB, ltI, leI, addI, subI, intI, seqT, lenE, tupE, eqT, neT, inT, allE, anyE, isiTup, isiInt, itsT, okB, isiB]
      generalize hB : (A * (A / 1009 + 69621)) % 2147483647 = B
      have b0 : 0 ≤ B := by rw [← hB]; exact Int.emod_nonneg _ (by decide)
      have b1 : B < 2147483647 := by rw [← hB]; exact Int.emod_lt_of_pos _ (by decide)
      rw [divI (by decide)]
      simp only [W_ok, W_m1, W_m2, W_m3, W_const, W_var, W_nil, W_cons, W_tup, W_new, W_asB, W_boolD, W_ofB, W_ite, W_not, W_and, W_or, W_chain, W_seqM, W_oNone, W_oSome, W_skip, W_brk, W_cnt, W_badF, W_seq, W_drop, W_ret, W_setN, W_set, W_par, parGo, W_setI, W_setF, W_setAs, W_meth, W_endR, W_for, W_lc, W_ext, W_rg1, rgIE, itsI, seqI, isiI, isiBl, isiNo, W_call, List.getElem?_cons_succ, List.getElem?_cons_zero, Option.getD_some, List.set_cons_succ, List.set_cons_zero, List.length_cons, List.length_nil, Nat.reduceAdd, Nat.zero_add, Nat.reduceEqDiff, Tset1, Tset2, Tset3, wipeE, cmpD, isN, isNN, eqN, eqI, neI, eqB, neB, ltI, leI, addI, subI, intI, seqT, lenE, tupE, eqT, neT, inT, allE, anyE, isiTup, isiInt, itsT, okB, isiB]
      rw [mulI (smallL (by omega) (by omega))]
      simp only [W_ok, W_m1, W_m2, W_m3, W_const, W_var, W_nil, W_cons, W_tup, W_new, W_asB, W_boolD, W_ofB, W_ite, W_not, W_and, W_or, W_chain, W_seqM, W_oNone, W_oSome, W_skip, W_brk, W_cnt, W_badF, W_seq, W_drop, W_ret, W_setN, W_set, W_par, parGo, W_setI, W_setF, W_setAs, W_meth, W_endR, W_for, W_lc, W_ext, W_rg1, rgIE, itsI, seqI, isiI, isiBl, isiNo, W_call, List.getElem?_cons_succ, List.getElem?_cons_zero, Option.getD_some, List.set_cons_succ, List.set_cons_zero, List.length_cons, List.length_nil, Nat.reduceAdd, Nat.zero_add, Nat.reduceEqDiff, Tset1, Tset2, Tset3, wipeE, cmpD, isN, isNN, eqN, eqI, neI, eqB, neB, ltI, leI, addI, subI, intI, seqT, lenE, tupE, eqT, neT, inT, allE, anyE, isiTup, isiInt, itsT, okB, isiB]
      rw [modI (by decide)]
      simp only [W_ok, W_m1, W_m2, W_m3, W_const, W_var, W_nil, W_cons, W_tup, W_new, W_asB, W_boolD, W_ofB, W_ite, W_not, W_and, W_or, W_chain, W_seqM, W_oNone, W_oSome, W_skip, W_brk, W_cnt, W_badF, W_seq, W_drop, W_ret, W_setN, W_set, W_par, parGo, W_setI, W_setF, W_setAs, W_meth, W_endR, W_for, W_lc, W_ext, W_rg1, rgIE, itsI, seqI, isiI, isiBl, isiNo, W_call, List.getElem?_cons_succ, List.getElem?_cons_zero, Option.getD_some, List.set_cons_succ, List.set_cons_zero, List.length_cons, List.length_nil, Nat.reduceAdd, Nat.zero_add, Nat.reduceEqDiff, Tset1, Tset2, Tset3, wipeE, cmpD, isN, isNN, eqN, eqI, neI, eqB, neB, ltI, leI, addI, subI, intI, seqT, lenE, tupE, eqT, neT, inT, allE, anyE, isiTup, isiInt, itsT, okB, isiB]
      generalize hC : (B * (B / 2003 + 40692)) % 2147483399 = C
      rw [divI (by decide)]
      simp only [W_ok, W_m1, W_m2, W_m3, W_const, W_var, W_nil, W_cons, W_tup, W_new, W_asB, W_boolD, W_ofB, W_ite, W_not, W_and, W_or, W_chain, W_seqM, W_oNone, W_oSome, W_skip, W_brk, W_cnt, W_badF, W_seq, W_drop, W_ret, W_setN, W_set, W_par, parGo, W_setI, W_setF, W_setAs, W_meth, W_endR, W_for, W_lc, W_ext, W_rg1, rgIE, itsI, seqI, isiI, isiBl, isiNo, W_call, List.getElem?_cons_succ, List.getElem?_cons_zero, Option.getD_some, List.set_cons_succ, List.set_cons_zero, List.length_cons, List.length_nil, Nat.reduceAdd, Nat.zero_add, Nat.reduceEqDiff, Tset1, Tset2, Tset3, wipeE, cmpD, isN, isNN, eqN, eqI, neI, eqB, neB, ltI, leI, addI, subI, intI, seqT, lenE, tupE, eqT, neT, inT, allE, anyE, isiTup, isiInt, itsT, okB, isiB]
      rw [modI h0]
      simp only [W_ok, W_m1, W_m2, W_m3, W_const, W_var, W_nil, W_cons, W_tup, W_new, W_asB, W_boolD, W_ofB, W_ite, W_not, W_and, W_or, W_chain, W_seqM, W_oNone, W_oSome, W_skip, W_brk, W_cnt, W_badF, W_seq, W_drop, W_ret, W_setN, W_set, W_par, parGo, W_setI, W_setF, W_setAs, W_meth, W_endR, W_for, W_lc, W_ext, W_rg1, rgIE, itsI, seqI, isiI, isiBl, isiNo, W_call, List.getElem?_cons_succ, List.getElem?_cons_zero, Option.getD_some, List.set_cons_succ, List.set_cons_zero, List.length_cons, List.length_nil, Nat.reduceAdd, Nat.zero_add, Nat.reduceEqDiff, Tset1, Tset2, Tset3, wipeE, cmpD, isN, isNN, eqN, eqI, neI, eqB, neB, ltI, leI, addI, subI, intI, seqT, lenE, tupE, eqT, neT, inT, allE, anyE, isiTup, isiInt, itsT, okB, isiB]
      exact ⟨_, rfl, Int.emod_nonneg _ (by omega), Int.emod_lt_of_pos _ h0, ⟨cells, _, _, _, _, H1⟩, hf.trans (frh)⟩
/-- the first hand -/
theorem s_hand {ns : List Int} (hn : ns.length ≤ 63) : W ((cl (k + 1)).call "_law_hand" [.scr ns] s) fun d s' => ∃ h c, d = .ref h ∧ Hand s' h c ∧ Fr No s s' ∧ s.length ≤ h := by
  rw [r__law_hand]
  unfold b__law_hand
  have hcut : cutD (ns.map D.int) none (some 63) = ns.map D.int := by
    unfold cutD
    have e1 : HT.sIx (ns.map D.int).length 0 none = 0 := rfl
    have e2 : HT.sIx (ns.map D.int).length (ns.map D.int).length (some 63) = min 63 (ns.map D.int).length := HT.sIx_nat _ _ 63
    rw [e1, e2]
    have : min 63 (ns.map D.int).length = (ns.map D.int).length := by simp; omega
    rw [this]
    simp only [List.drop_zero, Nat.sub_zero]
    exact List.take_length
  simp only [W_ok, W_m1, W_m2, W_m3, W_const, W_var, W_nil, W_cons, W_tup, W_new, W_asB, W_boolD, W_ofB, W_ite, W_not, W_and, W_or, W_chain, W_seqM, W_oNone, W_oSome, W_skip, W_brk, W_cnt, W_badF, W_seq, W_drop, W_ret, W_setN, W_set, W_par, parGo, W_setI, W_setF, W_setAs, W_meth, W_endR, W_for, W_lc, W_ext, W_rg1, rgIE, itsI, seqI, isiI, isiBl, isiNo, W_call, List.getElem?_cons_succ, List.getElem?_cons_zero, Option.getD_some, List.set_cons_succ, List.set_cons_zero, List.length_cons, List.length_nil, Nat.reduceAdd, Nat.zero_add, Nat.reduceEqDiff, Tset1, Tset2, Tset3, wipeE, cmpD, isN, isNN, eqN, eqI, neI, eqB, neB, ltI, leI, addI, subI, intI, seqT, lenE, tupE, eqT, neT, inT, allE, anyE, isiTup, isiInt, itsT, okB, isiB, slD, hcut, itsL at_len]
  refine ⟨size_ok (by simp; omega), W_of_eq (lcGo_all (watch_one at_len) D.int (fun v => .int (v.natAbs : Int)) _ fun v hv => ⟨_, rfl, ?_⟩) ?_⟩
  · simp only [W_ok, W_m1, W_m2, W_m3, W_const, W_var, W_nil, W_cons, W_tup, W_new, W_asB, W_boolD, W_ofB, W_ite, W_not, W_and, W_or, W_chain, W_seqM, W_oNone, W_oSome, W_skip, W_brk, W_cnt, W_badF, W_seq, W_drop, W_ret, W_setN, W_set, W_par, parGo, W_setI, W_setF, W_setAs, W_meth, W_endR, W_for, W_lc, W_ext, W_rg1, rgIE, itsI, seqI, isiI, isiBl, isiNo, W_call, List.getElem?_cons_succ, List.getElem?_cons_zero, Option.getD_some, List.set_cons_succ, List.set_cons_zero, List.length_cons, List.length_nil, Nat.reduceAdd, Nat.zero_add, Nat.reduceEqDiff, Tset1, Tset2, Tset3, wipeE, cmpD, isN, isNN, eqN, eqI, neI, eqB, neB, ltI, leI, addI, subI, intI, seqT, lenE, tupE, eqT, neT, inT, allE, anyE, isiTup, isiInt, itsT, okB, isiB, absD]
    simp
    split <;> omega
  · have hcells : (ns.map fun v => D.int (v.natAbs : Int)) = (ns.map fun v => (v.natAbs : Int)).map D.int := by rw [List.map_map]; rfl
    rw [hcells]
    simp only [W_ok, W_m1, W_m2, W_m3, W_const, W_var, W_nil, W_cons, W_tup, W_new, W_asB, W_boolD, W_ofB, W_ite, W_not, W_and, W_or, W_chain, W_seqM, W_oNone, W_oSome, W_skip, W_brk, W_cnt, W_badF, W_seq, W_drop, W_ret, W_setN, W_set, W_par, parGo, W_setI, W_setF, W_setAs, W_meth, W_endR, W_for, W_lc, W_ext, W_rg1, rgIE, itsI, seqI, isiI, isiBl, isiNo, W_call, List.getElem?_cons_succ, List.getElem?_cons_zero, Option.getD_some, List.set_cons_succ, List.set_cons_zero, List.length_cons, List.length_nil, Nat.reduceAdd, Nat.zero_add, Nat.reduceEqDiff, Tset1, Tset2, Tset3, wipeE, cmpD, isN, isNN, eqN, eqI, neI, eqB, neB, ltI, leI, addI, subI, intI, seqT, lenE, tupE, eqT, neT, inT, allE, anyE, isiTup, isiInt, itsT, okB, isiB, seqL at_len]
    rw [mulI (smallL (by decide) (by decide))]
    simp only [W_ok, W_m1, W_m2, W_m3, W_const, W_var, W_nil, W_cons, W_tup, W_new, W_asB, W_boolD, W_ofB, W_ite, W_not, W_and, W_or, W_chain, W_seqM, W_oNone, W_oSome, W_skip, W_brk, W_cnt, W_badF, W_seq, W_drop, W_ret, W_setN, W_set, W_par, parGo, W_setI, W_setF, W_setAs, W_meth, W_endR, W_for, W_lc, W_ext, W_rg1, rgIE, itsI, seqI, isiI, isiBl, isiNo, W_call, List.getElem?_cons_succ, List.getElem?_cons_zero, Option.getD_some, List.set_cons_succ, List.set_cons_zero, List.length_cons, List.length_nil, Nat.reduceAdd, Nat.zero_add, Nat.reduceEqDiff, Tset1, Tset2, Tset3, wipeE, cmpD, isN, isNN, eqN, eqI, neI, eqB, neB, ltI, leI, addI, subI, intI, seqT, lenE, tupE, eqT, neT, inT, allE, anyE, isiTup, isiInt, itsT, okB, isiB]
    refine ⟨_, s.length + 1, rfl, ⟨ns.map fun v => (v.natAbs : Int), 0, 0, 83 + 7 * (((ns.map fun v => (v.natAbs : Int)).map D.int).length : Int), 0, ⟨?_, ?_, ?_, by decide, ?_, ?_, by decide, ?_⟩⟩, ?_, ?_⟩
    · simp
    · have : (s ++ [O.lst (ns.map D.int)]).length = s.length + 1 := by simp
      have h2 := at_old (o := .lst [.ref (s.length + 1), .int 0, .int 0, .int (83 + 7 * (((ns.map fun v => (v.natAbs : Int)).map D.int).length : Int)), .int 0]) (at_len (s := s ++ [O.lst (ns.map D.int)]) (o := .lst ((ns.map fun v => (v.natAbs : Int)).map D.int)))
      rw [this] at h2
      simpa using h2
    · simp
    · simp; omega
    · simp; omega
    · intro v hv
      obtain ⟨w, _, rfl⟩ := List.mem_map.mp hv
      omega
    · rw [List.append_assoc, List.append_assoc]
      exact Fr.push
    · simp
end
end Law_k72

set_option Elab.async false
set_option maxRecDepth 100000
set_option linter.all false
set_option maxHeartbeats 1000000
namespace Law_k72
open PySem L2 Mini
theorem prodF_snoc {n : Int} : ∀ {form : List Int}, prodF (form ++ [n]) = prodF form * n.toNat
  | [] => by simp [prodF]
  | m :: form => by
    rw [List.cons_append, prodF_cons, prodF_snoc, prodF_cons, Nat.mul_assoc]
section
variable {k : Nat} {s : S}
/-- one of some -/
theorem s_some {h c : Nat} {d : D} {ds : List D} (H : Hand s h c) (hd : Row s d ds) (hne : ds ≠ []) (hl : ds.length ≤ 100000) (hdh : d ≠ .ref h) :
    W ((cl (k + 2)).call "_law_some" [.ref h, d] s) fun x s' => x ∈ ds ∧ Hand s' h c ∧ Fr (· = h) s s' := by
  rw [r__law_some]
  unfold b__law_some
  have hpos := List.length_pos_iff.mpr hne
  simp only [W_ok, W_m1, W_m2, W_m3, W_const, W_var, W_nil, W_cons, W_tup, W_new, W_asB, W_boolD, W_ofB, W_ite, W_not, W_and, W_or, W_chain, W_seqM, W_oNone, W_oSome, W_skip, W_brk, W_cnt, W_badF, W_seq, W_drop, W_ret, W_setN, W_set, W_par, parGo, W_setI, W_setF, W_setAs, W_meth, W_endR, W_for, W_lc, W_ext, W_rg1, rgIE, itsI, seqI, isiI, isiBl, isiNo, W_call, List.getElem?_cons_succ, List.getElem?_cons_zero, Option.getD_some, List.set_cons_succ, List.set_cons_zero, List.length_cons, List.length_nil, Nat.reduceAdd, Nat.zero_add, Nat.reduceEqDiff, Tset1, Tset2, Tset3, wipeE, cmpD, isN, isNN, eqN, eqI, neI, eqB, neB, ltI, leI, addI, subI, intI, seqT, lenE, tupE, eqT, neT, inT, allE, anyE, isiTup, isiInt, itsT, okB, isiB, hd.seq]
  refine (s_draw H (by omega) (by omega)).mono fun x s1 ⟨r, e, h0, h1, H1, f1⟩ => ?_
  subst e
  have hd1 : Row s1 d ds := hd.fr f1 fun n e => fun e2 => hdh (by rw [e, e2])
  obtain ⟨i, rfl⟩ : ∃ i : Nat, r = i := ⟨r.toNat, by omega⟩
  have hlt : i < ds.length := by omega
  have : ixD d (.int i) s1 = .ok ds[i] s1 := by
    rcases hd1 with rfl | ⟨n, rfl, hn⟩
    · exact ixT (List.getElem?_eq_getElem hlt)
    · exact ixL hn (List.getElem?_eq_getElem hlt)
  rw [this]
  simp only [W_ok, W_m1, W_m2, W_m3, W_const, W_var, W_nil, W_cons, W_tup, W_new, W_asB, W_boolD, W_ofB, W_ite, W_not, W_and, W_or, W_chain, W_seqM, W_oNone, W_oSome, W_skip, W_brk, W_cnt, W_badF, W_seq, W_drop, W_ret, W_setN, W_set, W_par, parGo, W_setI, W_setF, W_setAs, W_meth, W_endR, W_for, W_lc, W_ext, W_rg1, rgIE, itsI, seqI, isiI, isiBl, isiNo, W_call, List.getElem?_cons_succ, List.getElem?_cons_zero, Option.getD_some, List.set_cons_succ, List.set_cons_zero, List.length_cons, List.length_nil, Nat.reduceAdd, Nat.zero_add, Nat.reduceEqDiff, Tset1, Tset2, Tset3, wipeE, cmpD, isN, isNN, eqN, eqI, neI, eqB, neB, ltI, leI, addI, subI, intI, seqT, lenE, tupE, eqT, neT, inT, allE, anyE, isiTup, isiInt, itsT, okB, isiB]
  exact ⟨List.getElem_mem _, H1, f1⟩
/-- forms -/
theorem s_form {h c : Nat} {fields most : Int} (H : Hand s h c) (h0 : 0 < fields) (h1 : fields ≤ 8) (h2 : most ≤ 4000) :
    W ((cl (k + 3)).call "_law_form" [.ref h, .int fields, .int most] s) fun x s' => ∃ form, x = iT form ∧ Form form ∧ (form.length : Int) ≤ fields ∧ Hand s' h c ∧ Fr (· = h) s s' := by
  rw [r__law_form]
  unfold b__law_form
  have hhl := H.lt
  simp only [W_ok, W_m1, W_m2, W_m3, W_const, W_var, W_nil, W_cons, W_tup, W_new, W_asB, W_boolD, W_ofB, W_ite, W_not, W_and, W_or, W_chain, W_seqM, W_oNone, W_oSome, W_skip, W_brk, W_cnt, W_badF, W_seq, W_drop, W_ret, W_setN, W_set, W_par, parGo, W_setI, W_setF, W_setAs, W_meth, W_endR, W_for, W_lc, W_ext, W_rg1, rgIE, itsI, seqI, isiI, isiBl, isiNo, W_call, List.getElem?_cons_succ, List.getElem?_cons_zero, Option.getD_some, List.set_cons_succ, List.set_cons_zero, List.length_cons, List.length_nil, Nat.reduceAdd, Nat.zero_add, Nat.reduceEqDiff, Tset1, Tset2, Tset3, wipeE, cmpD, isN, isNN, eqN, eqI, neI, eqB, neB, ltI, leI, addI, subI, intI, seqT, lenE, tupE, eqT, neT, inT, allE, anyE, isiTup, isiInt, itsT, okB, isiB]
  have H0 : Hand (s ++ [.lst []]) h c := H.no Fr.push
  refine (s_draw (k := k + 1) H0 h0 (by omega)).mono fun x s1 ⟨r, e, r0, r1, H1, f1⟩ => ?_
  subst e
  have hn : s1[s.length]? = some (.lst []) := f1 _ _ at_len (by omega)
  simp only [W_ok, W_m1, W_m2, W_m3, W_const, W_var, W_nil, W_cons, W_tup, W_new, W_asB, W_boolD, W_ofB, W_ite, W_not, W_and, W_or, W_chain, W_seqM, W_oNone, W_oSome, W_skip, W_brk, W_cnt, W_badF, W_seq, W_drop, W_ret, W_setN, W_set, W_par, parGo, W_setI, W_setF, W_setAs, W_meth, W_endR, W_for, W_lc, W_ext, W_rg1, rgIE, itsI, seqI, isiI, isiBl, isiNo, W_call, List.getElem?_cons_succ, List.getElem?_cons_zero, Option.getD_some, List.set_cons_succ, List.set_cons_zero, List.length_cons, List.length_nil, Nat.reduceAdd, Nat.zero_add, Nat.reduceEqDiff, Tset1, Tset2, Tset3, wipeE, cmpD, isN, isNN, eqN, eqI, neI, eqB, neB, ltI, leI, addI, subI, intI, seqT, lenE, tupE, eqT, neT, inT, allE, anyE, isiTup, isiInt, itsT, okB, isiB, rgN (n := 1 + r) (by omega) (by omega)]
  refine W_goT nI (fun rest env s' => ∃ (form : List Int) (p : Nat) (d5 d6 : Option D), env = [some (.ref h), some (.int fields), some (.int most), some (.ref s.length), some (.int p), d5, d6] ∧ s'[s.length]? = some (.lst (form.map .int)) ∧ Hand s' h c ∧ Fr (· = h) s s' ∧
      p = prodF form ∧ p ≤ 4000 ∧ (∀ n ∈ form, 2 ≤ n ∧ n ≤ 6) ∧ form.length + rest.length ≤ (1 + r).toNat ∧ (form = [] → rest = upto (1 + r)) ∧ (form ≠ [] → ∀ i ∈ rest, i ≠ 0)) ?_ ?_ (upto (1 + r)) _ _ ?_
  · rintro env s2 ⟨form, p, d5, d6, rfl, g1, g2, g3, g4, g5, g6, g7, g8, g9⟩
    simp only [W_ok, W_m1, W_m2, W_m3, W_const, W_var, W_nil, W_cons, W_tup, W_new, W_asB, W_boolD, W_ofB, W_ite, W_not, W_and, W_or, W_chain, W_seqM, W_oNone, W_oSome, W_skip, W_brk, W_cnt, W_badF, W_seq, W_drop, W_ret, W_setN, W_set, W_par, parGo, W_setI, W_setF, W_setAs, W_meth, W_endR, W_for, W_lc, W_ext, W_rg1, rgIE, itsI, seqI, isiI, isiBl, isiNo, W_call, List.getElem?_cons_succ, List.getElem?_cons_zero, Option.getD_some, List.set_cons_succ, List.set_cons_zero, List.length_cons, List.length_nil, Nat.reduceAdd, Nat.zero_add, Nat.reduceEqDiff, Tset1, Tset2, Tset3, wipeE, cmpD, isN, isNN, eqN, eqI, neI, eqB, neB, ltI, leI, addI, subI, intI, seqT, lenE, tupE, eqT, neT, inT, allE, anyE, isiTup, isiInt, itsT, okB, isiB, seqL g1]
    refine ⟨form, rfl, ⟨?_, by simp at g7; omega, g6, by rw [← g4]; exact g5⟩, by simp at g7; omega, g2, g3⟩
    cases form with
    | nil =>
      have := congrArg List.length (g8 rfl)
      rw [upto_len] at this
      simp at this
      omega
    | cons a l => simp
  · rintro i rest env s2 ⟨form, p, d5, d6, rfl, g1, g2, g3, g4, g5, g6, g7, g8, g9⟩
    refine ⟨_, rfl, ?_⟩
    simp only [W_ok, W_m1, W_m2, W_m3, W_const, W_var, W_nil, W_cons, W_tup, W_new, W_asB, W_boolD, W_ofB, W_ite, W_not, W_and, W_or, W_chain, W_seqM, W_oNone, W_oSome, W_skip, W_brk, W_cnt, W_badF, W_seq, W_drop, W_ret, W_setN, W_set, W_par, parGo, W_setI, W_setF, W_setAs, W_meth, W_endR, W_for, W_lc, W_ext, W_rg1, rgIE, itsI, seqI, isiI, isiBl, isiNo, W_call, List.getElem?_cons_succ, List.getElem?_cons_zero, Option.getD_some, List.set_cons_succ, List.set_cons_zero, List.length_cons, List.length_nil, Nat.reduceAdd, Nat.zero_add, Nat.reduceEqDiff, Tset1, Tset2, Tset3, wipeE, cmpD, isN, isNN, eqN, eqI, neI, eqB, neB, ltI, leI, addI, subI, intI, seqT, lenE, tupE, eqT, neT, inT, allE, anyE, isiTup, isiInt, itsT, okB, isiB]
    have hlen2 : s.length < s2.length := (List.getElem?_eq_some_iff.mp g1).1
    refine (s_some (k := k) (ds := [.int 0, .int 0, .int 0, .int 1, .int 1, .int 2, .int 4]) (g2.no Fr.push) (.inr ⟨s2.length, rfl, at_len⟩) (by simp) (by simp) (by intro e; cases e; omega)).mono fun x s3 ⟨q1, q2, q3⟩ => ?_
    obtain ⟨z, e, z0, z1⟩ : ∃ z : Int, x = .int z ∧ 0 ≤ z ∧ z ≤ 4 := by
      simp at q1
      rcases q1 with rfl | rfl | rfl | rfl <;> exact ⟨_, rfl, by decide, by decide⟩
    subst e
    have g1' : s3[s.length]? = some (.lst (form.map .int)) := q3 _ _ (at_old g1) (by omega)
    have g3' : Fr (· = h) s s3 := (g3.trans Fr.push).trans q3
    simp only [W_ok, W_m1, W_m2, W_m3, W_const, W_var, W_nil, W_cons, W_tup, W_new, W_asB, W_boolD, W_ofB, W_ite, W_not, W_and, W_or, W_chain, W_seqM, W_oNone, W_oSome, W_skip, W_brk, W_cnt, W_badF, W_seq, W_drop, W_ret, W_setN, W_set, W_par, parGo, W_setI, W_setF, W_setAs, W_meth, W_endR, W_for, W_lc, W_ext, W_rg1, rgIE, itsI, seqI, isiI, isiBl, isiNo, W_call, List.getElem?_cons_succ, List.getElem?_cons_zero, Option.getD_some, List.set_cons_succ, List.set_cons_zero, List.length_cons, List.length_nil, Nat.reduceAdd, Nat.zero_add, Nat.reduceEqDiff, Tset1, Tset2, Tset3, wipeE, cmpD, isN, isNN, eqN, eqI, neI, eqB, neB, ltI, leI, addI, subI, intI, seqT, lenE, tupE, eqT, neT, inT, allE, anyE, isiTup, isiInt, itsT, okB, isiB]
    rw [mulI (smallR (by omega) (by omega))]
    simp only [W_ok, W_m1, W_m2, W_m3, W_const, W_var, W_nil, W_cons, W_tup, W_new, W_asB, W_boolD, W_ofB, W_ite, W_not, W_and, W_or, W_chain, W_seqM, W_oNone, W_oSome, W_skip, W_brk, W_cnt, W_badF, W_seq, W_drop, W_ret, W_setN, W_set, W_par, parGo, W_setI, W_setF, W_setAs, W_meth, W_endR, W_for, W_lc, W_ext, W_rg1, rgIE, itsI, seqI, isiI, isiBl, isiNo, W_call, List.getElem?_cons_succ, List.getElem?_cons_zero, Option.getD_some, List.set_cons_succ, List.set_cons_zero, List.length_cons, List.length_nil, Nat.reduceAdd, Nat.zero_add, Nat.reduceEqDiff, Tset1, Tset2, Tset3, wipeE, cmpD, isN, isNN, eqN, eqI, neI, eqB, neB, ltI, leI, addI, subI, intI, seqT, lenE, tupE, eqT, neT, inT, allE, anyE, isiTup, isiInt, itsT, okB, isiB]
    have hp2 : (p : Int) * (2 + z) = ((p * (2 + z).toNat : Nat) : Int) := by
      rw [Int.natCast_mul, Int.toNat_of_nonneg (by omega)]
    have hf8 : form.length < 9 := by simp at g7; omega
    have hzero : form = [] ↔ i = 0 := by
      constructor
      · intro e
        have := g8 e
        unfold upto at this
        have h0 : (i :: rest)[0]? = (List.range (1 + r).toNat)[0]? := by rw [this]
        have hpos : 0 < (1 + r).toNat := by omega
        rw [List.getElem?_range hpos] at h0
        simpa using h0
      · intro e
        by_cases hf : form = []
        · exact hf
        · exact (g9 hf i List.mem_cons_self e).elim
    have hnz : ∀ j ∈ rest, j ≠ 0 := by
      intro j hj
      by_cases hf : form = []
      · have := g8 hf
        unfold upto at this
        have hnd : (i :: rest).Nodup := by rw [this]; exact List.nodup_range
        have hi := hzero.mp hf
        rintro rfl
        rw [hi] at hnd
        exact (List.nodup_cons.mp hnd).1 hj
      · exact g9 hf j (List.mem_cons_of_mem _ hj)
    have grow : (p * (2 + z).toNat ≤ 4000) → ∃ (form' : List Int) (p' : Nat) (d5 d6 : Option D), ([some (.ref h), some (.int fields), some (.int most), some (.ref s.length), some (.int ((p * (2 + z).toNat : Nat) : Int)), some (nI i), some (.int (2 + z))] : Mini.Env) = [some (.ref h), some (.int fields), some (.int most), some (.ref s.length), some (.int p'), d5, d6] ∧
        (s3.set s.length (.lst (form.map .int ++ [.int (2 + z)])))[s.length]? = some (.lst (form'.map .int)) ∧ Hand (s3.set s.length (.lst (form.map .int ++ [.int (2 + z)]))) h c ∧ Fr (· = h) s (s3.set s.length (.lst (form.map .int ++ [.int (2 + z)]))) ∧
        p' = prodF form' ∧ p' ≤ 4000 ∧ (∀ n ∈ form', 2 ≤ n ∧ n ≤ 6) ∧ form'.length + rest.length ≤ (1 + r).toNat ∧ (form' = [] → rest = upto (1 + r)) ∧ (form' ≠ [] → ∀ i ∈ rest, i ≠ 0) := fun hp4 => by
      refine ⟨form ++ [2 + z], p * (2 + z).toNat, _, _, rfl, ?_, ?_, g3'.new (Nat.le_refl _), ?_, hp4, ?_, ?_, fun e => by simp at e, fun _ => hnz⟩
      · rw [List.getElem?_set_self (List.getElem?_eq_some_iff.mp g1').1]
        simp
      · exact q2.set (by have := H.lt; omega) (by have := H.lt; omega)
      · rw [prodF_snoc, ← g4]
      · intro n hn
        rcases List.mem_append.mp hn with hn | hn
        · exact g6 n hn
        · have : n = 2 + z := by simpa using hn
          omega
      · simp at g7 ⊢
        omega
    by_cases hc : (((p * (2 + z).toNat : Nat) : Int)) ≤ most
    · simp only [hp2, decide_eq_true hc, if_true]
      simp only [W_ok, W_m1, W_m2, W_m3, W_const, W_var, W_nil, W_cons, W_tup, W_new, W_asB, W_boolD, W_ofB, W_ite, W_not, W_and, W_or, W_chain, W_seqM, W_oNone, W_oSome, W_skip, W_brk, W_cnt, W_badF, W_seq, W_drop, W_ret, W_setN, W_set, W_par, parGo, W_setI, W_setF, W_setAs, W_meth, W_endR, W_for, W_lc, W_ext, W_rg1, rgIE, itsI, seqI, isiI, isiBl, isiNo, W_call, List.getElem?_cons_succ, List.getElem?_cons_zero, Option.getD_some, List.set_cons_succ, List.set_cons_zero, List.length_cons, List.length_nil, Nat.reduceAdd, Nat.zero_add, Nat.reduceEqDiff, Tset1, Tset2, Tset3, wipeE, cmpD, isN, isNN, eqN, eqI, neI, eqB, neB, ltI, leI, addI, subI, intI, seqT, lenE, tupE, eqT, neT, inT, allE, anyE, isiTup, isiInt, itsT, okB, isiB, isL g1', appL g1' (by rw [sizeLine_eq]; simp; omega)]
      rw [mulI (smallR (by omega) (by omega))]
      simp only [W_ok, W_m1, W_m2, W_m3, W_const, W_var, W_nil, W_cons, W_tup, W_new, W_asB, W_boolD, W_ofB, W_ite, W_not, W_and, W_or, W_chain, W_seqM, W_oNone, W_oSome, W_skip, W_brk, W_cnt, W_badF, W_seq, W_drop, W_ret, W_setN, W_set, W_par, parGo, W_setI, W_setF, W_setAs, W_meth, W_endR, W_for, W_lc, W_ext, W_rg1, rgIE, itsI, seqI, isiI, isiBl, isiNo, W_call, List.getElem?_cons_succ, List.getElem?_cons_zero, Option.getD_some, List.set_cons_succ, List.set_cons_zero, List.length_cons, List.length_nil, Nat.reduceAdd, Nat.zero_add, Nat.reduceEqDiff, Tset1, Tset2, Tset3, wipeE, cmpD, isN, isNN, eqN, eqI, neI, eqB, neB, ltI, leI, addI, subI, intI, seqT, lenE, tupE, eqT, neT, inT, allE, anyE, isiTup, isiInt, itsT, okB, isiB, hp2]
      exact ⟨trivial, watch_nil, grow (by omega)⟩
    · by_cases hi : i = 0
      · have hfe := hzero.mpr hi
        have hi0 : decide ((i : Int) = 0) = true := decide_eq_true (by omega)
        simp only [hp2, decide_eq_false hc, if_false, Bool.false_eq_true, hi0, if_true]
        simp only [W_ok, W_m1, W_m2, W_m3, W_const, W_var, W_nil, W_cons, W_tup, W_new, W_asB, W_boolD, W_ofB, W_ite, W_not, W_and, W_or, W_chain, W_seqM, W_oNone, W_oSome, W_skip, W_brk, W_cnt, W_badF, W_seq, W_drop, W_ret, W_setN, W_set, W_par, parGo, W_setI, W_setF, W_setAs, W_meth, W_endR, W_for, W_lc, W_ext, W_rg1, rgIE, itsI, seqI, isiI, isiBl, isiNo, W_call, List.getElem?_cons_succ, List.getElem?_cons_zero, Option.getD_some, List.set_cons_succ, List.set_cons_zero, List.length_cons, List.length_nil, Nat.reduceAdd, Nat.zero_add, Nat.reduceEqDiff, Tset1, Tset2, Tset3, wipeE, cmpD, isN, isNN, eqN, eqI, neI, eqB, neB, ltI, leI, addI, subI, intI, seqT, lenE, tupE, eqT, neT, inT, allE, anyE, isiTup, isiInt, itsT, okB, isiB, isL g1', appL g1' (by rw [sizeLine_eq]; simp; omega)]
        rw [mulI (smallR (by omega) (by omega))]
        simp only [W_ok, W_m1, W_m2, W_m3, W_const, W_var, W_nil, W_cons, W_tup, W_new, W_asB, W_boolD, W_ofB, W_ite, W_not, W_and, W_or, W_chain, W_seqM, W_oNone, W_oSome, W_skip, W_brk, W_cnt, W_badF, W_seq, W_drop, W_ret, W_setN, W_set, W_par, parGo, W_setI, W_setF, W_setAs, W_meth, W_endR, W_for, W_lc, W_ext, W_rg1, rgIE, itsI, seqI, isiI, isiBl, isiNo, W_call, List.getElem?_cons_succ, List.getElem?_cons_zero, Option.getD_some, List.set_cons_succ, List.set_cons_zero, List.length_cons, List.length_nil, Nat.reduceAdd, Nat.zero_add, Nat.reduceEqDiff, Tset1, Tset2, Tset3, wipeE, cmpD, isN, isNN, eqN, eqI, neI, eqB, neB, ltI, leI, addI, subI, intI, seqT, lenE, tupE, eqT, neT, inT, allE, anyE, isiTup, isiInt, itsT, okB, isiB, hp2]
        have hp1 : p = 1 := by rw [g4, hfe]; rfl
        exact ⟨trivial, watch_nil, grow (by rw [hp1]; omega)⟩
      · have hi0 : decide ((i : Int) = 0) = false := decide_eq_false (by omega)
        simp only [hp2, decide_eq_false hc, if_false, Bool.false_eq_true, hi0]
        refine ⟨watch_nil, form, p, _, _, rfl, g1', q2, g3', g4, g5, g6, by simp at g7; omega, fun e => (hi (hzero.mp e)).elim, fun _ => hnz⟩
  · refine ⟨[], 1, _, _, rfl, hn, H1, ?_, rfl, by decide, by simp, ?_, fun _ => rfl, fun e => (e rfl).elim⟩
    · exact Fr.push.trans f1
    · rw [upto_len]; simp
end
end Law_k72

set_option Elab.async false
set_option maxRecDepth 100000
set_option linter.all false
set_option maxHeartbeats 1000000
namespace Law_k72
open PySem L2 Mini
theorem upto_asc (n : Int) : (upto n).Pairwise (· < ·) := List.pairwise_lt_range
theorem upto_lt {n : Int} {i : Nat} (h : i ∈ upto n) : (i : Int) < n := by
  unfold upto at h
  have := List.mem_range.mp h
  omega
theorem upto_lot (n : Int) : Lot n ((upto n).map fun (i : Nat) => (i : Int)) := by
  constructor
  · intro v hv
    obtain ⟨i, hi, rfl⟩ := List.mem_map.mp hv
    have := upto_lt hi
    omega
  · rw [List.pairwise_map]
    exact (upto_asc n).imp fun h => by omega
section
variable {k : Nat} {s : S} {h c : Nat}
theorem s_lot {n : Int} (H : Hand s h c) (h0 : 2 ≤ n) (h1 : n ≤ 6) : W ((cl (k + 2)).call "_law_lot" [.ref h, .int n] s) fun x s' => ∃ l, x = iT l ∧ Lot n l ∧ l ≠ [] ∧ Hand s' h c ∧ Fr (· = h) s s' := by
  rw [r__law_lot]
  unfold b__law_lot
  simp only [W_ok, W_m1, W_m2, W_m3, W_const, W_var, W_nil, W_cons, W_tup, W_new, W_asB, W_boolD, W_ofB, W_ite, W_not, W_and, W_or, W_chain, W_seqM, W_oNone, W_oSome, W_skip, W_brk, W_cnt, W_badF, W_seq, W_drop, W_ret, W_setN, W_set, W_par, parGo, W_setI, W_setF, W_setAs, W_meth, W_endR, W_for, W_lc, W_ext, W_rg1, rgIE, itsI, seqI, isiI, isiBl, isiNo, W_call, List.getElem?_cons_succ, List.getElem?_cons_zero, Option.getD_some, List.set_cons_succ, List.set_cons_zero, List.length_cons, List.length_nil, Nat.reduceAdd, Nat.zero_add, Nat.reduceEqDiff, Tset1, Tset2, Tset3, wipeE, cmpD, isN, isNN, eqN, eqI, neI, eqB, neB, ltI, leI, addI, subI, intI, seqT, lenE, tupE, eqT, neT, inT, allE, anyE, isiTup, isiInt, itsT, okB, isiB, rgN (n := n) (by omega) (by omega)]
  refine ⟨size_ok (by simp [upto_len]; omega), ?_⟩
  have hcomp := W_lcGoT (w := []) (t := .nm 3) (env := [some (.ref h), some (.int n), none, none]) (tt := asB (m2 (m1 (consM (varM 0) (consM (constM (.int 2)) nilM)) (callD 2 ((cl (k + 1)).call "_law_draw"))) (constM (.int 0)) (cmpD .Eq)))
    (te := varM 3) nI (fun rest acc s' => Hand s' h c ∧ Fr (· = h) s s' ∧ rest.Pairwise (· < ·) ∧ (∀ i ∈ rest, (i : Int) < n) ∧ ∃ l : List Int, acc = l.map .int ∧ Lot n l ∧ ∀ v ∈ l, ∀ i ∈ rest, v < (i : Int))
    (fun i rest acc s1 ⟨H1, f1, h2, h3, l, e, h4, h5⟩ => by
      refine ⟨_, rfl, ?_⟩
      simp only [W_ok, W_m1, W_m2, W_m3, W_const, W_var, W_nil, W_cons, W_tup, W_new, W_asB, W_boolD, W_ofB, W_ite, W_not, W_and, W_or, W_chain, W_seqM, W_oNone, W_oSome, W_skip, W_brk, W_cnt, W_badF, W_seq, W_drop, W_ret, W_setN, W_set, W_par, parGo, W_setI, W_setF, W_setAs, W_meth, W_endR, W_for, W_lc, W_ext, W_rg1, rgIE, itsI, seqI, isiI, isiBl, isiNo, W_call, List.getElem?_cons_succ, List.getElem?_cons_zero, Option.getD_some, List.set_cons_succ, List.set_cons_zero, List.length_cons, List.length_nil, Nat.reduceAdd, Nat.zero_add, Nat.reduceEqDiff, Tset1, Tset2, Tset3, wipeE, cmpD, isN, isNN, eqN, eqI, neI, eqB, neB, ltI, leI, addI, subI, intI, seqT, lenE, tupE, eqT, neT, inT, allE, anyE, isiTup, isiInt, itsT, okB, isiB]
      refine (s_draw (k := k) H1 (by decide) (by decide)).mono fun x s2 ⟨r, e2, r0, r1, H2, f2⟩ => ?_
      subst e2
      simp only [W_ok, W_m1, W_m2, W_m3, W_const, W_var, W_nil, W_cons, W_tup, W_new, W_asB, W_boolD, W_ofB, W_ite, W_not, W_and, W_or, W_chain, W_seqM, W_oNone, W_oSome, W_skip, W_brk, W_cnt, W_badF, W_seq, W_drop, W_ret, W_setN, W_set, W_par, parGo, W_setI, W_setF, W_setAs, W_meth, W_endR, W_for, W_lc, W_ext, W_rg1, rgIE, itsI, seqI, isiI, isiBl, isiNo, W_call, List.getElem?_cons_succ, List.getElem?_cons_zero, Option.getD_some, List.set_cons_succ, List.set_cons_zero, List.length_cons, List.length_nil, Nat.reduceAdd, Nat.zero_add, Nat.reduceEqDiff, Tset1, Tset2, Tset3, wipeE, cmpD, isN, isNN, eqN, eqI, neI, eqB, neB, ltI, leI, addI, subI, intI, seqT, lenE, tupE, eqT, neT, inT, allE, anyE, isiTup, isiInt, itsT, okB, isiB]
      have hp := List.pairwise_cons.mp h2
      split
      · refine ⟨watch_nil, H2, f1.trans f2, hp.2, fun j hj => h3 j (List.mem_cons_of_mem _ hj), l ++ [(i : Int)], ?_, ⟨fun v hv => ?_, ?_⟩, fun v hv j hj => ?_⟩
        · rw [e]; simp [nI]
        · rcases List.mem_append.mp hv with hv | hv
          · exact h4.1 v hv
          · have : v = i := by simpa using hv
            have := h3 i List.mem_cons_self
            omega
        · rw [List.pairwise_append]
          refine ⟨h4.2, by simp, fun a ha b hb => ?_⟩
          have : b = i := by simpa using hb
          rw [this]
          exact h5 a ha i List.mem_cons_self
        · rcases List.mem_append.mp hv with hv | hv
          · exact h5 v hv j (List.mem_cons_of_mem _ hj)
          · have : v = i := by simpa using hv
            have := hp.1 j hj
            omega
      · exact ⟨watch_nil, H2, f1.trans f2, hp.2, fun j hj => h3 j (List.mem_cons_of_mem _ hj), l, e, h4, fun v hv j hj => h5 v hv j (List.mem_cons_of_mem _ hj)⟩)
    (upto n) s ⟨H, Fr.refl, upto_asc n, fun i hi => upto_lt hi, [], rfl, ⟨by simp, by simp⟩, by simp⟩
  refine hcomp.mono fun ys s1 ⟨H1, f1, _, _, l, e, hl, _⟩ => ?_
  subst e
  simp only [W_ok, W_m1, W_m2, W_m3, W_const, W_var, W_nil, W_cons, W_tup, W_new, W_asB, W_boolD, W_ofB, W_ite, W_not, W_and, W_or, W_chain, W_seqM, W_oNone, W_oSome, W_skip, W_brk, W_cnt, W_badF, W_seq, W_drop, W_ret, W_setN, W_set, W_par, parGo, W_setI, W_setF, W_setAs, W_meth, W_endR, W_for, W_lc, W_ext, W_rg1, rgIE, itsI, seqI, isiI, isiBl, isiNo, W_call, List.getElem?_cons_succ, List.getElem?_cons_zero, Option.getD_some, List.set_cons_succ, List.set_cons_zero, List.length_cons, List.length_nil, Nat.reduceAdd, Nat.zero_add, Nat.reduceEqDiff, Tset1, Tset2, Tset3, wipeE, cmpD, isN, isNN, eqN, eqI, neI, eqB, neB, ltI, leI, addI, subI, intI, seqT, lenE, tupE, eqT, neT, inT, allE, anyE, isiTup, isiInt, itsT, okB, isiB, seqL at_len]
  by_cases hne : l = []
  · have : decide ((0 : Int) < ((l.map D.int).length : Int)) = false := decide_eq_false (by rw [hne]; decide)
    simp only [this, if_false, Bool.false_eq_true]
    refine (s_draw (k := k) (H1.no Fr.push) (by omega) (by omega)).mono fun x s2 ⟨r, e2, r0, r1, H2, f2⟩ => ?_
    subst e2
    refine ⟨[r], rfl, ⟨fun v hv => ?_, by simp⟩, by simp, H2, (f1.trans Fr.push).trans f2⟩
    have : v = r := by simpa using hv
    omega
  · have hpos := List.length_pos_iff.mpr hne
    have : decide ((0 : Int) < ((l.map D.int).length : Int)) = true := decide_eq_true (by simp; omega)
    simp only [this, if_true]
    exact ⟨l, rfl, hl, hne, H1.no Fr.push, f1.trans Fr.push⟩
theorem s_box {form : List Int} (H : Hand s h c) (hf : Form form) : W ((cl (k + 3)).call "_law_box" [.ref h, iT form] s) fun x s' => ∃ box, x = bT box ∧ Box form box ∧ Hand s' h c ∧ Fr (· = h) s s' := by
  rw [r__law_box]
  unfold b__law_box
  have h8 := hf.len8
  simp only [W_ok, W_m1, W_m2, W_m3, W_const, W_var, W_nil, W_cons, W_tup, W_new, W_asB, W_boolD, W_ofB, W_ite, W_not, W_and, W_or, W_chain, W_seqM, W_oNone, W_oSome, W_skip, W_brk, W_cnt, W_badF, W_seq, W_drop, W_ret, W_setN, W_set, W_par, parGo, W_setI, W_setF, W_setAs, W_meth, W_endR, W_for, W_lc, W_ext, W_rg1, rgIE, itsI, seqI, isiI, isiBl, isiNo, W_call, List.getElem?_cons_succ, List.getElem?_cons_zero, Option.getD_some, List.set_cons_succ, List.set_cons_zero, List.length_cons, List.length_nil, Nat.reduceAdd, Nat.zero_add, Nat.reduceEqDiff, Tset1, Tset2, Tset3, wipeE, cmpD, isN, isNN, eqN, eqI, neI, eqB, neB, ltI, leI, addI, subI, intI, seqT, lenE, tupE, eqT, neT, inT, allE, anyE, isiTup, isiInt, itsT, okB, isiB]
  refine ⟨size_ok (by simp; omega), ?_⟩
  have hcomp := W_lcGoT (w := []) (t := .nm 2) (env := [some (.ref h), some (iT form), none]) (tt := yesM)
    (te := iteM (asB (m2 (m1 (consM (varM 0) (consM (constM (.int 2)) nilM)) (callD 2 ((cl (k + 2)).call "_law_draw"))) (constM (.int 0)) (cmpD .Eq))) (m1 (rg1 (varM 2)) tupQ) (m1 (consM (varM 0) (consM (varM 2) nilM)) (callD 2 ((cl (k + 2)).call "_law_lot"))))
    D.int (fun rest acc s' => Hand s' h c ∧ Fr (· = h) s s' ∧ ∃ (box : List (List Int)) (done : List Int), form = done ++ rest ∧ acc = box.map iT ∧ box.length = done.length ∧ ∀ p ∈ box.zip done, Lot p.2 p.1 ∧ p.1 ≠ [])
    (fun n rest acc s1 ⟨H1, f1, box, done, e, e2, h3, h4⟩ => by
      refine ⟨_, rfl, W_ok.mpr ?_⟩
      have hn := hf.val n (by rw [e]; simp)
      have more : ∀ (l : List Int) (s3 : S), Lot n l → l ≠ [] → Hand s3 h c → Fr (· = h) s s3 → watch [] s3 = true ∧ Hand s3 h c ∧ Fr (· = h) s s3 ∧ ∃ (box : List (List Int)) (done : List Int), form = done ++ rest ∧ acc ++ [iT l] = box.map iT ∧ box.length = done.length ∧ ∀ p ∈ box.zip done, Lot p.2 p.1 ∧ p.1 ≠ [] := fun l s3 hl hne H3 f3 => by
        refine ⟨watch_nil, H3, f3, box ++ [l], done ++ [n], by rw [e]; simp, by rw [e2]; simp, by simp [h3], fun p hp => ?_⟩
        rw [List.zip_append h3] at hp
        rcases List.mem_append.mp hp with hp | hp
        · exact h4 p hp
        · have : p = (l, n) := by simpa using hp
          rw [this]
          exact ⟨hl, hne⟩
      simp only [if_true]
      simp only [W_ok, W_m1, W_m2, W_m3, W_const, W_var, W_nil, W_cons, W_tup, W_new, W_asB, W_boolD, W_ofB, W_ite, W_not, W_and, W_or, W_chain, W_seqM, W_oNone, W_oSome, W_skip, W_brk, W_cnt, W_badF, W_seq, W_drop, W_ret, W_setN, W_set, W_par, parGo, W_setI, W_setF, W_setAs, W_meth, W_endR, W_for, W_lc, W_ext, W_rg1, rgIE, itsI, seqI, isiI, isiBl, isiNo, W_call, List.getElem?_cons_succ, List.getElem?_cons_zero, Option.getD_some, List.set_cons_succ, List.set_cons_zero, List.length_cons, List.length_nil, Nat.reduceAdd, Nat.zero_add, Nat.reduceEqDiff, Tset1, Tset2, Tset3, wipeE, cmpD, isN, isNN, eqN, eqI, neI, eqB, neB, ltI, leI, addI, subI, intI, seqT, lenE, tupE, eqT, neT, inT, allE, anyE, isiTup, isiInt, itsT, okB, isiB]
      refine (s_draw (k := k + 1) H1 (by decide) (by decide)).mono fun x s2 ⟨r, e5, r0, r1, H2, f2⟩ => ?_
      subst e5
      simp only [W_ok, W_m1, W_m2, W_m3, W_const, W_var, W_nil, W_cons, W_tup, W_new, W_asB, W_boolD, W_ofB, W_ite, W_not, W_and, W_or, W_chain, W_seqM, W_oNone, W_oSome, W_skip, W_brk, W_cnt, W_badF, W_seq, W_drop, W_ret, W_setN, W_set, W_par, parGo, W_setI, W_setF, W_setAs, W_meth, W_endR, W_for, W_lc, W_ext, W_rg1, rgIE, itsI, seqI, isiI, isiBl, isiNo, W_call, List.getElem?_cons_succ, List.getElem?_cons_zero, Option.getD_some, List.set_cons_succ, List.set_cons_zero, List.length_cons, List.length_nil, Nat.reduceAdd, Nat.zero_add, Nat.reduceEqDiff, Tset1, Tset2, Tset3, wipeE, cmpD, isN, isNN, eqN, eqI, neI, eqB, neB, ltI, leI, addI, subI, intI, seqT, lenE, tupE, eqT, neT, inT, allE, anyE, isiTup, isiInt, itsT, okB, isiB, rgN (n := n) (by omega) (by omega)]
      split
      · have := more ((upto n).map fun (i : Nat) => (i : Int)) s2 (upto_lot n) (by
          intro e
          have := congrArg List.length e
          rw [List.length_map, upto_len] at this
          simp at this
          omega) H2 (f1.trans f2)
        rw [show iT ((upto n).map fun (i : Nat) => (i : Int)) = .tup ((upto n).map nI) from by unfold iT; rw [List.map_map]; rfl] at this
        exact this
      · refine (s_lot (k := k) H2 hn.1 hn.2).mono fun x s3 ⟨l, e6, hl, hne, H3, f3⟩ => ?_
        subst e6
        exact more l s3 hl hne H3 ((f1.trans f2).trans f3))
    form s ⟨H, Fr.refl, [], [], rfl, rfl, rfl, by simp⟩
  refine hcomp.mono fun ys s1 ⟨H1, f1, box, done, e, e2, h3, h4⟩ => ?_
  have e : form = done := by simpa using e
  subst e
  subst e2
  exact ⟨box, rfl, ⟨h3, h4⟩, H1, f1⟩
theorem s_rules {form : List Int} {m : Int} (H : Hand s h c) (hf : Form form) (h0 : 0 ≤ m) (h1 : m ≤ 40) : W ((cl (k + 4)).call "_law_rules" [.ref h, iT form, .int m] s) fun x s' => ∃ rules, x = rT rules ∧ Rules form rules ∧ Hand s' h c ∧ Fr (· = h) s s' := by
  rw [r__law_rules]
  unfold b__law_rules
  simp only [W_ok, W_m1, W_m2, W_m3, W_const, W_var, W_nil, W_cons, W_tup, W_new, W_asB, W_boolD, W_ofB, W_ite, W_not, W_and, W_or, W_chain, W_seqM, W_oNone, W_oSome, W_skip, W_brk, W_cnt, W_badF, W_seq, W_drop, W_ret, W_setN, W_set, W_par, parGo, W_setI, W_setF, W_setAs, W_meth, W_endR, W_for, W_lc, W_ext, W_rg1, rgIE, itsI, seqI, isiI, isiBl, isiNo, W_call, List.getElem?_cons_succ, List.getElem?_cons_zero, Option.getD_some, List.set_cons_succ, List.set_cons_zero, List.length_cons, List.length_nil, Nat.reduceAdd, Nat.zero_add, Nat.reduceEqDiff, Tset1, Tset2, Tset3, wipeE, cmpD, isN, isNN, eqN, eqI, neI, eqB, neB, ltI, leI, addI, subI, intI, seqT, lenE, tupE, eqT, neT, inT, allE, anyE, isiTup, isiInt, itsT, okB, isiB]
  refine (s_draw (k := k + 2) H (by omega) (by omega)).mono fun x s1 ⟨r, e, r0, r1, H1, f1⟩ => ?_
  subst e
  simp only [W_ok, W_m1, W_m2, W_m3, W_const, W_var, W_nil, W_cons, W_tup, W_new, W_asB, W_boolD, W_ofB, W_ite, W_not, W_and, W_or, W_chain, W_seqM, W_oNone, W_oSome, W_skip, W_brk, W_cnt, W_badF, W_seq, W_drop, W_ret, W_setN, W_set, W_par, parGo, W_setI, W_setF, W_setAs, W_meth, W_endR, W_for, W_lc, W_ext, W_rg1, rgIE, itsI, seqI, isiI, isiBl, isiNo, W_call, List.getElem?_cons_succ, List.getElem?_cons_zero, Option.getD_some, List.set_cons_succ, List.set_cons_zero, List.length_cons, List.length_nil, Nat.reduceAdd, Nat.zero_add, Nat.reduceEqDiff, Tset1, Tset2, Tset3, wipeE, cmpD, isN, isNN, eqN, eqI, neI, eqB, neB, ltI, leI, addI, subI, intI, seqT, lenE, tupE, eqT, neT, inT, allE, anyE, isiTup, isiInt, itsT, okB, isiB, rgN (n := r) (by omega) (by omega)]
  refine ⟨size_ok (by simp [upto_len]; omega), ?_⟩
  have hcomp := W_lcGoT (w := []) (t := .nm 3) (env := [some (.ref h), some (iT form), some (.int m), none]) (tt := yesM)
    (te := m1 (consM (varM 0) (consM (varM 1) nilM)) (callD 2 ((cl (k + 3)).call "_law_box")))
    nI (fun rest acc s' => Hand s' h c ∧ Fr (· = h) s s' ∧ ∃ rules : List (List (List Int)), acc = rules.map bT ∧ (∀ b ∈ rules, Box form b) ∧ rules.length + rest.length ≤ 40)
    (fun i rest acc s2 ⟨H2, f2, rules, e, h3, h4⟩ => by
      refine ⟨_, rfl, W_ok.mpr ?_⟩
      simp only [if_true]
      simp only [W_ok, W_m1, W_m2, W_m3, W_const, W_var, W_nil, W_cons, W_tup, W_new, W_asB, W_boolD, W_ofB, W_ite, W_not, W_and, W_or, W_chain, W_seqM, W_oNone, W_oSome, W_skip, W_brk, W_cnt, W_badF, W_seq, W_drop, W_ret, W_setN, W_set, W_par, parGo, W_setI, W_setF, W_setAs, W_meth, W_endR, W_for, W_lc, W_ext, W_rg1, rgIE, itsI, seqI, isiI, isiBl, isiNo, W_call, List.getElem?_cons_succ, List.getElem?_cons_zero, Option.getD_some, List.set_cons_succ, List.set_cons_zero, List.length_cons, List.length_nil, Nat.reduceAdd, Nat.zero_add, Nat.reduceEqDiff, Tset1, Tset2, Tset3, wipeE, cmpD, isN, isNN, eqN, eqI, neI, eqB, neB, ltI, leI, addI, subI, intI, seqT, lenE, tupE, eqT, neT, inT, allE, anyE, isiTup, isiInt, itsT, okB, isiB]
      refine (s_box (k := k) H2 hf).mono fun x s3 ⟨box, e2, hb, H3, f3⟩ => ?_
      subst e2
      refine ⟨watch_nil, H3, f2.trans f3, rules ++ [box], by rw [e]; simp, fun b hb2 => ?_, by simp at h4 ⊢; omega⟩
      rcases List.mem_append.mp hb2 with hb2 | hb2
      · exact h3 b hb2
      · have : b = box := by simpa using hb2
        rw [this]
        exact hb)
    (upto r) s1 ⟨H1, f1, [], rfl, by simp, by simp [upto_len]; omega⟩
  refine hcomp.mono fun ys s2 ⟨H2, f2, rules, e, h3, h4⟩ => ?_
  subst e
  exact ⟨rules, rfl, ⟨by simpa using h4, h3⟩, H2, f2⟩
theorem s_lawful {form : List Int} {rules : List (List (List Int))} (hf : Form form) (hr : Rules form rules) :
    W ((cl (k + 2)).call "_law_lawful" [iT form, rT rules] s) fun d s' => ∃ n, d = .ref n ∧ s'[n]? = some (.lst ((lawF form rules).map iT)) ∧ Fr No s s' ∧ s.length ≤ n := by
  rw [r__law_lawful]
  unfold b__law_lawful
  have hl := hr.len
  have h8 := hf.len8
  simp only [W_ok, W_m1, W_m2, W_m3, W_const, W_var, W_nil, W_cons, W_tup, W_new, W_asB, W_boolD, W_ofB, W_ite, W_not, W_and, W_or, W_chain, W_seqM, W_oNone, W_oSome, W_skip, W_brk, W_cnt, W_badF, W_seq, W_drop, W_ret, W_setN, W_set, W_par, parGo, W_setI, W_setF, W_setAs, W_meth, W_endR, W_for, W_lc, W_ext, W_rg1, rgIE, itsI, seqI, isiI, isiBl, isiNo, W_call, List.getElem?_cons_succ, List.getElem?_cons_zero, Option.getD_some, List.set_cons_succ, List.set_cons_zero, List.length_cons, List.length_nil, Nat.reduceAdd, Nat.zero_add, Nat.reduceEqDiff, Tset1, Tset2, Tset3, wipeE, cmpD, isN, isNN, eqN, eqI, neI, eqB, neB, ltI, leI, addI, subI, intI, seqT, lenE, tupE, eqT, neT, inT, allE, anyE, isiTup, isiInt, itsT, okB, isiB]
  refine (s__law_faults hf).mono fun d s1 ⟨n, e, g1, g2, g3⟩ => ?_
  subst e
  have hlen := allF_len hf
  simp only [W_ok, W_m1, W_m2, W_m3, W_const, W_var, W_nil, W_cons, W_tup, W_new, W_asB, W_boolD, W_ofB, W_ite, W_not, W_and, W_or, W_chain, W_seqM, W_oNone, W_oSome, W_skip, W_brk, W_cnt, W_badF, W_seq, W_drop, W_ret, W_setN, W_set, W_par, parGo, W_setI, W_setF, W_setAs, W_meth, W_endR, W_for, W_lc, W_ext, W_rg1, rgIE, itsI, seqI, isiI, isiBl, isiNo, W_call, List.getElem?_cons_succ, List.getElem?_cons_zero, Option.getD_some, List.set_cons_succ, List.set_cons_zero, List.length_cons, List.length_nil, Nat.reduceAdd, Nat.zero_add, Nat.reduceEqDiff, Tset1, Tset2, Tset3, wipeE, cmpD, isN, isNN, eqN, eqI, neI, eqB, neB, ltI, leI, addI, subI, intI, seqT, lenE, tupE, eqT, neT, inT, allE, anyE, isiTup, isiInt, itsT, okB, isiB, itsL g1]
  refine ⟨size_ok (by simp; omega), W_of_eq (lcGo_over (watch_one g1) iT (lawB rules) iT _ fun f hm => ⟨_, rfl, ?_, fun _ => ?_⟩) ?_⟩
  · simp only [W_ok, W_m1, W_m2, W_m3, W_const, W_var, W_nil, W_cons, W_tup, W_new, W_asB, W_boolD, W_ofB, W_ite, W_not, W_and, W_or, W_chain, W_seqM, W_oNone, W_oSome, W_skip, W_brk, W_cnt, W_badF, W_seq, W_drop, W_ret, W_setN, W_set, W_par, parGo, W_setI, W_setF, W_setAs, W_meth, W_endR, W_for, W_lc, W_ext, W_rg1, rgIE, itsI, seqI, isiI, isiBl, isiNo, W_call, List.getElem?_cons_succ, List.getElem?_cons_zero, Option.getD_some, List.set_cons_succ, List.set_cons_zero, List.length_cons, List.length_nil, Nat.reduceAdd, Nat.zero_add, Nat.reduceEqDiff, Tset1, Tset2, Tset3, wipeE, cmpD, isN, isNN, eqN, eqI, neI, eqB, neB, ltI, leI, addI, subI, intI, seqT, lenE, tupE, eqT, neT, inT, allE, anyE, isiTup, isiInt, itsT, okB, isiB, rT]
    refine ⟨size_ok (by simp; omega), W_of_eq (lcGo_all watch_nil _ (fun r => .bl (heldB r f)) _ fun r hm => ⟨_, rfl, ?_⟩) ?_⟩
    · simp only [W_ok, W_m1, W_m2, W_m3, W_const, W_var, W_nil, W_cons, W_tup, W_new, W_asB, W_boolD, W_ofB, W_ite, W_not, W_and, W_or, W_chain, W_seqM, W_oNone, W_oSome, W_skip, W_brk, W_cnt, W_badF, W_seq, W_drop, W_ret, W_setN, W_set, W_par, parGo, W_setI, W_setF, W_setAs, W_meth, W_endR, W_for, W_lc, W_ext, W_rg1, rgIE, itsI, seqI, isiI, isiBl, isiNo, W_call, List.getElem?_cons_succ, List.getElem?_cons_zero, Option.getD_some, List.set_cons_succ, List.set_cons_zero, List.length_cons, List.length_nil, Nat.reduceAdd, Nat.zero_add, Nat.reduceEqDiff, Tset1, Tset2, Tset3, wipeE, cmpD, isN, isNN, eqN, eqI, neI, eqB, neB, ltI, leI, addI, subI, intI, seqT, lenE, tupE, eqT, neT, inT, allE, anyE, isiTup, isiInt, itsT, okB, isiB]
      rw [show bT r = .tup (r.map iT) from rfl, s__law_held (by rw [(hr.box r hm).len]; omega)]
      simp only [W_ok, W_m1, W_m2, W_m3, W_const, W_var, W_nil, W_cons, W_tup, W_new, W_asB, W_boolD, W_ofB, W_ite, W_not, W_and, W_or, W_chain, W_seqM, W_oNone, W_oSome, W_skip, W_brk, W_cnt, W_badF, W_seq, W_drop, W_ret, W_setN, W_set, W_par, parGo, W_setI, W_setF, W_setAs, W_meth, W_endR, W_for, W_lc, W_ext, W_rg1, rgIE, itsI, seqI, isiI, isiBl, isiNo, W_call, List.getElem?_cons_succ, List.getElem?_cons_zero, Option.getD_some, List.set_cons_succ, List.set_cons_zero, List.length_cons, List.length_nil, Nat.reduceAdd, Nat.zero_add, Nat.reduceEqDiff, Tset1, Tset2, Tset3, wipeE, cmpD, isN, isNN, eqN, eqI, neI, eqB, neB, ltI, leI, addI, subI, intI, seqT, lenE, tupE, eqT, neT, inT, allE, anyE, isiTup, isiInt, itsT, okB, isiB]
      simp [heldB]
    · rw [anyG]
      simp only [W_ok, W_m1, W_m2, W_m3, W_const, W_var, W_nil, W_cons, W_tup, W_new, W_asB, W_boolD, W_ofB, W_ite, W_not, W_and, W_or, W_chain, W_seqM, W_oNone, W_oSome, W_skip, W_brk, W_cnt, W_badF, W_seq, W_drop, W_ret, W_setN, W_set, W_par, parGo, W_setI, W_setF, W_setAs, W_meth, W_endR, W_for, W_lc, W_ext, W_rg1, rgIE, itsI, seqI, isiI, isiBl, isiNo, W_call, List.getElem?_cons_succ, List.getElem?_cons_zero, Option.getD_some, List.set_cons_succ, List.set_cons_zero, List.length_cons, List.length_nil, Nat.reduceAdd, Nat.zero_add, Nat.reduceEqDiff, Tset1, Tset2, Tset3, wipeE, cmpD, isN, isNN, eqN, eqI, neI, eqB, neB, ltI, leI, addI, subI, intI, seqT, lenE, tupE, eqT, neT, inT, allE, anyE, isiTup, isiInt, itsT, okB, isiB]
      simp [lawB]
  · simp only [W_ok, W_m1, W_m2, W_m3, W_const, W_var, W_nil, W_cons, W_tup, W_new, W_asB, W_boolD, W_ofB, W_ite, W_not, W_and, W_or, W_chain, W_seqM, W_oNone, W_oSome, W_skip, W_brk, W_cnt, W_badF, W_seq, W_drop, W_ret, W_setN, W_set, W_par, parGo, W_setI, W_setF, W_setAs, W_meth, W_endR, W_for, W_lc, W_ext, W_rg1, rgIE, itsI, seqI, isiI, isiBl, isiNo, W_call, List.getElem?_cons_succ, List.getElem?_cons_zero, Option.getD_some, List.set_cons_succ, List.set_cons_zero, List.length_cons, List.length_nil, Nat.reduceAdd, Nat.zero_add, Nat.reduceEqDiff, Tset1, Tset2, Tset3, wipeE, cmpD, isN, isNN, eqN, eqI, neI, eqB, neB, ltI, leI, addI, subI, intI, seqT, lenE, tupE, eqT, neT, inT, allE, anyE, isiTup, isiInt, itsT, okB, isiB]
    simp
  · exact ⟨s1.length, rfl, at_len, g2.trans Fr.push, g2.len⟩
end
end Law_k72

set_option Elab.async false
set_option maxRecDepth 100000
set_option linter.all false
set_option maxHeartbeats 1000000
namespace Law_k72
open PySem L2 Mini
/-- values of a fault are values of its form -/
theorem allF_val_aux : ∀ (rest done : List Int) (found : List (List Int)), (∀ f ∈ found, ∀ i v n : Int, 0 ≤ i → f[i.toNat]? = some v → done[i.toNat]? = some n → 0 ≤ v ∧ v < n) → (∀ f ∈ found, f.length = done.length) →
    ∀ f ∈ rest.foldl stepF found, ∀ i v n : Int, 0 ≤ i → f[i.toNat]? = some v → (done ++ rest)[i.toNat]? = some n → 0 ≤ v ∧ v < n
  | [], done, found, h, hl, f, hf, i, v, n, h0, h1, h2 => h f hf i v n h0 h1 (by simpa using h2)
  | m :: rest, done, found, h, hl, f, hf, i, v, n, h0, h1, h2 => by
    refine allF_val_aux rest (done ++ [m]) (stepF found m) (fun g hg i v n h0 h1 h2 => ?_) (fun g hg => ?_) f hf i v n h0 h1 (by simpa using h2)
    · unfold stepF at hg
      obtain ⟨a, ha, hg⟩ := List.mem_flatMap.mp hg
      obtain ⟨w, hw, rfl⟩ := List.mem_map.mp hg
      have hla := hl a ha
      by_cases hi : i.toNat < a.length
      · rw [List.getElem?_append_left hi] at h1
        rw [List.getElem?_append_left (by omega)] at h2
        exact h a ha i v n h0 h1 h2
      · have hlt := (List.getElem?_eq_some_iff.mp h1).1
        have e : i.toNat = a.length := by
          rw [List.length_append, List.length_singleton] at hlt
          omega
        rw [e] at h1
        rw [e, hla] at h2
        have h1 : (w : Int) = v := by simpa using h1
        have h2 : m = n := by simpa using h2
        have := upto_lt hw
        omega
    · unfold stepF at hg
      obtain ⟨a, ha, hg⟩ := List.mem_flatMap.mp hg
      obtain ⟨w, hw, rfl⟩ := List.mem_map.mp hg
      simp [hl a ha]
theorem allF_val {form f : List Int} (h : f ∈ allF form) {i : Nat} {v n : Int} (h1 : f[i]? = some v) (h2 : form[i]? = some n) : 0 ≤ v ∧ v < n := by
  have := allF_val_aux form [] [[]] (fun g hg i v n h0 h1 h2 => by simp at h2) (by simp) f h (i : Int) v n (by omega) (by simpa using h1) (by simpa using h2)
  exact this
section
variable {k : Nat} {s : S} {h c : Nat}
theorem frlen {s s' : S} {h : Nat} (f : Fr (· = h) s s') (hl : h < s'.length) : s.length ≤ s'.length := by
  by_cases e : s.length ≤ s'.length
  · exact e
  · have h1 : s'.length < s.length := by omega
    have := f s'.length _ (List.getElem?_eq_getElem h1) (by show ¬ s'.length = h; omega)
    rw [List.getElem?_eq_none (Nat.le_refl _)] at this
    cases this
/-- a book's parts -/
theorem s_few {m q : Int} (H : Hand s h c) (h2 : m ≤ 4000) (hq : 2 ≤ q) : W ((cl (k + 5)).call "_law_few_book" [.ref h, .int 3, .int m, .int q] s) fun x s' => ∃ form rules n, x = .tup [iT form, rT rules, .ref n] ∧ Form form ∧ Rules form rules ∧
    s'[n]? = some (.lst ((lawF form rules).map iT)) ∧ lawF form rules ≠ [] ∧ form.length ≤ 3 ∧ s.length ≤ n ∧ Hand s' h c ∧ Fr (· = h) s s' := by
  rw [r__law_few_book]
  unfold b__law_few_book
  simp only [W_ok, W_m1, W_m2, W_m3, W_const, W_var, W_nil, W_cons, W_tup, W_new, W_asB, W_boolD, W_ofB, W_ite, W_not, W_and, W_or, W_chain, W_seqM, W_oNone, W_oSome, W_skip, W_brk, W_cnt, W_badF, W_seq, W_drop, W_ret, W_setN, W_set, W_par, parGo, W_setI, W_setF, W_setAs, W_meth, W_endR, W_for, W_lc, W_ext, W_rg1, rgIE, itsI, seqI, isiI, isiBl, isiNo, W_call, List.getElem?_cons_succ, List.getElem?_cons_zero, Option.getD_some, List.set_cons_succ, List.set_cons_zero, List.length_cons, List.length_nil, Nat.reduceAdd, Nat.zero_add, Nat.reduceEqDiff, Tset1, Tset2, Tset3, wipeE, cmpD, isN, isNN, eqN, eqI, neI, eqB, neB, ltI, leI, addI, subI, intI, seqT, lenE, tupE, eqT, neT, inT, allE, anyE, isiTup, isiInt, itsT, okB, isiB, rgN (n := 12) (by decide) (by decide)]
  refine W_goT nI (fun rest env s' => ∃ d4 d5 d6 d7, env = [some (.ref h), some (.int 3), some (.int m), some (.int q), d4, d5, d6, d7] ∧ Hand s' h c ∧ Fr (· = h) s s') ?_ ?_ _ _ _ ?_
  · rintro env s1 ⟨d4, d5, d6, d7, rfl, H1, f1⟩
    have hlt := H1.lt
    refine ⟨[2], [], s1.length, rfl, ⟨by decide, by decide, by simp, by decide⟩, ⟨by decide, by simp⟩, ?_, by decide, by decide, ?_, H1.no Fr.push, f1.trans Fr.push⟩
    · rw [at_len]
      rfl
    · exact frlen f1 H1.lt.1
  · rintro i rest env s1 ⟨d4, d5, d6, d7, rfl, H1, f1⟩
    refine ⟨_, rfl, ?_⟩
    try simp only [W_ok, W_m1, W_m2, W_m3, W_const, W_var, W_nil, W_cons, W_tup, W_new, W_asB, W_boolD, W_ofB, W_ite, W_not, W_and, W_or, W_chain, W_seqM, W_oNone, W_oSome, W_skip, W_brk, W_cnt, W_badF, W_seq, W_drop, W_ret, W_setN, W_set, W_par, parGo, W_setI, W_setF, W_setAs, W_meth, W_endR, W_for, W_lc, W_ext, W_rg1, rgIE, itsI, seqI, isiI, isiBl, isiNo, W_call, List.getElem?_cons_succ, List.getElem?_cons_zero, Option.getD_some, List.set_cons_succ, List.set_cons_zero, List.length_cons, List.length_nil, Nat.reduceAdd, Nat.zero_add, Nat.reduceEqDiff, Tset1, Tset2, Tset3, wipeE, cmpD, isN, isNN, eqN, eqI, neI, eqB, neB, ltI, leI, addI, subI, intI, seqT, lenE, tupE, eqT, neT, inT, allE, anyE, isiTup, isiInt, itsT, okB, isiB]
    refine (s_form (k := k + 1) H1 (by decide) (by decide) h2).mono fun x s2 ⟨form, e, hf, hl, H2, f2⟩ => ?_
    subst e
    try simp only [W_ok, W_m1, W_m2, W_m3, W_const, W_var, W_nil, W_cons, W_tup, W_new, W_asB, W_boolD, W_ofB, W_ite, W_not, W_and, W_or, W_chain, W_seqM, W_oNone, W_oSome, W_skip, W_brk, W_cnt, W_badF, W_seq, W_drop, W_ret, W_setN, W_set, W_par, parGo, W_setI, W_setF, W_setAs, W_meth, W_endR, W_for, W_lc, W_ext, W_rg1, rgIE, itsI, seqI, isiI, isiBl, isiNo, W_call, List.getElem?_cons_succ, List.getElem?_cons_zero, Option.getD_some, List.set_cons_succ, List.set_cons_zero, List.length_cons, List.length_nil, Nat.reduceAdd, Nat.zero_add, Nat.reduceEqDiff, Tset1, Tset2, Tset3, wipeE, cmpD, isN, isNN, eqN, eqI, neI, eqB, neB, ltI, leI, addI, subI, intI, seqT, lenE, tupE, eqT, neT, inT, allE, anyE, isiTup, isiInt, itsT, okB, isiB]
    refine (s_rules (k := k) H2 hf (by decide) (by decide)).mono fun x s3 ⟨rules, e, hr, H3, f3⟩ => ?_
    subst e
    try simp only [W_ok, W_m1, W_m2, W_m3, W_const, W_var, W_nil, W_cons, W_tup, W_new, W_asB, W_boolD, W_ofB, W_ite, W_not, W_and, W_or, W_chain, W_seqM, W_oNone, W_oSome, W_skip, W_brk, W_cnt, W_badF, W_seq, W_drop, W_ret, W_setN, W_set, W_par, parGo, W_setI, W_setF, W_setAs, W_meth, W_endR, W_for, W_lc, W_ext, W_rg1, rgIE, itsI, seqI, isiI, isiBl, isiNo, W_call, List.getElem?_cons_succ, List.getElem?_cons_zero, Option.getD_some, List.set_cons_succ, List.set_cons_zero, List.length_cons, List.length_nil, Nat.reduceAdd, Nat.zero_add, Nat.reduceEqDiff, Tset1, Tset2, Tset3, wipeE, cmpD, isN, isNN, eqN, eqI, neI, eqB, neB, ltI, leI, addI, subI, intI, seqT, lenE, tupE, eqT, neT, inT, allE, anyE, isiTup, isiInt, itsT, okB, isiB]
    refine (s_lawful (k := k + 2) hf hr).mono fun x s4 ⟨n, e, g1, g2, g3⟩ => ?_
    subst e
    try simp only [W_ok, W_m1, W_m2, W_m3, W_const, W_var, W_nil, W_cons, W_tup, W_new, W_asB, W_boolD, W_ofB, W_ite, W_not, W_and, W_or, W_chain, W_seqM, W_oNone, W_oSome, W_skip, W_brk, W_cnt, W_badF, W_seq, W_drop, W_ret, W_setN, W_set, W_par, parGo, W_setI, W_setF, W_setAs, W_meth, W_endR, W_for, W_lc, W_ext, W_rg1, rgIE, itsI, seqI, isiI, isiBl, isiNo, W_call, List.getElem?_cons_succ, List.getElem?_cons_zero, Option.getD_some, List.set_cons_succ, List.set_cons_zero, List.length_cons, List.length_nil, Nat.reduceAdd, Nat.zero_add, Nat.reduceEqDiff, Tset1, Tset2, Tset3, wipeE, cmpD, isN, isNN, eqN, eqI, neI, eqB, neB, ltI, leI, addI, subI, intI, seqT, lenE, tupE, eqT, neT, inT, allE, anyE, isiTup, isiInt, itsT, okB, isiB, seqL g1]
    have H4 := H3.no g2
    have f4 : Fr (· = h) s s4 := ((f1.trans f2).trans f3).trans (g2.imp fun _ h => False.elim h)
    by_cases hne : lawF form rules = []
    · have : decide ((0 : Int) < (((lawF form rules).map iT).length : Int)) = false := decide_eq_false (by rw [hne]; decide)
      simp only [this, if_false, Bool.false_eq_true]
      exact ⟨watch_nil, _, _, _, _, rfl, H4, f4⟩
    · have hpos := List.length_pos_iff.mpr hne
      have : decide ((0 : Int) < (((lawF form rules).map iT).length : Int)) = true := decide_eq_true (by simp; omega)
      simp only [this, if_true]
      split
      · have := frlen ((f1.trans f2).trans f3) H3.lt.1
        exact ⟨form, rules, n, rfl, hf, hr, g1, hne, by omega, by omega, H4, f4⟩
      · exact ⟨watch_nil, _, _, _, _, rfl, H4, f4⟩
  · exact ⟨_, _, _, _, rfl, H, Fr.refl⟩
end
end Law_k72

set_option Elab.async false
set_option maxRecDepth 100000
set_option linter.all false
set_option maxHeartbeats 1000000
namespace Law_k72
open PySem L2 Mini
section
variable {k : Nat} {s : S} {h c : Nat}
theorem popL {n i : Nat} {xs : List D} {d : D} (hn : s[n]? = some (.lst xs)) (hi : xs[i]? = some d) (hl : xs.length ≤ sizeLine) : popD (.ref n) [.int (i : Int)] s = .ok d (s.set n (.lst (xs.eraseIdx i))) := by
  have hlt := (List.getElem?_eq_some_iff.mp hi).1
  unfold popD
  simp only
  rw [hn]
  simp only
  rw [ixN_at hlt]
  simp only
  rw [hi]
  exact if_pos hl
theorem perm_erase {α : Type} : ∀ {xs : List α} {i : Nat} {d : α}, xs[i]? = some d → (d :: xs.eraseIdx i).Perm xs
  | x :: xs, 0, d, h => by
    have : x = d := by simpa using h
    subst this
    exact List.Perm.refl _
  | x :: xs, i + 1, d, h => by
    have ih := perm_erase (xs := xs) (i := i) (d := d) (by simpa using h)
    exact (List.Perm.swap x d _).trans (ih.cons x)
  | [], i, d, h => by simp at h
/-- shuffled -/
theorem s_mixed {d : D} {ds : List D} (H : Hand s h c) (hd : Row s d ds) (hl : ds.length ≤ 100000) :
    W ((cl (k + 2)).call "_law_mixed" [.ref h, d] s) fun x s' => ∃ m es, x = .ref m ∧ s'[m]? = some (.lst es) ∧ es.Perm ds ∧ s.length ≤ m ∧ Hand s' h c ∧ Fr (· = h) s s' := by
  rw [r__law_mixed]
  unfold b__law_mixed
  have hlt := H.lt
  simp only [W_ok, W_m1, W_m2, W_m3, W_const, W_var, W_nil, W_cons, W_tup, W_new, W_asB, W_boolD, W_ofB, W_ite, W_not, W_and, W_or, W_chain, W_seqM, W_oNone, W_oSome, W_skip, W_brk, W_cnt, W_badF, W_seq, W_drop, W_ret, W_setN, W_set, W_par, parGo, W_setI, W_setF, W_setAs, W_meth, W_endR, W_for, W_lc, W_ext, W_rg1, rgIE, itsI, seqI, isiI, isiBl, isiNo, W_call, List.getElem?_cons_succ, List.getElem?_cons_zero, Option.getD_some, List.set_cons_succ, List.set_cons_zero, List.length_cons, List.length_nil, Nat.reduceAdd, Nat.zero_add, Nat.reduceEqDiff, Tset1, Tset2, Tset3, wipeE, cmpD, isN, isNN, eqN, eqI, neI, eqB, neB, ltI, leI, addI, subI, intI, seqT, lenE, tupE, eqT, neT, inT, allE, anyE, isiTup, isiInt, itsT, okB, isiB, hd.seq]
  have e1 : (s ++ [O.lst ds]).length = s.length + 1 := by simp
  rw [e1]
  have hL : (s ++ [O.lst ds] ++ [O.lst []])[s.length]? = some (.lst ds) := at_old at_len
  have hF : (s ++ [O.lst ds] ++ [O.lst []])[s.length + 1]? = some (.lst []) := by
    have := at_len (s := s ++ [O.lst ds]) (o := .lst [])
    rwa [e1] at this
  refine W_wh (fun m env s' => ∃ left acc, env = [some (.ref h), some d, some (.ref s.length), some (.ref (s.length + 1))] ∧ m = left.length ∧ s'[s.length]? = some (.lst left) ∧ s'[s.length + 1]? = some (.lst acc) ∧ (acc ++ left).Perm ds ∧ Hand s' h c ∧ Fr (· = h) s s')
    ?_ turns ds.length _ _ (by unfold turns; omega) ⟨ds, [], rfl, rfl, hL, hF, List.Perm.refl _, (H.no Fr.push).no Fr.push, Fr.push.trans Fr.push⟩
  rintro m env s1 ⟨left, acc, rfl, rfl, g1, g2, g3, H1, f1⟩
  simp only [W_ok, W_m1, W_m2, W_m3, W_const, W_var, W_nil, W_cons, W_tup, W_new, W_asB, W_boolD, W_ofB, W_ite, W_not, W_and, W_or, W_chain, W_seqM, W_oNone, W_oSome, W_skip, W_brk, W_cnt, W_badF, W_seq, W_drop, W_ret, W_setN, W_set, W_par, parGo, W_setI, W_setF, W_setAs, W_meth, W_endR, W_for, W_lc, W_ext, W_rg1, rgIE, itsI, seqI, isiI, isiBl, isiNo, W_call, List.getElem?_cons_succ, List.getElem?_cons_zero, Option.getD_some, List.set_cons_succ, List.set_cons_zero, List.length_cons, List.length_nil, Nat.reduceAdd, Nat.zero_add, Nat.reduceEqDiff, Tset1, Tset2, Tset3, wipeE, cmpD, isN, isNN, eqN, eqI, neI, eqB, neB, ltI, leI, addI, subI, intI, seqT, lenE, tupE, eqT, neT, inT, allE, anyE, isiTup, isiInt, itsT, okB, isiB, seqL g1]
  have hlen := g3.length_eq
  rw [List.length_append] at hlen
  by_cases hz : left = []
  · subst hz
    have : decide ((0 : Int) < (([] : List D).length : Int)) = false := by decide
    simp only [this, if_false, Bool.false_eq_true]
    exact ⟨s.length + 1, acc, rfl, g2, by simpa using g3, by omega, H1, f1⟩
  · have hpos := List.length_pos_iff.mpr hz
    have : decide ((0 : Int) < (left.length : Int)) = true := decide_eq_true (by omega)
    simp only [this, if_true]
    simp only [W_ok, W_m1, W_m2, W_m3, W_const, W_var, W_nil, W_cons, W_tup, W_new, W_asB, W_boolD, W_ofB, W_ite, W_not, W_and, W_or, W_chain, W_seqM, W_oNone, W_oSome, W_skip, W_brk, W_cnt, W_badF, W_seq, W_drop, W_ret, W_setN, W_set, W_par, parGo, W_setI, W_setF, W_setAs, W_meth, W_endR, W_for, W_lc, W_ext, W_rg1, rgIE, itsI, seqI, isiI, isiBl, isiNo, W_call, List.getElem?_cons_succ, List.getElem?_cons_zero, Option.getD_some, List.set_cons_succ, List.set_cons_zero, List.length_cons, List.length_nil, Nat.reduceAdd, Nat.zero_add, Nat.reduceEqDiff, Tset1, Tset2, Tset3, wipeE, cmpD, isN, isNN, eqN, eqI, neI, eqB, neB, ltI, leI, addI, subI, intI, seqT, lenE, tupE, eqT, neT, inT, allE, anyE, isiTup, isiInt, itsT, okB, isiB, isL g1, isL g2, seqL g1]
    refine ⟨trivial, trivial, (s_draw (k := k) H1 (by omega) (by omega)).mono fun x s2 ⟨r, e, r0, r1, H2, f2⟩ => ?_⟩
    subst e
    obtain ⟨i, rfl⟩ : ∃ i : Nat, r = i := ⟨r.toNat, by omega⟩
    have hi : i < left.length := by omega
    have g1' : s2[s.length]? = some (.lst left) := f2 _ _ g1 (by show ¬ s.length = h; omega)
    have g2' : s2[s.length + 1]? = some (.lst acc) := f2 _ _ g2 (by show ¬ s.length + 1 = h; omega)
    rw [popL g1' (List.getElem?_eq_getElem hi) (size_ok (by omega))]
    try simp only [W_ok, W_m1, W_m2, W_m3, W_const, W_var, W_nil, W_cons, W_tup, W_new, W_asB, W_boolD, W_ofB, W_ite, W_not, W_and, W_or, W_chain, W_seqM, W_oNone, W_oSome, W_skip, W_brk, W_cnt, W_badF, W_seq, W_drop, W_ret, W_setN, W_set, W_par, parGo, W_setI, W_setF, W_setAs, W_meth, W_endR, W_for, W_lc, W_ext, W_rg1, rgIE, itsI, seqI, isiI, isiBl, isiNo, W_call, List.getElem?_cons_succ, List.getElem?_cons_zero, Option.getD_some, List.set_cons_succ, List.set_cons_zero, List.length_cons, List.length_nil, Nat.reduceAdd, Nat.zero_add, Nat.reduceEqDiff, Tset1, Tset2, Tset3, wipeE, cmpD, isN, isNN, eqN, eqI, neI, eqB, neB, ltI, leI, addI, subI, intI, seqT, lenE, tupE, eqT, neT, inT, allE, anyE, isiTup, isiInt, itsT, okB, isiB]
    have g2'' : (s2.set s.length (.lst (left.eraseIdx i)))[s.length + 1]? = some (.lst acc) := by
      rw [List.getElem?_set_ne (by omega)]
      exact g2'
    rw [appL g2'' (by rw [sizeLine_eq]; omega)]
    try simp only [W_ok, W_m1, W_m2, W_m3, W_const, W_var, W_nil, W_cons, W_tup, W_new, W_asB, W_boolD, W_ofB, W_ite, W_not, W_and, W_or, W_chain, W_seqM, W_oNone, W_oSome, W_skip, W_brk, W_cnt, W_badF, W_seq, W_drop, W_ret, W_setN, W_set, W_par, parGo, W_setI, W_setF, W_setAs, W_meth, W_endR, W_for, W_lc, W_ext, W_rg1, rgIE, itsI, seqI, isiI, isiBl, isiNo, W_call, List.getElem?_cons_succ, List.getElem?_cons_zero, Option.getD_some, List.set_cons_succ, List.set_cons_zero, List.length_cons, List.length_nil, Nat.reduceAdd, Nat.zero_add, Nat.reduceEqDiff, Tset1, Tset2, Tset3, wipeE, cmpD, isN, isNN, eqN, eqI, neI, eqB, neB, ltI, leI, addI, subI, intI, seqT, lenE, tupE, eqT, neT, inT, allE, anyE, isiTup, isiInt, itsT, okB, isiB]
    have hlt2 := H2.lt
    refine ⟨(left.eraseIdx i).length, by rw [List.length_eraseIdx_of_lt hi]; omega, left.eraseIdx i, acc ++ [left[i]], trivial, rfl, ?_, ?_, ?_, (H2.set (by omega) (by omega)).set (by omega) (by omega), ?_⟩
    · rw [List.getElem?_set_ne (by omega), List.getElem?_set_self (List.getElem?_eq_some_iff.mp g1').1]
    · rw [List.getElem?_set_self (List.getElem?_eq_some_iff.mp g2'').1]
    · have hp := perm_erase (List.getElem?_eq_getElem hi)
      rw [List.append_assoc]
      exact (List.Perm.append_left acc hp).trans g3
    · exact ((f1.trans f2).new (Nat.le_refl _)).new (Nat.le_succ _)
/-- a talk -/
theorem s_talk {form : List Int} {so : List (List Int)} {n : Nat} (H : Hand s h c) (hf : Form form) (hn : s[n]? = some (.lst (so.map iT))) (hs : ∀ f ∈ so, f ∈ allF form) (hne : so ≠ []) (hl : so.length ≤ 4000) (hnh : n ≠ h) :
    W ((cl (k + 3)).call "_law_talk" [.ref h, iT form, .ref n, .int 8] s) fun x s' => ∃ tk, Row s' x (tk.map tP) ∧ Talk form tk ∧ (∀ m, x = .ref m → s.length ≤ m) ∧ tk.length ≤ 8 ∧ Hand s' h c ∧ Fr (· = h) s s' := by
  rw [r__law_talk]
  unfold b__law_talk
  have h8 := hf.len8
  have h1 := hf.len1
  simp only [W_ok, W_m1, W_m2, W_m3, W_const, W_var, W_nil, W_cons, W_tup, W_new, W_asB, W_boolD, W_ofB, W_ite, W_not, W_and, W_or, W_chain, W_seqM, W_oNone, W_oSome, W_skip, W_brk, W_cnt, W_badF, W_seq, W_drop, W_ret, W_setN, W_set, W_par, parGo, W_setI, W_setF, W_setAs, W_meth, W_endR, W_for, W_lc, W_ext, W_rg1, rgIE, itsI, seqI, isiI, isiBl, isiNo, W_call, List.getElem?_cons_succ, List.getElem?_cons_zero, Option.getD_some, List.set_cons_succ, List.set_cons_zero, List.length_cons, List.length_nil, Nat.reduceAdd, Nat.zero_add, Nat.reduceEqDiff, Tset1, Tset2, Tset3, wipeE, cmpD, isN, isNN, eqN, eqI, neI, eqB, neB, ltI, leI, addI, subI, intI, seqT, lenE, tupE, eqT, neT, inT, allE, anyE, isiTup, isiInt, itsT, okB, isiB]
  refine (s_some (k := k + 0) H (.inr ⟨n, rfl, hn⟩) (by simpa using hne) (by simp; omega) (by simpa using hnh)).mono fun x s1 ⟨q1, H1, f1⟩ => ?_
  obtain ⟨f, hfm, rfl⟩ := List.mem_map.mp q1
  have hfl := allF_flen (hs f hfm)
  have hlt := H.lt
  have hs1 := frlen f1 H1.lt.1
  try simp only [W_ok, W_m1, W_m2, W_m3, W_const, W_var, W_nil, W_cons, W_tup, W_new, W_asB, W_boolD, W_ofB, W_ite, W_not, W_and, W_or, W_chain, W_seqM, W_oNone, W_oSome, W_skip, W_brk, W_cnt, W_badF, W_seq, W_drop, W_ret, W_setN, W_set, W_par, parGo, W_setI, W_setF, W_setAs, W_meth, W_endR, W_for, W_lc, W_ext, W_rg1, rgIE, itsI, seqI, isiI, isiBl, isiNo, W_call, List.getElem?_cons_succ, List.getElem?_cons_zero, Option.getD_some, List.set_cons_succ, List.set_cons_zero, List.length_cons, List.length_nil, Nat.reduceAdd, Nat.zero_add, Nat.reduceEqDiff, Tset1, Tset2, Tset3, wipeE, cmpD, isN, isNN, eqN, eqI, neI, eqB, neB, ltI, leI, addI, subI, intI, seqT, lenE, tupE, eqT, neT, inT, allE, anyE, isiTup, isiInt, itsT, okB, isiB]
  refine (s_draw (k := k + 1) (H1.no Fr.push) (by decide) (by decide)).mono fun x s2 ⟨r, e, r0, r1, H2, f2⟩ => ?_
  subst e
  have g0 : s2[s1.length]? = some (.lst []) := f2 _ _ at_len (by show ¬ s1.length = h; omega)
  simp only [W_ok, W_m1, W_m2, W_m3, W_const, W_var, W_nil, W_cons, W_tup, W_new, W_asB, W_boolD, W_ofB, W_ite, W_not, W_and, W_or, W_chain, W_seqM, W_oNone, W_oSome, W_skip, W_brk, W_cnt, W_badF, W_seq, W_drop, W_ret, W_setN, W_set, W_par, parGo, W_setI, W_setF, W_setAs, W_meth, W_endR, W_for, W_lc, W_ext, W_rg1, rgIE, itsI, seqI, isiI, isiBl, isiNo, W_call, List.getElem?_cons_succ, List.getElem?_cons_zero, Option.getD_some, List.set_cons_succ, List.set_cons_zero, List.length_cons, List.length_nil, Nat.reduceAdd, Nat.zero_add, Nat.reduceEqDiff, Tset1, Tset2, Tset3, wipeE, cmpD, isN, isNN, eqN, eqI, neI, eqB, neB, ltI, leI, addI, subI, intI, seqT, lenE, tupE, eqT, neT, inT, allE, anyE, isiTup, isiInt, itsT, okB, isiB, rgN (n := r) (by omega) (by omega)]
  refine W_goT nI (fun rest env s' => ∃ (tk : List (Int × Int)) (d6 d7 : Option D), env = [some (.ref h), some (iT form), some (.ref n), some (.int 8), some (iT f), some (.ref s1.length), d6, d7] ∧ s'[s1.length]? = some (.lst (tk.map tP)) ∧
      (∀ p ∈ tk, 0 ≤ p.1 ∧ ∃ n, form[p.1.toNat]? = some n ∧ 0 ≤ p.2 ∧ p.2 < n) ∧ tk.length + rest.length ≤ 8 ∧ Hand s' h c ∧ Fr (· = h) s s') ?_ ?_ _ _ _ ?_
  · rintro env s3 ⟨tk, d6, d7, rfl, g1, g2, g3, H3, f3⟩
    simp only [W_ok, W_m1, W_m2, W_m3, W_const, W_var, W_nil, W_cons, W_tup, W_new, W_asB, W_boolD, W_ofB, W_ite, W_not, W_and, W_or, W_chain, W_seqM, W_oNone, W_oSome, W_skip, W_brk, W_cnt, W_badF, W_seq, W_drop, W_ret, W_setN, W_set, W_par, parGo, W_setI, W_setF, W_setAs, W_meth, W_endR, W_for, W_lc, W_ext, W_rg1, rgIE, itsI, seqI, isiI, isiBl, isiNo, W_call, List.getElem?_cons_succ, List.getElem?_cons_zero, Option.getD_some, List.set_cons_succ, List.set_cons_zero, List.length_cons, List.length_nil, Nat.reduceAdd, Nat.zero_add, Nat.reduceEqDiff, Tset1, Tset2, Tset3, wipeE, cmpD, isN, isNN, eqN, eqI, neI, eqB, neB, ltI, leI, addI, subI, intI, seqT, lenE, tupE, eqT, neT, inT, allE, anyE, isiTup, isiInt, itsT, okB, isiB]
    refine (s_draw (k := k + 1) H3 (by decide) (by decide)).mono fun x s4 ⟨r, e, r0, r1, H4, f4⟩ => ?_
    subst e
    have g1' : s4[s1.length]? = some (.lst (tk.map tP)) := f4 _ _ g1 (by show ¬ s1.length = h; omega)
    have htk : Talk form tk := ⟨by simp at g3; omega, g2⟩
    simp only [W_ok, W_m1, W_m2, W_m3, W_const, W_var, W_nil, W_cons, W_tup, W_new, W_asB, W_boolD, W_ofB, W_ite, W_not, W_and, W_or, W_chain, W_seqM, W_oNone, W_oSome, W_skip, W_brk, W_cnt, W_badF, W_seq, W_drop, W_ret, W_setN, W_set, W_par, parGo, W_setI, W_setF, W_setAs, W_meth, W_endR, W_for, W_lc, W_ext, W_rg1, rgIE, itsI, seqI, isiI, isiBl, isiNo, W_call, List.getElem?_cons_succ, List.getElem?_cons_zero, Option.getD_some, List.set_cons_succ, List.set_cons_zero, List.length_cons, List.length_nil, Nat.reduceAdd, Nat.zero_add, Nat.reduceEqDiff, Tset1, Tset2, Tset3, wipeE, cmpD, isN, isNN, eqN, eqI, neI, eqB, neB, ltI, leI, addI, subI, intI, seqT, lenE, tupE, eqT, neT, inT, allE, anyE, isiTup, isiInt, itsT, okB, isiB, seqL g1']
    split
    · exact ⟨tk, .inr ⟨_, rfl, g1'⟩, htk, fun m e => (by cases e; exact hs1), by simpa using g3, H4, f3.trans f4⟩
    · exact ⟨tk, .inl rfl, htk, fun m e => (by cases e), by simpa using g3, H4, f3.trans f4⟩
  · rintro i rest env s3 ⟨tk, d6, d7, rfl, g1, g2, g3, H3, f3⟩
    refine ⟨_, rfl, ?_⟩
    simp only [W_ok, W_m1, W_m2, W_m3, W_const, W_var, W_nil, W_cons, W_tup, W_new, W_asB, W_boolD, W_ofB, W_ite, W_not, W_and, W_or, W_chain, W_seqM, W_oNone, W_oSome, W_skip, W_brk, W_cnt, W_badF, W_seq, W_drop, W_ret, W_setN, W_set, W_par, parGo, W_setI, W_setF, W_setAs, W_meth, W_endR, W_for, W_lc, W_ext, W_rg1, rgIE, itsI, seqI, isiI, isiBl, isiNo, W_call, List.getElem?_cons_succ, List.getElem?_cons_zero, Option.getD_some, List.set_cons_succ, List.set_cons_zero, List.length_cons, List.length_nil, Nat.reduceAdd, Nat.zero_add, Nat.reduceEqDiff, Tset1, Tset2, Tset3, wipeE, cmpD, isN, isNN, eqN, eqI, neI, eqB, neB, ltI, leI, addI, subI, intI, seqT, lenE, tupE, eqT, neT, inT, allE, anyE, isiTup, isiInt, itsT, okB, isiB]
    refine (s_draw (k := k + 1) H3 (by simp; omega) (by simp; omega)).mono fun x s4 ⟨r, e, r0, r1, H4, f4⟩ => ?_
    subst e
    obtain ⟨j, rfl⟩ : ∃ j : Nat, r = j := ⟨r.toNat, by omega⟩
    have hj : j < form.length := by simp at r1; omega
    have hfj : f[j]? = some (f[j]'(by omega)) := List.getElem?_eq_getElem (by omega)
    have hoj : form[j]? = some form[j] := List.getElem?_eq_getElem hj
    have hv := allF_val (hs f hfm) hfj hoj
    have hon := hf.val _ (List.getElem_mem hj)
    have g1' : s4[s1.length]? = some (.lst (tk.map tP)) := f4 _ _ g1 (by show ¬ s1.length = h; omega)
    simp only [W_ok, W_m1, W_m2, W_m3, W_const, W_var, W_nil, W_cons, W_tup, W_new, W_asB, W_boolD, W_ofB, W_ite, W_not, W_and, W_or, W_chain, W_seqM, W_oNone, W_oSome, W_skip, W_brk, W_cnt, W_badF, W_seq, W_drop, W_ret, W_setN, W_set, W_par, parGo, W_setI, W_setF, W_setAs, W_meth, W_endR, W_for, W_lc, W_ext, W_rg1, rgIE, itsI, seqI, isiI, isiBl, isiNo, W_call, List.getElem?_cons_succ, List.getElem?_cons_zero, Option.getD_some, List.set_cons_succ, List.set_cons_zero, List.length_cons, List.length_nil, Nat.reduceAdd, Nat.zero_add, Nat.reduceEqDiff, Tset1, Tset2, Tset3, wipeE, cmpD, isN, isNN, eqN, eqI, neI, eqB, neB, ltI, leI, addI, subI, intI, seqT, lenE, tupE, eqT, neT, inT, allE, anyE, isiTup, isiInt, itsT, okB, isiB, isL g1']
    have more : ∀ (v : Int) (s5 : S), 0 ≤ v → v < form[j] → Hand s5 h c → Fr (· = h) s4 s5 →
        W (appD (.ref s1.length) [.tup [.int (j : Int), .int v]] s5) fun _ s6 => watch [] s6 = true ∧ ∃ (tk : List (Int × Int)) (d6 d7 : Option D), ([some (.ref h), some (iT form), some (.ref n), some (.int 8), some (iT f), some (.ref s1.length), some (nI i), some (.int (j : Int))] : Mini.Env) = [some (.ref h), some (iT form), some (.ref n), some (.int 8), some (iT f), some (.ref s1.length), d6, d7] ∧ s6[s1.length]? = some (.lst (tk.map tP)) ∧
          (∀ p ∈ tk, 0 ≤ p.1 ∧ ∃ n, form[p.1.toNat]? = some n ∧ 0 ≤ p.2 ∧ p.2 < n) ∧ tk.length + rest.length ≤ 8 ∧ Hand s6 h c ∧ Fr (· = h) s s6 := fun v s5 v0 v1 H5 f5 => by
      have g5 : s5[s1.length]? = some (.lst (tk.map tP)) := f5 _ _ g1' (by show ¬ s1.length = h; omega)
      rw [appL g5 (by rw [sizeLine_eq]; simp at g3 ⊢; omega)]
      try simp only [W_ok, W_m1, W_m2, W_m3, W_const, W_var, W_nil, W_cons, W_tup, W_new, W_asB, W_boolD, W_ofB, W_ite, W_not, W_and, W_or, W_chain, W_seqM, W_oNone, W_oSome, W_skip, W_brk, W_cnt, W_badF, W_seq, W_drop, W_ret, W_setN, W_set, W_par, parGo, W_setI, W_setF, W_setAs, W_meth, W_endR, W_for, W_lc, W_ext, W_rg1, rgIE, itsI, seqI, isiI, isiBl, isiNo, W_call, List.getElem?_cons_succ, List.getElem?_cons_zero, Option.getD_some, List.set_cons_succ, List.set_cons_zero, List.length_cons, List.length_nil, Nat.reduceAdd, Nat.zero_add, Nat.reduceEqDiff, Tset1, Tset2, Tset3, wipeE, cmpD, isN, isNN, eqN, eqI, neI, eqB, neB, ltI, leI, addI, subI, intI, seqT, lenE, tupE, eqT, neT, inT, allE, anyE, isiTup, isiInt, itsT, okB, isiB]
      have hlt5 := H.lt
      refine ⟨watch_nil, tk ++ [((j : Int), v)], _, _, rfl, ?_, fun p hp => ?_, by simp at g3 ⊢; omega, H5.set (by omega) (by omega), ((f3.trans f4).trans f5).new hs1⟩
      · rw [List.getElem?_set_self (List.getElem?_eq_some_iff.mp g5).1]
        simp [tP, iT]
      · rcases List.mem_append.mp hp with hp | hp
        · exact g2 p hp
        · have : p = ((j : Int), v) := by simpa using hp
          rw [this]
          exact ⟨by omega, form[j], by simpa using hoj, v0, v1⟩
    refine ⟨trivial, (s_draw (k := k + 1) H4 (by decide) (by decide)).mono fun x s5 ⟨r, e, r0, r2, H5, f5⟩ => ?_⟩
    subst e
    simp only [W_ok, W_m1, W_m2, W_m3, W_const, W_var, W_nil, W_cons, W_tup, W_new, W_asB, W_boolD, W_ofB, W_ite, W_not, W_and, W_or, W_chain, W_seqM, W_oNone, W_oSome, W_skip, W_brk, W_cnt, W_badF, W_seq, W_drop, W_ret, W_setN, W_set, W_par, parGo, W_setI, W_setF, W_setAs, W_meth, W_endR, W_for, W_lc, W_ext, W_rg1, rgIE, itsI, seqI, isiI, isiBl, isiNo, W_call, List.getElem?_cons_succ, List.getElem?_cons_zero, Option.getD_some, List.set_cons_succ, List.set_cons_zero, List.length_cons, List.length_nil, Nat.reduceAdd, Nat.zero_add, Nat.reduceEqDiff, Tset1, Tset2, Tset3, wipeE, cmpD, isN, isNN, eqN, eqI, neI, eqB, neB, ltI, leI, addI, subI, intI, seqT, lenE, tupE, eqT, neT, inT, allE, anyE, isiTup, isiInt, itsT, okB, isiB, ixI hfj, ixI hoj]
    split
    · exact more _ s5 hv.1 hv.2 H5 f5
    · refine (s_draw (k := k + 1) H5 (by omega) (by omega)).mono fun x s6 ⟨r, e, r0, r2, H6, f6⟩ => ?_
      subst e
      exact more r s6 r0 r2 H6 (f5.trans f6)
  · refine ⟨[], _, _, rfl, g0, by simp, by simp [upto_len]; omega, H2, (f1.trans Fr.push).trans f2⟩
end
end Law_k72

set_option Elab.async false
set_option maxRecDepth 100000
set_option linter.all false
set_option maxHeartbeats 1000000
namespace Law_k72
open PySem L2 Mini
/-! how many answers are false: counted over the talk -/
def wr (f : List Int) (p : Int × Int) : Bool := !decide (f.getD p.1.toNat 0 = p.2)
theorem zipIdx_filter {α : Type} (q : α → Bool) : ∀ (l : List α) (n : Nat), ((l.zipIdx n).filter fun p => q p.1).length = (l.filter q).length
  | [], _ => rfl
  | a :: l, n => by
    rw [List.zipIdx_cons, List.filter_cons, List.filter_cons]
    have ih := zipIdx_filter q l (n + 1)
    cases h : q a <;> simp [h, ih]
theorem manyF_eq {f : List Int} {tk : List (Int × Int)} : manyF f tk = ((tk.filter (wr f)).length : Nat) := by
  unfold manyF falseAt
  rw [List.length_map]
  have := zipIdx_filter (wr f) tk 0
  rw [← this]
  rfl
section
variable {k : Nat} {s : S} {h c : Nat}
theorem s__law_left {so : List (List Int)} {n : Nat} {lies : Int} {tk : List (Int × Int)} {d : D} (hn : s[n]? = some (.lst (so.map iT))) (hl : so.length ≤ 4000) (ht : tk.length ≤ 1000) (hd : Row s d (tk.map tP)) (hfit : ∀ f ∈ so, Fits f tk) :
    W ((cl (k + 1)).call "_law_left" [.ref n, .int lies, d] s) fun x s' => ∃ m, x = .ref m ∧ s'[m]? = some (.lst ((leftIn so lies tk).map pD)) ∧ s.length ≤ m ∧ Fr No s s' := by
  rw [r__law_left]
  unfold b__law_left
  simp only [W_ok, W_m1, W_m2, W_m3, W_const, W_var, W_nil, W_cons, W_tup, W_new, W_asB, W_boolD, W_ofB, W_ite, W_not, W_and, W_or, W_chain, W_seqM, W_oNone, W_oSome, W_skip, W_brk, W_cnt, W_badF, W_seq, W_drop, W_ret, W_setN, W_set, W_par, parGo, W_setI, W_setF, W_setAs, W_meth, W_endR, W_for, W_lc, W_ext, W_rg1, rgIE, itsI, seqI, isiI, isiBl, isiNo, W_call, List.getElem?_cons_succ, List.getElem?_cons_zero, Option.getD_some, List.set_cons_succ, List.set_cons_zero, List.length_cons, List.length_nil, Nat.reduceAdd, Nat.zero_add, Nat.reduceEqDiff, Tset1, Tset2, Tset3, wipeE, cmpD, isN, isNN, eqN, eqI, neI, eqB, neB, ltI, leI, addI, subI, intI, seqT, lenE, tupE, eqT, neT, inT, allE, anyE, isiTup, isiInt, itsT, okB, isiB, itsL (at_old hn)]
  have hnl := (List.getElem?_eq_some_iff.mp hn).1
  refine W_goT iT (fun rest env s' => ∃ (acc : List (List Int × Int)) (d4 d5 d6 d7 : Option D), env = [some (.ref n), some (.int lies), some d, some (.ref s.length), d4, d5, d6, d7] ∧ s'[s.length]? = some (.lst (acc.map pD)) ∧ acc ++ leftIn rest lies tk = leftIn so lies tk ∧ Fr No s s' ∧
    ∀ f ∈ rest, f ∈ so) ?_ ?_ _ _ _ ?_
  · rintro env s2 ⟨acc, d4, d5, d6, d7, rfl, h1, h2, h3, _⟩
    try simp only [W_ok, W_m1, W_m2, W_m3, W_const, W_var, W_nil, W_cons, W_tup, W_new, W_asB, W_boolD, W_ofB, W_ite, W_not, W_and, W_or, W_chain, W_seqM, W_oNone, W_oSome, W_skip, W_brk, W_cnt, W_badF, W_seq, W_drop, W_ret, W_setN, W_set, W_par, parGo, W_setI, W_setF, W_setAs, W_meth, W_endR, W_for, W_lc, W_ext, W_rg1, rgIE, itsI, seqI, isiI, isiBl, isiNo, W_call, List.getElem?_cons_succ, List.getElem?_cons_zero, Option.getD_some, List.set_cons_succ, List.set_cons_zero, List.length_cons, List.length_nil, Nat.reduceAdd, Nat.zero_add, Nat.reduceEqDiff, Tset1, Tset2, Tset3, wipeE, cmpD, isN, isNN, eqN, eqI, neI, eqB, neB, ltI, leI, addI, subI, intI, seqT, lenE, tupE, eqT, neT, inT, allE, anyE, isiTup, isiInt, itsT, okB, isiB]
    refine ⟨s.length, rfl, ?_, Nat.le_refl _, h3⟩
    rw [h1, ← h2]
    simp [leftIn]
  · rintro f rest env s2 ⟨acc, d4, d5, d6, d7, rfl, h1, h2, h3, h4⟩
    refine ⟨_, rfl, ?_⟩
    have hfm := h4 f List.mem_cons_self
    have hd2 : Row s2 d (tk.map tP) := hd.fr h3 fun _ _ h => h
    obtain ⟨w, hw1, hw2, _⟩ := hd2.its
    simp only [W_ok, W_m1, W_m2, W_m3, W_const, W_var, W_nil, W_cons, W_tup, W_new, W_asB, W_boolD, W_ofB, W_ite, W_not, W_and, W_or, W_chain, W_seqM, W_oNone, W_oSome, W_skip, W_brk, W_cnt, W_badF, W_seq, W_drop, W_ret, W_setN, W_set, W_par, parGo, W_setI, W_setF, W_setAs, W_meth, W_endR, W_for, W_lc, W_ext, W_rg1, rgIE, itsI, seqI, isiI, isiBl, isiNo, W_call, List.getElem?_cons_succ, List.getElem?_cons_zero, Option.getD_some, List.set_cons_succ, List.set_cons_zero, List.length_cons, List.length_nil, Nat.reduceAdd, Nat.zero_add, Nat.reduceEqDiff, Tset1, Tset2, Tset3, wipeE, cmpD, isN, isNN, eqN, eqI, neI, eqB, neB, ltI, leI, addI, subI, intI, seqT, lenE, tupE, eqT, neT, inT, allE, anyE, isiTup, isiInt, itsT, okB, isiB]
    rw [hw1]
    simp only [W_ok, W_m1, W_m2, W_m3, W_const, W_var, W_nil, W_cons, W_tup, W_new, W_asB, W_boolD, W_ofB, W_ite, W_not, W_and, W_or, W_chain, W_seqM, W_oNone, W_oSome, W_skip, W_brk, W_cnt, W_badF, W_seq, W_drop, W_ret, W_setN, W_set, W_par, parGo, W_setI, W_setF, W_setAs, W_meth, W_endR, W_for, W_lc, W_ext, W_rg1, rgIE, itsI, seqI, isiI, isiBl, isiNo, W_call, List.getElem?_cons_succ, List.getElem?_cons_zero, Option.getD_some, List.set_cons_succ, List.set_cons_zero, List.length_cons, List.length_nil, Nat.reduceAdd, Nat.zero_add, Nat.reduceEqDiff, Tset1, Tset2, Tset3, wipeE, cmpD, isN, isNN, eqN, eqI, neI, eqB, neB, ltI, leI, addI, subI, intI, seqT, lenE, tupE, eqT, neT, inT, allE, anyE, isiTup, isiInt, itsT, okB, isiB]
    refine ⟨size_ok (by simp; omega), W_of_eq (lcGo_over hw2 tP (wr f) (fun p => .int p.1) _ fun p hp => ⟨_, rfl, ?_, fun _ => ?_⟩) ?_⟩
    · obtain ⟨k0, k1⟩ := hfit f hfm p hp
      have e : f[p.1.toNat]? = some (f.getD p.1.toNat 0) := by
        rw [List.getD_eq_getElem?_getD, List.getElem?_eq_getElem k1]
        rfl
      simp only [W_ok, W_m1, W_m2, W_m3, W_const, W_var, W_nil, W_cons, W_tup, W_new, W_asB, W_boolD, W_ofB, W_ite, W_not, W_and, W_or, W_chain, W_seqM, W_oNone, W_oSome, W_skip, W_brk, W_cnt, W_badF, W_seq, W_drop, W_ret, W_setN, W_set, W_par, parGo, W_setI, W_setF, W_setAs, W_meth, W_endR, W_for, W_lc, W_ext, W_rg1, rgIE, itsI, seqI, isiI, isiBl, isiNo, W_call, List.getElem?_cons_succ, List.getElem?_cons_zero, Option.getD_some, List.set_cons_succ, List.set_cons_zero, List.length_cons, List.length_nil, Nat.reduceAdd, Nat.zero_add, Nat.reduceEqDiff, Tset1, Tset2, Tset3, wipeE, cmpD, isN, isNN, eqN, eqI, neI, eqB, neB, ltI, leI, addI, subI, intI, seqT, lenE, tupE, eqT, neT, inT, allE, anyE, isiTup, isiInt, itsT, okB, isiB, ixZ k0 e]
      simp [wr]
    · simp only [W_ok, W_m1, W_m2, W_m3, W_const, W_var, W_nil, W_cons, W_tup, W_new, W_asB, W_boolD, W_ofB, W_ite, W_not, W_and, W_or, W_chain, W_seqM, W_oNone, W_oSome, W_skip, W_brk, W_cnt, W_badF, W_seq, W_drop, W_ret, W_setN, W_set, W_par, parGo, W_setI, W_setF, W_setAs, W_meth, W_endR, W_for, W_lc, W_ext, W_rg1, rgIE, itsI, seqI, isiI, isiBl, isiNo, W_call, List.getElem?_cons_succ, List.getElem?_cons_zero, Option.getD_some, List.set_cons_succ, List.set_cons_zero, List.length_cons, List.length_nil, Nat.reduceAdd, Nat.zero_add, Nat.reduceEqDiff, Tset1, Tset2, Tset3, wipeE, cmpD, isN, isNN, eqN, eqI, neI, eqB, neB, ltI, leI, addI, subI, intI, seqT, lenE, tupE, eqT, neT, inT, allE, anyE, isiTup, isiInt, itsT, okB, isiB]
      simp
    · have hm : ((((tk.filter (wr f)).map fun p => D.int p.1).length : Nat) : Int) = manyF f tk := by rw [List.length_map, manyF_eq]
      simp only [hm]
      rw [leftIn_cons] at h2
      have hw : s2[n]? = some (.lst (so.map iT)) := h3 _ _ hn id
      by_cases hc : manyF f tk ≤ lies
      · have hacc : acc.length < 4001 := by
          have := congrArg List.length h2
          have h5 := leftIn_len (some := so) (lies := lies) (tk := tk)
          simp [hc] at this
          omega
        simp only [decide_eq_true hc, if_true]
        simp only [W_ok, W_m1, W_m2, W_m3, W_const, W_var, W_nil, W_cons, W_tup, W_new, W_asB, W_boolD, W_ofB, W_ite, W_not, W_and, W_or, W_chain, W_seqM, W_oNone, W_oSome, W_skip, W_brk, W_cnt, W_badF, W_seq, W_drop, W_ret, W_setN, W_set, W_par, parGo, W_setI, W_setF, W_setAs, W_meth, W_endR, W_for, W_lc, W_ext, W_rg1, rgIE, itsI, seqI, isiI, isiBl, isiNo, W_call, List.getElem?_cons_succ, List.getElem?_cons_zero, Option.getD_some, List.set_cons_succ, List.set_cons_zero, List.length_cons, List.length_nil, Nat.reduceAdd, Nat.zero_add, Nat.reduceEqDiff, Tset1, Tset2, Tset3, wipeE, cmpD, isN, isNN, eqN, eqI, neI, eqB, neB, ltI, leI, addI, subI, intI, seqT, lenE, tupE, eqT, neT, inT, allE, anyE, isiTup, isiInt, itsT, okB, isiB, isL h1, appL h1 (by rw [sizeLine_eq]; simp; omega)]
        refine ⟨trivial, watch_one ?_, acc ++ [(f, lies - manyF f tk)], _, _, _, _, rfl, ?_, ?_, h3.new (Nat.le_refl _), fun g hg => h4 g (List.mem_cons_of_mem _ hg)⟩
        · rw [List.getElem?_set_ne (by omega)]
          exact hw
        · rw [List.getElem?_set_self (List.getElem?_eq_some_iff.mp h1).1]
          simp [pD]
        · rw [← h2]
          simp [hc]
      · simp only [decide_eq_false hc, if_false, Bool.false_eq_true]
        try simp only [W_ok, W_m1, W_m2, W_m3, W_const, W_var, W_nil, W_cons, W_tup, W_new, W_asB, W_boolD, W_ofB, W_ite, W_not, W_and, W_or, W_chain, W_seqM, W_oNone, W_oSome, W_skip, W_brk, W_cnt, W_badF, W_seq, W_drop, W_ret, W_setN, W_set, W_par, parGo, W_setI, W_setF, W_setAs, W_meth, W_endR, W_for, W_lc, W_ext, W_rg1, rgIE, itsI, seqI, isiI, isiBl, isiNo, W_call, List.getElem?_cons_succ, List.getElem?_cons_zero, Option.getD_some, List.set_cons_succ, List.set_cons_zero, List.length_cons, List.length_nil, Nat.reduceAdd, Nat.zero_add, Nat.reduceEqDiff, Tset1, Tset2, Tset3, wipeE, cmpD, isN, isNN, eqN, eqI, neI, eqB, neB, ltI, leI, addI, subI, intI, seqT, lenE, tupE, eqT, neT, inT, allE, anyE, isiTup, isiInt, itsT, okB, isiB]
        refine ⟨watch_one hw, acc, _, _, _, _, rfl, h1, ?_, h3, fun g hg => h4 g (List.mem_cons_of_mem _ hg)⟩
        rw [← h2]
        simp [hc]
  · exact ⟨[], _, _, _, _, rfl, at_len, rfl, Fr.push, fun f hf => hf⟩
/-! the same as itself -/
theorem is_int {i : Int} : (cl (k + 1)).call "_law_is" [.int i, .int i] s = .ok (.bl true) s := by
  rw [r__law_is]
  apply W_eq
  unfold b__law_is
  have e : isiTD (.int i) [.ty "tuple", .ty "list"] s = .ok (.bl false) s := rfl
  simp only [W_ok, W_m1, W_m2, W_m3, W_const, W_var, W_nil, W_cons, W_tup, W_new, W_asB, W_boolD, W_ofB, W_ite, W_not, W_and, W_or, W_chain, W_seqM, W_oNone, W_oSome, W_skip, W_brk, W_cnt, W_badF, W_seq, W_drop, W_ret, W_setN, W_set, W_par, parGo, W_setI, W_setF, W_setAs, W_meth, W_endR, W_for, W_lc, W_ext, W_rg1, rgIE, itsI, seqI, isiI, isiBl, isiNo, W_call, List.getElem?_cons_succ, List.getElem?_cons_zero, Option.getD_some, List.set_cons_succ, List.set_cons_zero, List.length_cons, List.length_nil, Nat.reduceAdd, Nat.zero_add, Nat.reduceEqDiff, Tset1, Tset2, Tset3, wipeE, cmpD, isN, isNN, eqN, eqI, neI, eqB, neB, ltI, leI, addI, subI, intI, seqT, lenE, tupE, eqT, neT, inT, allE, anyE, isiTup, isiInt, itsT, okB, isiB, e]
  simp
theorem isiTT {ds : List D} : isiTD (.tup ds) [.ty "tuple", .ty "list"] s = .ok (.bl true) s := rfl
theorem is_tup {ds : List D} (hl : ds.length ≤ 1000) (h : ∀ d ∈ ds, (cl (k + 1)).call "_law_is" [d, d] s = .ok (.bl true) s) : (cl (k + 2)).call "_law_is" [.tup ds, .tup ds] s = .ok (.bl true) s := by
  rw [r__law_is]
  apply W_eq
  unfold b__law_is
  have hz : zipI ⟨ds, []⟩ ⟨ds, []⟩ s = .ok ⟨(ds.zip ds).map fun p => .tup [p.1, p.2], []⟩ s := by
    have := zip_its (s := s) (f := id) (g := id) (a := ds) (b := ds)
    simpa using this
  simp only [W_ok, W_m1, W_m2, W_m3, W_const, W_var, W_nil, W_cons, W_tup, W_new, W_asB, W_boolD, W_ofB, W_ite, W_not, W_and, W_or, W_chain, W_seqM, W_oNone, W_oSome, W_skip, W_brk, W_cnt, W_badF, W_seq, W_drop, W_ret, W_setN, W_set, W_par, parGo, W_setI, W_setF, W_setAs, W_meth, W_endR, W_for, W_lc, W_ext, W_rg1, rgIE, itsI, seqI, isiI, isiBl, isiNo, W_call, List.getElem?_cons_succ, List.getElem?_cons_zero, Option.getD_some, List.set_cons_succ, List.set_cons_zero, List.length_cons, List.length_nil, Nat.reduceAdd, Nat.zero_add, Nat.reduceEqDiff, Tset1, Tset2, Tset3, wipeE, cmpD, isN, isNN, eqN, eqI, neI, eqB, neB, ltI, leI, addI, subI, intI, seqT, lenE, tupE, eqT, neT, inT, allE, anyE, isiTup, isiInt, itsT, okB, isiB, isiTT, hz]
  simp
  refine ⟨by rw [sizeLine_eq]; omega, W_of_eq (lcGo_all watch_nil _ (fun p => .bl true) _ fun p hp => ⟨_, rfl, ?_⟩) ?_⟩
  · have hm := List.of_mem_zip (a := p.1) (b := p.2) hp
    have he : p.1 = p.2 := by
      obtain ⟨i, hi, e⟩ := List.getElem_of_mem hp
      rw [← e]
      simp
    simp only [W_ok, W_m1, W_m2, W_m3, W_const, W_var, W_nil, W_cons, W_tup, W_new, W_asB, W_boolD, W_ofB, W_ite, W_not, W_and, W_or, W_chain, W_seqM, W_oNone, W_oSome, W_skip, W_brk, W_cnt, W_badF, W_seq, W_drop, W_ret, W_setN, W_set, W_par, parGo, W_setI, W_setF, W_setAs, W_meth, W_endR, W_for, W_lc, W_ext, W_rg1, rgIE, itsI, seqI, isiI, isiBl, isiNo, W_call, List.getElem?_cons_succ, List.getElem?_cons_zero, Option.getD_some, List.set_cons_succ, List.set_cons_zero, List.length_cons, List.length_nil, Nat.reduceAdd, Nat.zero_add, Nat.reduceEqDiff, Tset1, Tset2, Tset3, wipeE, cmpD, isN, isNN, eqN, eqI, neI, eqB, neB, ltI, leI, addI, subI, intI, seqT, lenE, tupE, eqT, neT, inT, allE, anyE, isiTup, isiInt, itsT, okB, isiB]
    rw [← he, h p.1 hm.1]
    simp only [W_ok, W_m1, W_m2, W_m3, W_const, W_var, W_nil, W_cons, W_tup, W_new, W_asB, W_boolD, W_ofB, W_ite, W_not, W_and, W_or, W_chain, W_seqM, W_oNone, W_oSome, W_skip, W_brk, W_cnt, W_badF, W_seq, W_drop, W_ret, W_setN, W_set, W_par, parGo, W_setI, W_setF, W_setAs, W_meth, W_endR, W_for, W_lc, W_ext, W_rg1, rgIE, itsI, seqI, isiI, isiBl, isiNo, W_call, List.getElem?_cons_succ, List.getElem?_cons_zero, Option.getD_some, List.set_cons_succ, List.set_cons_zero, List.length_cons, List.length_nil, Nat.reduceAdd, Nat.zero_add, Nat.reduceEqDiff, Tset1, Tset2, Tset3, wipeE, cmpD, isN, isNN, eqN, eqI, neI, eqB, neB, ltI, leI, addI, subI, intI, seqT, lenE, tupE, eqT, neT, inT, allE, anyE, isiTup, isiInt, itsT, okB, isiB]
    simp
  · rw [allG (f := fun _ => true)]
    simp only [W_ok, W_m1, W_m2, W_m3, W_const, W_var, W_nil, W_cons, W_tup, W_new, W_asB, W_boolD, W_ofB, W_ite, W_not, W_and, W_or, W_chain, W_seqM, W_oNone, W_oSome, W_skip, W_brk, W_cnt, W_badF, W_seq, W_drop, W_ret, W_setN, W_set, W_par, parGo, W_setI, W_setF, W_setAs, W_meth, W_endR, W_for, W_lc, W_ext, W_rg1, rgIE, itsI, seqI, isiI, isiBl, isiNo, W_call, List.getElem?_cons_succ, List.getElem?_cons_zero, Option.getD_some, List.set_cons_succ, List.set_cons_zero, List.length_cons, List.length_nil, Nat.reduceAdd, Nat.zero_add, Nat.reduceEqDiff, Tset1, Tset2, Tset3, wipeE, cmpD, isN, isNN, eqN, eqI, neI, eqB, neB, ltI, leI, addI, subI, intI, seqT, lenE, tupE, eqT, neT, inT, allE, anyE, isiTup, isiInt, itsT, okB, isiB]
    simp
theorem is_non : (cl (k + 1)).call "_law_is" [.non, .non] s = .ok (.bl true) s := by
  rw [r__law_is]
  apply W_eq
  unfold b__law_is
  have e : isiTD .non [.ty "tuple", .ty "list"] s = .ok (.bl false) s := rfl
  simp only [W_ok, W_m1, W_m2, W_m3, W_const, W_var, W_nil, W_cons, W_tup, W_new, W_asB, W_boolD, W_ofB, W_ite, W_not, W_and, W_or, W_chain, W_seqM, W_oNone, W_oSome, W_skip, W_brk, W_cnt, W_badF, W_seq, W_drop, W_ret, W_setN, W_set, W_par, parGo, W_setI, W_setF, W_setAs, W_meth, W_endR, W_for, W_lc, W_ext, W_rg1, rgIE, itsI, seqI, isiI, isiBl, isiNo, W_call, List.getElem?_cons_succ, List.getElem?_cons_zero, Option.getD_some, List.set_cons_succ, List.set_cons_zero, List.length_cons, List.length_nil, Nat.reduceAdd, Nat.zero_add, Nat.reduceEqDiff, Tset1, Tset2, Tset3, wipeE, cmpD, isN, isNN, eqN, eqI, neI, eqB, neB, ltI, leI, addI, subI, intI, seqT, lenE, tupE, eqT, neT, inT, allE, anyE, isiTup, isiInt, itsT, okB, isiB, e]
  simp
  try simp only [W_ok, W_m1, W_m2, W_m3, W_const, W_var, W_nil, W_cons, W_tup, W_new, W_asB, W_boolD, W_ofB, W_ite, W_not, W_and, W_or, W_chain, W_seqM, W_oNone, W_oSome, W_skip, W_brk, W_cnt, W_badF, W_seq, W_drop, W_ret, W_setN, W_set, W_par, parGo, W_setI, W_setF, W_setAs, W_meth, W_endR, W_for, W_lc, W_ext, W_rg1, rgIE, itsI, seqI, isiI, isiBl, isiNo, W_call, List.getElem?_cons_succ, List.getElem?_cons_zero, Option.getD_some, List.set_cons_succ, List.set_cons_zero, List.length_cons, List.length_nil, Nat.reduceAdd, Nat.zero_add, Nat.reduceEqDiff, Tset1, Tset2, Tset3, wipeE, cmpD, isN, isNN, eqN, eqI, neI, eqB, neB, ltI, leI, addI, subI, intI, seqT, lenE, tupE, eqT, neT, inT, allE, anyE, isiTup, isiInt, itsT, okB, isiB]
  try simp
theorem is_nats {l : List Nat} (hl : l.length ≤ 1000) : (cl (k + 2)).call "_law_is" [.tup (l.map nI), .tup (l.map nI)] s = .ok (.bl true) s :=
  is_tup (by simpa using hl) fun d hd => by
    obtain ⟨i, _, rfl⟩ := List.mem_map.mp hd
    exact is_int
theorem is_iT {l : List Int} (hl : l.length ≤ 1000) : (cl (k + 2)).call "_law_is" [iT l, iT l] s = .ok (.bl true) s :=
  is_tup (by simpa using hl) fun d hd => by
    obtain ⟨i, _, rfl⟩ := List.mem_map.mp hd
    exact is_int
end
end Law_k72

set_option Elab.async false
set_option maxRecDepth 100000
set_option linter.all false
set_option maxHeartbeats 1000000
namespace Law_k72
open PySem L2 Mini
/-! reports: what faults have in common -/
def oD : Option Int → D
  | none => .non
  | some i => .int i
def rpT (r : List (Option Int)) : D := .tup (r.map oD)
def sharedBy (r : List (Option Int)) (f : List Int) : List (Option Int) := (r.zip f).map fun p => if p.1 = some p.2 then p.1 else none
theorem iT_rp (f : List Int) : iT f = rpT (f.map some) := by
  unfold iT rpT
  rw [List.map_map]
  rfl
section
variable {k : Nat} {s : S}
theorem eqO {a : Option Int} {b : Int} : eqD (oD a) (.int b) s = .ok (.bl (decide (a = some b))) s := by
  cases a with
  | none => rfl
  | some i =>
    show eqD (.int i) (.int b) s = _
    rw [eqI]
    congr 2
    simp
theorem s_shared {r : List (Option Int)} {f : List Int} (hl : r.length ≤ 1000) : (cl (k + 1)).call "shared_by" [rpT r, iT f] s = .ok (rpT (sharedBy r f)) s := by
  rw [r_shared_by]
  apply W_eq
  unfold b_shared_by rpT
  rw [show iT f = .tup (f.map .int) from rfl]
  simp only [W_ok, W_m1, W_m2, W_m3, W_const, W_var, W_nil, W_cons, W_tup, W_new, W_asB, W_boolD, W_ofB, W_ite, W_not, W_and, W_or, W_chain, W_seqM, W_oNone, W_oSome, W_skip, W_brk, W_cnt, W_badF, W_seq, W_drop, W_ret, W_setN, W_set, W_par, parGo, W_setI, W_setF, W_setAs, W_meth, W_endR, W_for, W_lc, W_ext, W_rg1, rgIE, itsI, seqI, isiI, isiBl, isiNo, W_call, List.getElem?_cons_succ, List.getElem?_cons_zero, Option.getD_some, List.set_cons_succ, List.set_cons_zero, List.length_cons, List.length_nil, Nat.reduceAdd, Nat.zero_add, Nat.reduceEqDiff, Tset1, Tset2, Tset3, wipeE, cmpD, isN, isNN, eqN, eqI, neI, eqB, neB, ltI, leI, addI, subI, intI, seqT, lenE, tupE, eqT, neT, inT, allE, anyE, isiTup, isiInt, itsT, okB, isiB, zip_its]
  refine ⟨size_ok (by simp; omega), W_of_eq (lcGo_all watch_nil _ (fun p => oD (if p.1 = some p.2 then p.1 else none)) _ fun p hp => ⟨_, rfl, ?_⟩) ?_⟩
  · simp only [W_ok, W_m1, W_m2, W_m3, W_const, W_var, W_nil, W_cons, W_tup, W_new, W_asB, W_boolD, W_ofB, W_ite, W_not, W_and, W_or, W_chain, W_seqM, W_oNone, W_oSome, W_skip, W_brk, W_cnt, W_badF, W_seq, W_drop, W_ret, W_setN, W_set, W_par, parGo, W_setI, W_setF, W_setAs, W_meth, W_endR, W_for, W_lc, W_ext, W_rg1, rgIE, itsI, seqI, isiI, isiBl, isiNo, W_call, List.getElem?_cons_succ, List.getElem?_cons_zero, Option.getD_some, List.set_cons_succ, List.set_cons_zero, List.length_cons, List.length_nil, Nat.reduceAdd, Nat.zero_add, Nat.reduceEqDiff, Tset1, Tset2, Tset3, wipeE, cmpD, isN, isNN, eqN, eqI, neI, eqB, neB, ltI, leI, addI, subI, intI, seqT, lenE, tupE, eqT, neT, inT, allE, anyE, isiTup, isiInt, itsT, okB, isiB, eqO]
    by_cases h : p.1 = some p.2 <;> simp [h, oD]
  · simp [sharedBy]
end
end Law_k72

set_option Elab.async false
set_option maxRecDepth 100000
set_option linter.all false
set_option maxHeartbeats 1000000
namespace Law_k72
open PySem L2 Mini
def sureD : List (List Int) → D
  | [] => .non
  | f :: r => rpT (r.foldl sharedBy (f.map some))
theorem sharedBy_len {r : List (Option Int)} {f : List Int} : (sharedBy r f).length ≤ r.length := by
  unfold sharedBy
  rw [List.length_map, List.length_zip]
  omega
section
variable {k : Nat} {s : S}
theorem s_sure_by {form : List Int} {rules : List (List (List Int))} {b : Nat} {lies : Int} {tk : List (Int × Int)} {d : D} (hf : Form form) (hr : Rules form rules) (hb : BookAt s b form rules) (ht : Talk form tk) (hd : Row s d (tk.map tP)) (h0 : 0 ≤ lies) (h3 : lies ≤ 3) :
    W ((cl (k + 5)).call "sure_by" [.ref b, .int lies, d] s) fun x s' => x = sureD (leftF (lawF form rules) lies tk) ∧ BookAt s' b form rules ∧ Fr (· = b) s s' := by
  rw [r_sure_by]
  unfold b_sure_by
  obtain ⟨L, hb1, hb2⟩ := id hb
  have hll := lawF_len (rules := rules) hf
  have h8 := hf.len8
  simp only [W_ok, W_m1, W_m2, W_m3, W_const, W_var, W_nil, W_cons, W_tup, W_new, W_asB, W_boolD, W_ofB, W_ite, W_not, W_and, W_or, W_chain, W_seqM, W_oNone, W_oSome, W_skip, W_brk, W_cnt, W_badF, W_seq, W_drop, W_ret, W_setN, W_set, W_par, parGo, W_setI, W_setF, W_setAs, W_meth, W_endR, W_for, W_lc, W_ext, W_rg1, rgIE, itsI, seqI, isiI, isiBl, isiNo, W_call, List.getElem?_cons_succ, List.getElem?_cons_zero, Option.getD_some, List.set_cons_succ, List.set_cons_zero, List.length_cons, List.length_nil, Nat.reduceAdd, Nat.zero_add, Nat.reduceEqDiff, Tset1, Tset2, Tset3, wipeE, cmpD, isN, isNN, eqN, eqI, neI, eqB, neB, ltI, leI, addI, subI, intI, seqT, lenE, tupE, eqT, neT, inT, allE, anyE, isiTup, isiInt, itsT, okB, isiB, s_check_lies (k := k + 1) h0 h3, fldE hb1 ok_form lk_form, s_check_talk ht hd]
  refine (s_left_in hf hr hb ht hd).mono fun x s1 ⟨n, e, g1, g2, g3, g4⟩ => ?_
  subst e
  have hlen := leftIn_len (some := lawF form rules) (lies := lies) (tk := tk)
  simp only [W_ok, W_m1, W_m2, W_m3, W_const, W_var, W_nil, W_cons, W_tup, W_new, W_asB, W_boolD, W_ofB, W_ite, W_not, W_and, W_or, W_chain, W_seqM, W_oNone, W_oSome, W_skip, W_brk, W_cnt, W_badF, W_seq, W_drop, W_ret, W_setN, W_set, W_par, parGo, W_setI, W_setF, W_setAs, W_meth, W_endR, W_for, W_lc, W_ext, W_rg1, rgIE, itsI, seqI, isiI, isiBl, isiNo, W_call, List.getElem?_cons_succ, List.getElem?_cons_zero, Option.getD_some, List.set_cons_succ, List.set_cons_zero, List.length_cons, List.length_nil, Nat.reduceAdd, Nat.zero_add, Nat.reduceEqDiff, Tset1, Tset2, Tset3, wipeE, cmpD, isN, isNN, eqN, eqI, neI, eqB, neB, ltI, leI, addI, subI, intI, seqT, lenE, tupE, eqT, neT, inT, allE, anyE, isiTup, isiInt, itsT, okB, isiB, itsL g1]
  refine ⟨size_ok (by simp; omega), W_of_eq (lcGo_all (watch_one g1) pD (fun p => iT p.1) _ fun p hp => ⟨_, rfl, ?_⟩) ?_⟩
  · simp only [W_ok, W_m1, W_m2, W_m3, W_const, W_var, W_nil, W_cons, W_tup, W_new, W_asB, W_boolD, W_ofB, W_ite, W_not, W_and, W_or, W_chain, W_seqM, W_oNone, W_oSome, W_skip, W_brk, W_cnt, W_badF, W_seq, W_drop, W_ret, W_setN, W_set, W_par, parGo, W_setI, W_setF, W_setAs, W_meth, W_endR, W_for, W_lc, W_ext, W_rg1, rgIE, itsI, seqI, isiI, isiBl, isiNo, W_call, List.getElem?_cons_succ, List.getElem?_cons_zero, Option.getD_some, List.set_cons_succ, List.set_cons_zero, List.length_cons, List.length_nil, Nat.reduceAdd, Nat.zero_add, Nat.reduceEqDiff, Tset1, Tset2, Tset3, wipeE, cmpD, isN, isNN, eqN, eqI, neI, eqB, neB, ltI, leI, addI, subI, intI, seqT, lenE, tupE, eqT, neT, inT, allE, anyE, isiTup, isiInt, itsT, okB, isiB]
    simp
  · have e : (leftIn (lawF form rules) lies tk).map (fun p => iT p.1) = (leftF (lawF form rules) lies tk).map iT := by
      unfold leftIn leftF
      rw [List.map_map]
      rfl
    rw [e]
    have hnew : (s1 ++ [O.lst ((leftF (lawF form rules) lies tk).map iT)])[s1.length]? = some (.lst ((leftF (lawF form rules) lies tk).map iT)) := at_len
    have hb' : BookAt (s1 ++ [O.lst ((leftF (lawF form rules) lies tk).map iT)]) b form rules := by
      obtain ⟨L, q1, q2⟩ := g3
      refine ⟨L, at_old q1, ?_⟩
      rcases q2 with h | ⟨n, h, h3, h4⟩
      · exact .inl h
      · exact .inr ⟨n, h, h3, at_old h4⟩
    have hfr : Fr (· = b) s (s1 ++ [O.lst ((leftF (lawF form rules) lies tk).map iT)]) := g4.trans Fr.push
    have hmem : ∀ f ∈ leftF (lawF form rules) lies tk, f.length = form.length := fun f hf => allF_flen (List.mem_filter.mp (List.mem_filter.mp hf).1).1
    simp only [W_ok, W_m1, W_m2, W_m3, W_const, W_var, W_nil, W_cons, W_tup, W_new, W_asB, W_boolD, W_ofB, W_ite, W_not, W_and, W_or, W_chain, W_seqM, W_oNone, W_oSome, W_skip, W_brk, W_cnt, W_badF, W_seq, W_drop, W_ret, W_setN, W_set, W_par, parGo, W_setI, W_setF, W_setAs, W_meth, W_endR, W_for, W_lc, W_ext, W_rg1, rgIE, itsI, seqI, isiI, isiBl, isiNo, W_call, List.getElem?_cons_succ, List.getElem?_cons_zero, Option.getD_some, List.set_cons_succ, List.set_cons_zero, List.length_cons, List.length_nil, Nat.reduceAdd, Nat.zero_add, Nat.reduceEqDiff, Tset1, Tset2, Tset3, wipeE, cmpD, isN, isNN, eqN, eqI, neI, eqB, neB, ltI, leI, addI, subI, intI, seqT, lenE, tupE, eqT, neT, inT, allE, anyE, isiTup, isiInt, itsT, okB, isiB, seqL hnew]
    cases hz : leftF (lawF form rules) lies tk with
    | nil =>
      rw [hz] at hb' hfr
      simp only [List.map_nil, List.length_nil]
      exact ⟨rfl, hb', hfr⟩
    | cons f r =>
      rw [hz] at hnew hb' hfr hmem
      have hne : decide ((((f :: r).map iT).length : Int) = 0) = false := decide_eq_false (by simp; omega)
      simp only [hne, if_false, Bool.false_eq_true]
      have h1 : ixD (.ref s1.length) (.int 0) (s1 ++ [O.lst ((f :: r).map iT)]) = .ok (iT f) (s1 ++ [O.lst ((f :: r).map iT)]) := ixL (i := 0) hnew rfl
      have hsl : slD (.ref s1.length) (some 1) none (s1 ++ [O.lst ((f :: r).map iT)]) = .ok (.ref (s1 ++ [O.lst ((f :: r).map iT)]).length) (s1 ++ [O.lst ((f :: r).map iT)] ++ [.lst (r.map iT)]) := by
        unfold slD
        simp only
        rw [hnew]
        simp only
        rw [cut1]
        rfl
      simp only [W_ok, W_m1, W_m2, W_m3, W_const, W_var, W_nil, W_cons, W_tup, W_new, W_asB, W_boolD, W_ofB, W_ite, W_not, W_and, W_or, W_chain, W_seqM, W_oNone, W_oSome, W_skip, W_brk, W_cnt, W_badF, W_seq, W_drop, W_ret, W_setN, W_set, W_par, parGo, W_setI, W_setF, W_setAs, W_meth, W_endR, W_for, W_lc, W_ext, W_rg1, rgIE, itsI, seqI, isiI, isiBl, isiNo, W_call, List.getElem?_cons_succ, List.getElem?_cons_zero, Option.getD_some, List.set_cons_succ, List.set_cons_zero, List.length_cons, List.length_nil, Nat.reduceAdd, Nat.zero_add, Nat.reduceEqDiff, Tset1, Tset2, Tset3, wipeE, cmpD, isN, isNN, eqN, eqI, neI, eqB, neB, ltI, leI, addI, subI, intI, seqT, lenE, tupE, eqT, neT, inT, allE, anyE, isiTup, isiInt, itsT, okB, isiB, h1, hsl, itsL at_len]
      have hfr2 : Fr (· = b) s (s1 ++ [O.lst ((f :: r).map iT)] ++ [.lst (r.map iT)]) := hfr.trans Fr.push
      have hb2' : BookAt (s1 ++ [O.lst ((f :: r).map iT)] ++ [.lst (r.map iT)]) b form rules := by
        obtain ⟨L, q1, q2⟩ := hb'
        refine ⟨L, at_old q1, ?_⟩
        rcases q2 with h | ⟨n, h, h3, h4⟩
        · exact .inl h
        · exact .inr ⟨n, h, h3, at_old h4⟩
      rw [iT_rp f]
      refine W_goT iT (fun rest env s' => ∃ (p : List (Option Int)) (d5 : Option D), env = [some (.ref b), some (.int lies), some d, some (.ref s1.length), some (rpT p), d5, none] ∧ s' = s1 ++ [O.lst ((f :: r).map iT)] ++ [.lst (r.map iT)] ∧ rest.foldl sharedBy p = r.foldl sharedBy (f.map some) ∧ p.length ≤ 8) ?_ ?_ _ _ _ ?_
      · rintro env s' ⟨p, d5, rfl, rfl, h1, h2⟩
        simp only [W_ok, W_m1, W_m2, W_m3, W_const, W_var, W_nil, W_cons, W_tup, W_new, W_asB, W_boolD, W_ofB, W_ite, W_not, W_and, W_or, W_chain, W_seqM, W_oNone, W_oSome, W_skip, W_brk, W_cnt, W_badF, W_seq, W_drop, W_ret, W_setN, W_set, W_par, parGo, W_setI, W_setF, W_setAs, W_meth, W_endR, W_for, W_lc, W_ext, W_rg1, rgIE, itsI, seqI, isiI, isiBl, isiNo, W_call, List.getElem?_cons_succ, List.getElem?_cons_zero, Option.getD_some, List.set_cons_succ, List.set_cons_zero, List.length_cons, List.length_nil, Nat.reduceAdd, Nat.zero_add, Nat.reduceEqDiff, Tset1, Tset2, Tset3, wipeE, cmpD, isN, isNN, eqN, eqI, neI, eqB, neB, ltI, leI, addI, subI, intI, seqT, lenE, tupE, eqT, neT, inT, allE, anyE, isiTup, isiInt, itsT, okB, isiB]
        refine ⟨?_, hb2', hfr2⟩
        have h1 : p = r.foldl sharedBy (f.map some) := h1
        rw [h1]
        rfl
      · rintro g rest env s' ⟨p, d5, rfl, rfl, h1, h2⟩
        refine ⟨_, rfl, ?_⟩
        simp only [W_ok, W_m1, W_m2, W_m3, W_const, W_var, W_nil, W_cons, W_tup, W_new, W_asB, W_boolD, W_ofB, W_ite, W_not, W_and, W_or, W_chain, W_seqM, W_oNone, W_oSome, W_skip, W_brk, W_cnt, W_badF, W_seq, W_drop, W_ret, W_setN, W_set, W_par, parGo, W_setI, W_setF, W_setAs, W_meth, W_endR, W_for, W_lc, W_ext, W_rg1, rgIE, itsI, seqI, isiI, isiBl, isiNo, W_call, List.getElem?_cons_succ, List.getElem?_cons_zero, Option.getD_some, List.set_cons_succ, List.set_cons_zero, List.length_cons, List.length_nil, Nat.reduceAdd, Nat.zero_add, Nat.reduceEqDiff, Tset1, Tset2, Tset3, wipeE, cmpD, isN, isNN, eqN, eqI, neI, eqB, neB, ltI, leI, addI, subI, intI, seqT, lenE, tupE, eqT, neT, inT, allE, anyE, isiTup, isiInt, itsT, okB, isiB, s_shared (k := k + 3) (f := g) (r := p) (by omega)]
        exact ⟨watch_one at_len, sharedBy p g, _, rfl, trivial, h1, Nat.le_trans sharedBy_len h2⟩
      · exact ⟨f.map some, _, rfl, rfl, rfl, by rw [List.length_map, hmem f List.mem_cons_self]; exact h8⟩
end
end Law_k72

set_option Elab.async false
set_option maxRecDepth 100000
set_option linter.all false
set_option maxHeartbeats 1000000
namespace Law_k72
open PySem L2 Mini
theorem shared_len {p : List (Option Int)} {g : List Int} (h : g.length = p.length) : (sharedBy p g).length = p.length := by
  unfold sharedBy
  rw [List.length_map, List.length_zip]
  omega
theorem shared_get {p : List (Option Int)} {g : List Int} (h : g.length = p.length) {i : Nat} (hi : i < p.length) : (sharedBy p g).getD i none = if p.getD i none = some (g.getD i 0) then p.getD i none else none := by
  unfold sharedBy
  have e1 : p.getD i none = p[i] := by rw [List.getD_eq_getElem?_getD, List.getElem?_eq_getElem hi]; rfl
  have e2 : g.getD i 0 = g[i]'(by omega) := by rw [List.getD_eq_getElem?_getD, List.getElem?_eq_getElem (by omega)]; rfl
  rw [e1, e2, List.getD_eq_getElem?_getD, List.getElem?_map, List.getElem?_eq_getElem (by rw [List.length_zip]; omega)]
  simp
theorem fold_len : ∀ (r : List (List Int)) (p : List (Option Int)), (∀ g ∈ r, g.length = p.length) → (r.foldl sharedBy p).length = p.length
  | [], p, _ => rfl
  | g :: r, p, h => by
    have h1 := shared_len (h g List.mem_cons_self)
    show (r.foldl sharedBy (sharedBy p g)).length = _
    rw [fold_len r _ fun g' hg => by rw [h1]; exact h g' (List.mem_cons_of_mem _ hg), h1]
theorem fold_get : ∀ (r : List (List Int)) (p : List (Option Int)), (∀ g ∈ r, g.length = p.length) → ∀ i, i < p.length → (r.foldl sharedBy p).getD i none = if (r.all fun g => decide (p.getD i none = some (g.getD i 0))) = true then p.getD i none else none
  | [], p, _, i, _ => by simp
  | g :: r, p, h, i, hi => by
    have h1 := shared_len (h g List.mem_cons_self)
    have ih := fold_get r (sharedBy p g) (fun g' hg => by rw [h1]; exact h g' (List.mem_cons_of_mem _ hg)) i (by omega)
    show (r.foldl sharedBy (sharedBy p g)).getD i none = _
    rw [ih, shared_get (h g List.mem_cons_self) hi, List.all_cons]
    by_cases e : p.getD i none = some (g.getD i 0)
    · rw [if_pos e, decide_eq_true e]
      simp
    · rw [if_neg e, decide_eq_false e]
      simp
def commonF (n : Nat) (f : List Int) (left : List (List Int)) : List (Option Int) := (List.range n).map fun i => if (left.all fun g => decide (g.getD i 0 = f.getD i 0)) = true then some (f.getD i 0) else none
theorem common_eq {n : Nat} {f : List Int} {r : List (List Int)} (h : ∀ g ∈ f :: r, g.length = n) : commonF n f (f :: r) = r.foldl sharedBy (f.map some) := by
  have hf := h f List.mem_cons_self
  have hl := fold_len r (f.map some) fun g hg => by rw [List.length_map, hf]; exact h g (List.mem_cons_of_mem _ hg)
  refine List.ext_getElem (by rw [hl]; simp [commonF, hf]) fun i h1 h2 => ?_
  have hi : i < n := by simpa [commonF] using h1
  have hg := fold_get r (f.map some) (fun g hg => by rw [List.length_map, hf]; exact h g (List.mem_cons_of_mem _ hg)) i (by simp; omega)
  rw [List.getD_eq_getElem?_getD, List.getElem?_eq_getElem h2] at hg
  have hg : (r.foldl sharedBy (f.map some))[i] = _ := hg
  rw [hg]
  have hp : (f.map some).getD i none = some (f.getD i 0) := by
    rw [List.getD_eq_getElem?_getD, List.getD_eq_getElem?_getD, List.getElem?_map, List.getElem?_eq_getElem (by omega)]
    rfl
  rw [hp]
  have hc : (commonF n f (f :: r))[i] = if ((f :: r).all fun g => decide (g.getD i 0 = f.getD i 0)) = true then some (f.getD i 0) else none := by
    simp [commonF]
  rw [hc, List.all_cons]
  have e : (r.all fun g => decide (g.getD i 0 = f.getD i 0)) = r.all fun g => decide (some (f.getD i 0) = some (g.getD i 0)) := by
    congr 1
    funext g
    congr 1
    simp only [Option.some.injEq]
    exact propext ⟨Eq.symm, Eq.symm⟩
  rw [e]
  simp
section
variable {k : Nat} {s : S}
theorem s_common {form : List Int} {left : List (List Int)} {n : Nat} (hf : Form form) (hn : s[n]? = some (.lst (left.map iT))) (hl : left.length ≤ 4000) (hm : ∀ f ∈ left, f.length = form.length) :
    (cl (k + 1)).call "_law_common" [iT form, .ref n] s = .ok (sureD left) s := by
  rw [r__law_common]
  apply W_eq
  unfold b__law_common
  have h8 := hf.len8
  simp only [W_ok, W_m1, W_m2, W_m3, W_const, W_var, W_nil, W_cons, W_tup, W_new, W_asB, W_boolD, W_ofB, W_ite, W_not, W_and, W_or, W_chain, W_seqM, W_oNone, W_oSome, W_skip, W_brk, W_cnt, W_badF, W_seq, W_drop, W_ret, W_setN, W_set, W_par, parGo, W_setI, W_setF, W_setAs, W_meth, W_endR, W_for, W_lc, W_ext, W_rg1, rgIE, itsI, seqI, isiI, isiBl, isiNo, W_call, List.getElem?_cons_succ, List.getElem?_cons_zero, Option.getD_some, List.set_cons_succ, List.set_cons_zero, List.length_cons, List.length_nil, Nat.reduceAdd, Nat.zero_add, Nat.reduceEqDiff, Tset1, Tset2, Tset3, wipeE, cmpD, isN, isNN, eqN, eqI, neI, eqB, neB, ltI, leI, addI, subI, intI, seqT, lenE, tupE, eqT, neT, inT, allE, anyE, isiTup, isiInt, itsT, okB, isiB, seqL hn]
  cases left with
  | nil =>
    simp only [List.map_nil, List.length_nil]
    exact ⟨rfl, trivial⟩
  | cons f r =>
    have hne : decide ((((f :: r).map iT).length : Int) = 0) = false := decide_eq_false (by simp; omega)
    simp only [hne, if_false, Bool.false_eq_true]
    have h1 : ixD (.ref n) (.int 0) s = .ok (iT f) s := ixL (i := 0) hn rfl
    have el : (((form.map D.int).length : Nat) : Int) = (form.length : Int) := by simp
    have hfl := hm f List.mem_cons_self
    simp only [W_ok, W_m1, W_m2, W_m3, W_const, W_var, W_nil, W_cons, W_tup, W_new, W_asB, W_boolD, W_ofB, W_ite, W_not, W_and, W_or, W_chain, W_seqM, W_oNone, W_oSome, W_skip, W_brk, W_cnt, W_badF, W_seq, W_drop, W_ret, W_setN, W_set, W_par, parGo, W_setI, W_setF, W_setAs, W_meth, W_endR, W_for, W_lc, W_ext, W_rg1, rgIE, itsI, seqI, isiI, isiBl, isiNo, W_call, List.getElem?_cons_succ, List.getElem?_cons_zero, Option.getD_some, List.set_cons_succ, List.set_cons_zero, List.length_cons, List.length_nil, Nat.reduceAdd, Nat.zero_add, Nat.reduceEqDiff, Tset1, Tset2, Tset3, wipeE, cmpD, isN, isNN, eqN, eqI, neI, eqB, neB, ltI, leI, addI, subI, intI, seqT, lenE, tupE, eqT, neT, inT, allE, anyE, isiTup, isiInt, itsT, okB, isiB, h1, el, rgN (n := (form.length : Int)) (by omega) (by omega)]
    refine ⟨size_ok (by simp [upto_len]; omega), W_of_eq (lcGo_all watch_nil nI (fun i => oD (if ((f :: r).all fun g => decide (g.getD i 0 = f.getD i 0)) = true then some (f.getD i 0) else none)) _ fun i hi => ⟨_, rfl, ?_⟩) ?_⟩
    · have hif : i < form.length := by have := upto_lt hi; omega
      have getI : ∀ g ∈ f :: r, g[i]? = some (g.getD i 0) := fun g hg => by
        have := hm g hg
        rw [List.getD_eq_getElem?_getD, List.getElem?_eq_getElem (by omega)]
        rfl
      simp only [W_ok, W_m1, W_m2, W_m3, W_const, W_var, W_nil, W_cons, W_tup, W_new, W_asB, W_boolD, W_ofB, W_ite, W_not, W_and, W_or, W_chain, W_seqM, W_oNone, W_oSome, W_skip, W_brk, W_cnt, W_badF, W_seq, W_drop, W_ret, W_setN, W_set, W_par, parGo, W_setI, W_setF, W_setAs, W_meth, W_endR, W_for, W_lc, W_ext, W_rg1, rgIE, itsI, seqI, isiI, isiBl, isiNo, W_call, List.getElem?_cons_succ, List.getElem?_cons_zero, Option.getD_some, List.set_cons_succ, List.set_cons_zero, List.length_cons, List.length_nil, Nat.reduceAdd, Nat.zero_add, Nat.reduceEqDiff, Tset1, Tset2, Tset3, wipeE, cmpD, isN, isNN, eqN, eqI, neI, eqB, neB, ltI, leI, addI, subI, intI, seqT, lenE, tupE, eqT, neT, inT, allE, anyE, isiTup, isiInt, itsT, okB, isiB, itsL hn]
      refine ⟨size_ok (by simp; simp at hl; omega), W_of_eq (lcGo_all (watch_one hn) iT (fun g => .bl (decide (g.getD i 0 = f.getD i 0))) _ fun g hg => ⟨_, rfl, ?_⟩) ?_⟩
      · simp only [W_ok, W_m1, W_m2, W_m3, W_const, W_var, W_nil, W_cons, W_tup, W_new, W_asB, W_boolD, W_ofB, W_ite, W_not, W_and, W_or, W_chain, W_seqM, W_oNone, W_oSome, W_skip, W_brk, W_cnt, W_badF, W_seq, W_drop, W_ret, W_setN, W_set, W_par, parGo, W_setI, W_setF, W_setAs, W_meth, W_endR, W_for, W_lc, W_ext, W_rg1, rgIE, itsI, seqI, isiI, isiBl, isiNo, W_call, List.getElem?_cons_succ, List.getElem?_cons_zero, Option.getD_some, List.set_cons_succ, List.set_cons_zero, List.length_cons, List.length_nil, Nat.reduceAdd, Nat.zero_add, Nat.reduceEqDiff, Tset1, Tset2, Tset3, wipeE, cmpD, isN, isNN, eqN, eqI, neI, eqB, neB, ltI, leI, addI, subI, intI, seqT, lenE, tupE, eqT, neT, inT, allE, anyE, isiTup, isiInt, itsT, okB, isiB, ixNI (getI g hg), ixNI (getI f List.mem_cons_self)]
        simp
      · rw [allG]
        simp only [W_ok, W_m1, W_m2, W_m3, W_const, W_var, W_nil, W_cons, W_tup, W_new, W_asB, W_boolD, W_ofB, W_ite, W_not, W_and, W_or, W_chain, W_seqM, W_oNone, W_oSome, W_skip, W_brk, W_cnt, W_badF, W_seq, W_drop, W_ret, W_setN, W_set, W_par, parGo, W_setI, W_setF, W_setAs, W_meth, W_endR, W_for, W_lc, W_ext, W_rg1, rgIE, itsI, seqI, isiI, isiBl, isiNo, W_call, List.getElem?_cons_succ, List.getElem?_cons_zero, Option.getD_some, List.set_cons_succ, List.set_cons_zero, List.length_cons, List.length_nil, Nat.reduceAdd, Nat.zero_add, Nat.reduceEqDiff, Tset1, Tset2, Tset3, wipeE, cmpD, isN, isNN, eqN, eqI, neI, eqB, neB, ltI, leI, addI, subI, intI, seqT, lenE, tupE, eqT, neT, inT, allE, anyE, isiTup, isiInt, itsT, okB, isiB]
        split
        · simp only [W_ok, W_m1, W_m2, W_m3, W_const, W_var, W_nil, W_cons, W_tup, W_new, W_asB, W_boolD, W_ofB, W_ite, W_not, W_and, W_or, W_chain, W_seqM, W_oNone, W_oSome, W_skip, W_brk, W_cnt, W_badF, W_seq, W_drop, W_ret, W_setN, W_set, W_par, parGo, W_setI, W_setF, W_setAs, W_meth, W_endR, W_for, W_lc, W_ext, W_rg1, rgIE, itsI, seqI, isiI, isiBl, isiNo, W_call, List.getElem?_cons_succ, List.getElem?_cons_zero, Option.getD_some, List.set_cons_succ, List.set_cons_zero, List.length_cons, List.length_nil, Nat.reduceAdd, Nat.zero_add, Nat.reduceEqDiff, Tset1, Tset2, Tset3, wipeE, cmpD, isN, isNN, eqN, eqI, neI, eqB, neB, ltI, leI, addI, subI, intI, seqT, lenE, tupE, eqT, neT, inT, allE, anyE, isiTup, isiInt, itsT, okB, isiB, ixNI (getI f List.mem_cons_self)]
          exact ⟨rfl, trivial⟩
        · exact ⟨rfl, trivial⟩
    · refine ⟨?_, rfl⟩
      show D.tup _ = rpT _
      rw [← common_eq hm]
      unfold rpT commonF
      rw [List.map_map]
      have : upto (form.length : Int) = List.range form.length := by unfold upto; simp
      rw [this]
      rfl
end
end Law_k72

set_option Elab.async false
set_option maxRecDepth 100000
set_option linter.all false
set_option maxHeartbeats 1000000
namespace Law_k72
open PySem L2 Mini
def ansOne (fi v : Int) (p : List Int × Int) : List (List Int × Int) := if p.1.getD fi.toNat 0 = v then [p] else if 0 < p.2 then [(p.1, p.2 - 1)] else []
def answered (fi v : Int) (ps : List (List Int × Int)) : List (List Int × Int) := ps.flatMap (ansOne fi v)
theorem answered_len (fi v : Int) : ∀ ps : List (List Int × Int), (answered fi v ps).length ≤ ps.length
  | [] => by simp [answered]
  | p :: ps => by
    have ih := answered_len fi v ps
    unfold answered at ih ⊢
    rw [List.flatMap_cons, List.length_append, List.length_cons]
    have : (ansOne fi v p).length ≤ 1 := by
      unfold ansOne
      split
      · simp
      · split <;> simp
    omega
theorem many_snoc {f : List Int} {tk : List (Int × Int)} {fi v : Int} : manyF f (tk ++ [(fi, v)]) = manyF f tk + if f.getD fi.toNat 0 = v then 0 else 1 := by
  rw [manyF_eq, manyF_eq, List.filter_append, List.length_append]
  by_cases h : f.getD fi.toNat 0 = v
  · have : wr f (fi, v) = false := by unfold wr; rw [decide_eq_true h]; rfl
    rw [if_pos h, List.filter_cons, this]
    simp
  · have : wr f (fi, v) = true := by unfold wr; rw [decide_eq_false h]; rfl
    rw [if_neg h, List.filter_cons, this]
    simp
theorem later_eq {lies : Int} {tk : List (Int × Int)} {fi v : Int} : ∀ so : List (List Int), leftIn so lies (tk ++ [(fi, v)]) = answered fi v (leftIn so lies tk)
  | [] => rfl
  | f :: so => by
    rw [leftIn_cons, leftIn_cons, later_eq so]
    unfold answered
    rw [List.flatMap_append, many_snoc]
    congr 1
    by_cases h : f.getD fi.toNat 0 = v
    · rw [if_pos h]
      by_cases hc : manyF f tk ≤ lies
      · rw [if_pos hc, if_pos (by omega)]
        simp only [Int.add_zero, List.flatMap_cons, List.flatMap_nil, List.append_nil, ansOne, if_pos h]
      · rw [if_neg hc, if_neg (by omega)]
        rfl
    · rw [if_neg h]
      by_cases hc : manyF f tk ≤ lies
      · rw [if_pos hc]
        by_cases h2 : manyF f tk + 1 ≤ lies
        · rw [if_pos h2]
          have h3 : 0 < lies - manyF f tk := by omega
          simp only [List.flatMap_cons, List.flatMap_nil, List.append_nil, ansOne, if_neg h, if_pos h3]
          congr 2
          omega
        · rw [if_neg h2]
          have h3 : ¬ 0 < lies - manyF f tk := by omega
          simp only [List.flatMap_cons, List.flatMap_nil, List.append_nil, ansOne, if_neg h, if_neg h3]
      · rw [if_neg hc, if_neg (by omega)]
        rfl
section
variable {k : Nat} {s : S}
theorem s_answered {ps : List (List Int × Int)} {fi v : Int} (h0 : 0 ≤ fi) (hf : ∀ p ∈ ps, fi.toNat < p.1.length) (hl : ps.length ≤ 4000) :
    W ((cl (k + 1)).call "_law_answered" [.tup (ps.map pD), .int fi, .int v] s) fun x s' => x = .tup ((answered fi v ps).map pD) ∧ Fr No s s' := by
  rw [r__law_answered]
  unfold b__law_answered
  simp only [W_ok, W_m1, W_m2, W_m3, W_const, W_var, W_nil, W_cons, W_tup, W_new, W_asB, W_boolD, W_ofB, W_ite, W_not, W_and, W_or, W_chain, W_seqM, W_oNone, W_oSome, W_skip, W_brk, W_cnt, W_badF, W_seq, W_drop, W_ret, W_setN, W_set, W_par, parGo, W_setI, W_setF, W_setAs, W_meth, W_endR, W_for, W_lc, W_ext, W_rg1, rgIE, itsI, seqI, isiI, isiBl, isiNo, W_call, List.getElem?_cons_succ, List.getElem?_cons_zero, Option.getD_some, List.set_cons_succ, List.set_cons_zero, List.length_cons, List.length_nil, Nat.reduceAdd, Nat.zero_add, Nat.reduceEqDiff, Tset1, Tset2, Tset3, wipeE, cmpD, isN, isNN, eqN, eqI, neI, eqB, neB, ltI, leI, addI, subI, intI, seqT, lenE, tupE, eqT, neT, inT, allE, anyE, isiTup, isiInt, itsT, okB, isiB]
  refine W_goT pD (fun rest env s' => ∃ (acc : List (List Int × Int)) (d4 d5 : Option D), env = [some (.tup (ps.map pD)), some (.int fi), some (.int v), some (.ref s.length), d4, d5] ∧ s'[s.length]? = some (.lst (acc.map pD)) ∧ acc ++ answered fi v rest = answered fi v ps ∧ Fr No s s' ∧ ∀ p ∈ rest, p ∈ ps) ?_ ?_ _ _ _ ?_
  · rintro env s2 ⟨acc, d4, d5, rfl, h1, h2, h3, _⟩
    simp only [W_ok, W_m1, W_m2, W_m3, W_const, W_var, W_nil, W_cons, W_tup, W_new, W_asB, W_boolD, W_ofB, W_ite, W_not, W_and, W_or, W_chain, W_seqM, W_oNone, W_oSome, W_skip, W_brk, W_cnt, W_badF, W_seq, W_drop, W_ret, W_setN, W_set, W_par, parGo, W_setI, W_setF, W_setAs, W_meth, W_endR, W_for, W_lc, W_ext, W_rg1, rgIE, itsI, seqI, isiI, isiBl, isiNo, W_call, List.getElem?_cons_succ, List.getElem?_cons_zero, Option.getD_some, List.set_cons_succ, List.set_cons_zero, List.length_cons, List.length_nil, Nat.reduceAdd, Nat.zero_add, Nat.reduceEqDiff, Tset1, Tset2, Tset3, wipeE, cmpD, isN, isNN, eqN, eqI, neI, eqB, neB, ltI, leI, addI, subI, intI, seqT, lenE, tupE, eqT, neT, inT, allE, anyE, isiTup, isiInt, itsT, okB, isiB, seqL h1]
    have h2 : acc = answered fi v ps := by simpa [answered] using h2
    rw [h2]
    exact ⟨rfl, h3⟩
  · rintro p rest env s2 ⟨acc, d4, d5, rfl, h1, h2, h3, h4⟩
    refine ⟨_, rfl, ?_⟩
    have hp := hf p (h4 p List.mem_cons_self)
    have e : p.1[fi.toNat]? = some (p.1.getD fi.toNat 0) := by
      rw [List.getD_eq_getElem?_getD, List.getElem?_eq_getElem hp]
      rfl
    have hacc : acc.length ≤ 4000 := by
      have := congrArg List.length h2
      have h5 := answered_len fi v ps
      rw [List.length_append] at this
      omega
    have h2' : acc ++ (ansOne fi v p ++ answered fi v rest) = answered fi v ps := by
      rw [← h2]
      unfold answered
      rw [List.flatMap_cons]
    have more : ∀ q : List Int × Int, ansOne fi v p = [q] → ∃ (acc' : List (List Int × Int)) (d4 d5 : Option D), ([some (.tup (ps.map pD)), some (.int fi), some (.int v), some (.ref s.length), some (iT p.1), some (.int p.2)] : Mini.Env) = [some (.tup (ps.map pD)), some (.int fi), some (.int v), some (.ref s.length), d4, d5] ∧
        (s2.set s.length (.lst (acc.map pD ++ [pD q])))[s.length]? = some (.lst (acc'.map pD)) ∧ acc' ++ answered fi v rest = answered fi v ps ∧ Fr No s (s2.set s.length (.lst (acc.map pD ++ [pD q]))) ∧ ∀ p ∈ rest, p ∈ ps := fun q hq => by
      refine ⟨acc ++ [q], _, _, rfl, ?_, ?_, h3.new (Nat.le_refl _), fun g hg => h4 g (List.mem_cons_of_mem _ hg)⟩
      · rw [List.getElem?_set_self (List.getElem?_eq_some_iff.mp h1).1]
        simp
      · rw [hq] at h2'
        rw [← h2']
        simp
    simp only [W_ok, W_m1, W_m2, W_m3, W_const, W_var, W_nil, W_cons, W_tup, W_new, W_asB, W_boolD, W_ofB, W_ite, W_not, W_and, W_or, W_chain, W_seqM, W_oNone, W_oSome, W_skip, W_brk, W_cnt, W_badF, W_seq, W_drop, W_ret, W_setN, W_set, W_par, parGo, W_setI, W_setF, W_setAs, W_meth, W_endR, W_for, W_lc, W_ext, W_rg1, rgIE, itsI, seqI, isiI, isiBl, isiNo, W_call, List.getElem?_cons_succ, List.getElem?_cons_zero, Option.getD_some, List.set_cons_succ, List.set_cons_zero, List.length_cons, List.length_nil, Nat.reduceAdd, Nat.zero_add, Nat.reduceEqDiff, Tset1, Tset2, Tset3, wipeE, cmpD, isN, isNN, eqN, eqI, neI, eqB, neB, ltI, leI, addI, subI, intI, seqT, lenE, tupE, eqT, neT, inT, allE, anyE, isiTup, isiInt, itsT, okB, isiB, ixZ h0 e]
    by_cases hv : p.1.getD fi.toNat 0 = v
    · simp only [decide_eq_true hv, if_true]
      simp only [W_ok, W_m1, W_m2, W_m3, W_const, W_var, W_nil, W_cons, W_tup, W_new, W_asB, W_boolD, W_ofB, W_ite, W_not, W_and, W_or, W_chain, W_seqM, W_oNone, W_oSome, W_skip, W_brk, W_cnt, W_badF, W_seq, W_drop, W_ret, W_setN, W_set, W_par, parGo, W_setI, W_setF, W_setAs, W_meth, W_endR, W_for, W_lc, W_ext, W_rg1, rgIE, itsI, seqI, isiI, isiBl, isiNo, W_call, List.getElem?_cons_succ, List.getElem?_cons_zero, Option.getD_some, List.set_cons_succ, List.set_cons_zero, List.length_cons, List.length_nil, Nat.reduceAdd, Nat.zero_add, Nat.reduceEqDiff, Tset1, Tset2, Tset3, wipeE, cmpD, isN, isNN, eqN, eqI, neI, eqB, neB, ltI, leI, addI, subI, intI, seqT, lenE, tupE, eqT, neT, inT, allE, anyE, isiTup, isiInt, itsT, okB, isiB, isL h1, appL h1 (by rw [sizeLine_eq]; simp; omega)]
      exact ⟨trivial, watch_nil, more p (by unfold ansOne; rw [if_pos hv])⟩
    · simp only [decide_eq_false hv, if_false, Bool.false_eq_true]
      by_cases hz : 0 < p.2
      · simp only [decide_eq_true hz, if_true]
        simp only [W_ok, W_m1, W_m2, W_m3, W_const, W_var, W_nil, W_cons, W_tup, W_new, W_asB, W_boolD, W_ofB, W_ite, W_not, W_and, W_or, W_chain, W_seqM, W_oNone, W_oSome, W_skip, W_brk, W_cnt, W_badF, W_seq, W_drop, W_ret, W_setN, W_set, W_par, parGo, W_setI, W_setF, W_setAs, W_meth, W_endR, W_for, W_lc, W_ext, W_rg1, rgIE, itsI, seqI, isiI, isiBl, isiNo, W_call, List.getElem?_cons_succ, List.getElem?_cons_zero, Option.getD_some, List.set_cons_succ, List.set_cons_zero, List.length_cons, List.length_nil, Nat.reduceAdd, Nat.zero_add, Nat.reduceEqDiff, Tset1, Tset2, Tset3, wipeE, cmpD, isN, isNN, eqN, eqI, neI, eqB, neB, ltI, leI, addI, subI, intI, seqT, lenE, tupE, eqT, neT, inT, allE, anyE, isiTup, isiInt, itsT, okB, isiB, isL h1, appL h1 (by rw [sizeLine_eq]; simp; omega)]
        exact ⟨trivial, watch_nil, more (p.1, p.2 - 1) (by unfold ansOne; rw [if_neg hv, if_pos hz])⟩
      · simp only [decide_eq_false hz, if_false, Bool.false_eq_true]
        refine ⟨watch_nil, acc, _, _, rfl, h1, ?_, h3, fun g hg => h4 g (List.mem_cons_of_mem _ hg)⟩
        rw [← h2']
        unfold ansOne
        rw [if_neg hv, if_neg hz]
        rfl
  · exact ⟨[], _, _, rfl, at_len, rfl, Fr.push, fun p hp => hp⟩
end
end Law_k72

set_option Elab.async false
set_option maxRecDepth 100000
set_option linter.all false
set_option maxHeartbeats 1000000
namespace Law_k72
open PySem L2 Mini
section
variable {k : Nat} {s : S}
theorem isiTL {n : Nat} {xs : List D} (h : s[n]? = some (.lst xs)) : isiTD (.ref n) [.ty "tuple", .ty "list"] s = .ok (.bl true) s := by
  unfold isiTD tyD
  simp only
  rw [h]
  rfl
theorem is_lst {a b : Nat} {ds : List D} (ha : s[a]? = some (.lst ds)) (hb : s[b]? = some (.lst ds)) (hl : ds.length ≤ 5000) (h : ∀ d ∈ ds, (cl (k + 1)).call "_law_is" [d, d] s = .ok (.bl true) s) : (cl (k + 2)).call "_law_is" [.ref a, .ref b] s = .ok (.bl true) s := by
  rw [r__law_is]
  apply W_eq
  unfold b__law_is
  have hz : zipI ⟨ds, [(a, ds)]⟩ ⟨ds, [(b, ds)]⟩ s = .ok ⟨(ds.zip ds).map fun p => .tup [p.1, p.2], [(a, ds)] ++ [(b, ds)]⟩ s := by
    unfold zipI
    rw [if_pos ⟨watch_one ha, watch_one hb⟩]
    have := zipD_map (f := id) (g := id) ds ds
    simp only [List.map_id] at this
    simp only [this, id]
  have hw : watch ([(a, ds)] ++ [(b, ds)]) s = true := by simp [watch, ha, hb]
  simp only [W_ok, W_m1, W_m2, W_m3, W_const, W_var, W_nil, W_cons, W_tup, W_new, W_asB, W_boolD, W_ofB, W_ite, W_not, W_and, W_or, W_chain, W_seqM, W_oNone, W_oSome, W_skip, W_brk, W_cnt, W_badF, W_seq, W_drop, W_ret, W_setN, W_set, W_par, parGo, W_setI, W_setF, W_setAs, W_meth, W_endR, W_for, W_lc, W_ext, W_rg1, rgIE, itsI, seqI, isiI, isiBl, isiNo, W_call, List.getElem?_cons_succ, List.getElem?_cons_zero, Option.getD_some, List.set_cons_succ, List.set_cons_zero, List.length_cons, List.length_nil, Nat.reduceAdd, Nat.zero_add, Nat.reduceEqDiff, Tset1, Tset2, Tset3, wipeE, cmpD, isN, isNN, eqN, eqI, neI, eqB, neB, ltI, leI, addI, subI, intI, seqT, lenE, tupE, eqT, neT, inT, allE, anyE, isiTup, isiInt, itsT, okB, isiB, isiTL hb, isiLst ha, isiLst hb, seqL ha, seqL hb, itsL ha, itsL hb, hz]
  simp
  refine ⟨by rw [sizeLine_eq]; omega, W_of_eq (lcGo_all (by simpa using hw) _ (fun p => .bl true) _ fun p hp => ⟨_, rfl, ?_⟩) ?_⟩
  · have hm := List.of_mem_zip (a := p.1) (b := p.2) hp
    have he : p.1 = p.2 := by
      obtain ⟨i, hi, e⟩ := List.getElem_of_mem hp
      rw [← e]
      simp
    simp only [W_ok, W_m1, W_m2, W_m3, W_const, W_var, W_nil, W_cons, W_tup, W_new, W_asB, W_boolD, W_ofB, W_ite, W_not, W_and, W_or, W_chain, W_seqM, W_oNone, W_oSome, W_skip, W_brk, W_cnt, W_badF, W_seq, W_drop, W_ret, W_setN, W_set, W_par, parGo, W_setI, W_setF, W_setAs, W_meth, W_endR, W_for, W_lc, W_ext, W_rg1, rgIE, itsI, seqI, isiI, isiBl, isiNo, W_call, List.getElem?_cons_succ, List.getElem?_cons_zero, Option.getD_some, List.set_cons_succ, List.set_cons_zero, List.length_cons, List.length_nil, Nat.reduceAdd, Nat.zero_add, Nat.reduceEqDiff, Tset1, Tset2, Tset3, wipeE, cmpD, isN, isNN, eqN, eqI, neI, eqB, neB, ltI, leI, addI, subI, intI, seqT, lenE, tupE, eqT, neT, inT, allE, anyE, isiTup, isiInt, itsT, okB, isiB]
    rw [← he, h p.1 hm.1]
    simp only [W_ok, W_m1, W_m2, W_m3, W_const, W_var, W_nil, W_cons, W_tup, W_new, W_asB, W_boolD, W_ofB, W_ite, W_not, W_and, W_or, W_chain, W_seqM, W_oNone, W_oSome, W_skip, W_brk, W_cnt, W_badF, W_seq, W_drop, W_ret, W_setN, W_set, W_par, parGo, W_setI, W_setF, W_setAs, W_meth, W_endR, W_for, W_lc, W_ext, W_rg1, rgIE, itsI, seqI, isiI, isiBl, isiNo, W_call, List.getElem?_cons_succ, List.getElem?_cons_zero, Option.getD_some, List.set_cons_succ, List.set_cons_zero, List.length_cons, List.length_nil, Nat.reduceAdd, Nat.zero_add, Nat.reduceEqDiff, Tset1, Tset2, Tset3, wipeE, cmpD, isN, isNN, eqN, eqI, neI, eqB, neB, ltI, leI, addI, subI, intI, seqT, lenE, tupE, eqT, neT, inT, allE, anyE, isiTup, isiInt, itsT, okB, isiB]
    simp
  · rw [allG (f := fun _ => true)]
    simp only [W_ok, W_m1, W_m2, W_m3, W_const, W_var, W_nil, W_cons, W_tup, W_new, W_asB, W_boolD, W_ofB, W_ite, W_not, W_and, W_or, W_chain, W_seqM, W_oNone, W_oSome, W_skip, W_brk, W_cnt, W_badF, W_seq, W_drop, W_ret, W_setN, W_set, W_par, parGo, W_setI, W_setF, W_setAs, W_meth, W_endR, W_for, W_lc, W_ext, W_rg1, rgIE, itsI, seqI, isiI, isiBl, isiNo, W_call, List.getElem?_cons_succ, List.getElem?_cons_zero, Option.getD_some, List.set_cons_succ, List.set_cons_zero, List.length_cons, List.length_nil, Nat.reduceAdd, Nat.zero_add, Nat.reduceEqDiff, Tset1, Tset2, Tset3, wipeE, cmpD, isN, isNN, eqN, eqI, neI, eqB, neB, ltI, leI, addI, subI, intI, seqT, lenE, tupE, eqT, neT, inT, allE, anyE, isiTup, isiInt, itsT, okB, isiB]
    simp
theorem is_pD {p : List Int × Int} (hl : p.1.length ≤ 1000) : (cl (k + 3)).call "_law_is" [pD p, pD p] s = .ok (.bl true) s :=
  is_tup (by simp) fun d hd => by
    have : d = iT p.1 ∨ d = .int p.2 := by simpa using hd
    rcases this with rfl | rfl
    · exact is_iT hl
    · exact is_int (k := k + 1)
end
end Law_k72

set_option Elab.async false
set_option maxRecDepth 100000
set_option linter.all false
set_option maxHeartbeats 1000000
namespace Law_k72
open PySem L2 Mini
theorem manyF_c {f : List Int} {tk : List (Int × Int)} : manyF f tk = (tk.countP (wr f) : Nat) := by rw [manyF_eq, List.countP_eq_length_filter]
theorem stepF_nodup {found : List (List Int)} {n : Int} (h : found.Nodup) : (stepF found n).Nodup := by
  unfold stepF List.Nodup
  rw [List.pairwise_flatMap]
  constructor
  · intro a _
    rw [List.pairwise_map]
    exact (upto_asc n).imp fun hlt e => by
      have := List.append_cancel_left e
      simp at this
      omega
  · refine h.imp fun hne x hx y hy e => ?_
    obtain ⟨v, _, rfl⟩ := List.mem_map.mp hx
    obtain ⟨w, _, rfl⟩ := List.mem_map.mp hy
    exact hne (List.append_inj' e rfl).1
theorem allF_nodup_aux : ∀ (rest : List Int) (found : List (List Int)), found.Nodup → (rest.foldl stepF found).Nodup
  | [], found, h => h
  | m :: rest, found, h => allF_nodup_aux rest _ (stepF_nodup h)
theorem allF_nodup (form : List Int) : (allF form).Nodup := allF_nodup_aux form [[]] (by simp)
theorem lawF_nodup (form : List Int) (rules : List (List (List Int))) : (lawF form rules).Nodup := (allF_nodup form).filter _
/-! shuffled talks -/
def unP (d : D) : Int × Int := match d with
  | .tup [.int a, .int b] => (a, b)
  | _ => (0, 0)
theorem unP_tP (p : Int × Int) : unP (tP p) = p := rfl
theorem perm_talk {tk : List (Int × Int)} {es : List D} (h : es.Perm (tk.map tP)) : ∃ tk' : List (Int × Int), es = tk'.map tP ∧ tk'.Perm tk := by
  refine ⟨es.map unP, ?_, ?_⟩
  · rw [List.map_map]
    have : ∀ d ∈ es, (tP ∘ unP) d = d := fun d hd => by
      obtain ⟨p, _, rfl⟩ := List.mem_map.mp (h.mem_iff.mp hd)
      rfl
    rw [List.map_congr_left this]
    simp
  · have := h.map unP
    rw [List.map_map] at this
    have e : unP ∘ tP = id := rfl
    rw [e, List.map_id] at this
    exact this
theorem talk_perm {form : List Int} {tk tk' : List (Int × Int)} (p : tk'.Perm tk) (h : Talk form tk) : Talk form tk' := ⟨by rw [p.length_eq]; exact h.len, fun q hq => h.val q (p.mem_iff.mp hq)⟩

theorem many_perm {f : List Int} {tk tk' : List (Int × Int)} (p : tk'.Perm tk) : manyF f tk' = manyF f tk := by rw [manyF_c, manyF_c, p.countP_eq]
theorem left_perm {so : List (List Int)} {lies : Int} {tk tk' : List (Int × Int)} (p : tk'.Perm tk) : leftIn so lies tk' = leftIn so lies tk := by
  unfold leftIn
  have : (fun f => manyF f tk') = fun f => manyF f tk := funext fun f => many_perm p
  simp only [many_perm p]
theorem left_none {so : List (List Int)} {lies : Int} (h : 0 ≤ lies) : leftIn so lies [] = so.map fun f => (f, lies) := by
  have hz : ∀ f, manyF f [] = 0 := fun f => rfl
  unfold leftIn
  simp only [hz]
  rw [List.filter_eq_self.mpr fun f _ => decide_eq_true h]
  simp
/-! the dict of what is left -/
def keyF (f : List Int) : List Key := f.map Sum.inl
theorem keyF_inj {f g : List Int} (h : keyF f = keyF g) : f = g := List.map_inj_right (fun x y h => by injection h) |>.mp h
theorem keysD_ints : ∀ f : List Int, keysD (f.map D.int) = some (keyF f)
  | [] => rfl
  | i :: f => by
    rw [List.map_cons]
    unfold keysD
    rw [keysD_ints f]
    rfl
theorem pairs_pD : ∀ ps : List (List Int × Int), pairsKT (ps.map pD) = some (ps.map fun p => (keyF p.1, D.int p.2))
  | [] => rfl
  | p :: ps => by
    rw [List.map_cons]
    unfold pairsKT
    rw [pairs_pD ps, show pairKT (pD p) = (keysD (p.1.map D.int)).map fun k => (k, D.int p.2) from rfl, keysD_ints]
    rfl
theorem merge_new : ∀ (kvs acc : List (List Key × D)), (kvs.map (·.1)).Nodup → (∀ p ∈ kvs, ∀ q ∈ acc, q.1 ≠ p.1) → mergeKT kvs acc = acc ++ kvs
  | [], acc, _, _ => by simp [mergeKT]
  | p :: kvs, acc, hn, hd => by
    rw [List.map_cons, List.nodup_cons] at hn
    have h1 : putKD acc p.1 p.2 = acc ++ [p] := by
      unfold putKD
      rw [if_neg]
      rw [Bool.not_eq_true, List.any_eq_false]
      intro q hq
      have := hd p List.mem_cons_self q hq
      simpa using this
    show mergeKT kvs (putKD acc p.1 p.2) = _
    rw [h1, merge_new kvs (acc ++ [p]) hn.2 fun q hq r hr => ?_]
    · simp
    · rcases List.mem_append.mp hr with hr | hr
      · exact hd q (List.mem_cons_of_mem _ hq) r hr
      · have : r = p := by simpa using hr
        rw [this]
        intro e
        exact hn.1 (by rw [e]; exact List.mem_map_of_mem hq)
theorem at_find : ∀ {ps : List (List Int × Int)} {f : List Int} {l : Int}, (ps.map (·.1)).Nodup → (f, l) ∈ ps → atKT (ps.map fun p => (keyF p.1, D.int p.2)) (keyF f) = some (.int l)
  | p :: ps, f, l, hn, hm => by
    rw [List.map_cons, List.nodup_cons] at hn
    unfold atKT
    rw [List.map_cons, List.find?_cons]
    rcases List.mem_cons.mp hm with e | hm
    · rw [← e]
      simp
    · have : p.1 ≠ f := fun e => hn.1 (by rw [e]; exact List.mem_map_of_mem (f := (·.1)) hm)
      have : ¬ keyF p.1 = keyF f := fun e => this (keyF_inj e)
      rw [decide_eq_false this]
      exact at_find hn.2 hm
  | [], _, _, _, hm => by cases hm
end Law_k72

set_option Elab.async false
set_option maxRecDepth 100000
set_option linter.all false
set_option maxHeartbeats 4000000
namespace Law_k72
open PySem L2 Mini
theorem BookAt.hand {s s' : S} {b h c : Nat} {form : List Int} {rules : List (List (List Int))} (B : BookAt s b form rules) (H : Hand s h c) (f : Fr (· = h) s s') : BookAt s' b form rules := by
  obtain ⟨cells, i, j, x, y, H⟩ := H
  refine B.fr f ?_ ?_
  · rintro rfl
    obtain ⟨L, h1, _⟩ := B
    rw [H.hh] at h1
    cases h1
  · rintro n xs hn hx rfl
    rw [H.hh] at hn
    cases hn
    obtain ⟨f, hf⟩ := hx _ List.mem_cons_self
    cases hf
theorem BookAt.no {s s' : S} {b : Nat} {form : List Int} {rules : List (List (List Int))} (B : BookAt s b form rules) (f : Fr No s s') : BookAt s' b form rules := B.fr f id fun _ _ _ _ => id
theorem BookAt.hand' {s s' : S} {b h c : Nat} {form : List Int} {rules : List (List (List Int))} (B : BookAt s b form rules) (H : Hand s h c) (f : Fr (· = b) s s') : Hand s' h c := by
  obtain ⟨L, h1, _⟩ := B
  exact H.ins h1 f
theorem BookAt.lst {s s' : S} {b n : Nat} {xs : List D} {form : List Int} {rules : List (List (List Int))} (B : BookAt s b form rules) (hn : s[n]? = some (.lst xs)) (f : Fr (· = b) s s') : s'[n]? = some (.lst xs) := by
  obtain ⟨L, h1, _⟩ := B
  refine f _ _ hn ?_
  rintro rfl
  rw [h1] at hn
  cases hn
theorem BookAt.row {s s' : S} {b : Nat} {d : D} {xs : List D} {form : List Int} {rules : List (List (List Int))} (B : BookAt s b form rules) (hd : Row s d xs) (f : Fr (· = b) s s') : Row s' d xs := by
  rcases hd with rfl | ⟨n, rfl, hn⟩
  · exact .inl rfl
  · exact .inr ⟨n, rfl, B.lst hn f⟩
/-- a part on hand -/
structure Part (s : S) (h c b n : Nat) (form : List Int) (rules : List (List (List Int))) (r : Int) (tk : List (Int × Int)) (d : D) : Prop where
  H : Hand s h c
  B : BookAt s b form rules
  F : Form form
  R : Rules form rules
  so : s[n]? = some (.lst ((lawF form rules).map iT))
  ne : lawF form rules ≠ []
  len : form.length ≤ 3
  r0 : 0 ≤ r
  r3 : r ≤ 3
  T : Talk form tk
  dr : Row s d (tk.map tP)
theorem Part.no {s s' : S} {h c b n : Nat} {form : List Int} {rules : List (List (List Int))} {r : Int} {tk : List (Int × Int)} {d : D} (P : Part s h c b n form rules r tk d) (f : Fr No s s') : Part s' h c b n form rules r tk d :=
  ⟨P.H.no f, P.B.no f, P.F, P.R, f _ _ P.so id, P.ne, P.len, P.r0, P.r3, P.T, P.dr.fr f fun _ _ h => h⟩
theorem Part.bk {s s' : S} {h c b n : Nat} {form : List Int} {rules : List (List (List Int))} {r : Int} {tk : List (Int × Int)} {d : D} (P : Part s h c b n form rules r tk d) (f : Fr (· = b) s s') (B : BookAt s' b form rules) : Part s' h c b n form rules r tk d :=
  ⟨P.B.hand' P.H f, B, P.F, P.R, P.B.lst P.so f, P.ne, P.len, P.r0, P.r3, P.T, P.B.row P.dr f⟩

theorem addLL {s : S} {n m : Nat} {a b : List D} (hn : s[n]? = some (.lst a)) (hm : s[m]? = some (.lst b)) (hl : a.length + b.length ≤ sizeLine) : binD .Add (.ref n) (.ref m) s = .ok (.ref s.length) (s ++ [.lst (a ++ b)]) := by
  unfold binD
  simp only
  rw [hn, hm]
  exact if_pos hl
theorem known_form : Form [2, 2] := ⟨by decide, by decide, by simp, by decide⟩
theorem known_rules : Rules [2, 2] [[[1], [1]]] := by
  refine ⟨by decide, fun b hb => ?_⟩
  have : b = [[1], [1]] := by simpa using hb
  subst this
  refine ⟨rfl, fun p hp => ?_⟩
  have : p = ([1], 2) := by simpa using hp
  subst this
  exact ⟨⟨by simp, by simp⟩, by simp⟩
theorem known_one : leftIn (lawF [2, 2] [[[1], [1]]]) 1 [(0, 1), (0, 1)] = [([1, 0], 1)] := by decide +kernel
theorem known_two : leftIn (lawF [2, 2] [[[1], [1]]]) 0 [(0, 1), (0, 0)] = [] := by decide +kernel
/-- what holds before each turn -/
def Turn (h c : Nat) (sc : D) (env : Mini.Env) (s : S) : Prop := ∃ d2 d3 d4 d5 d6 d7 d8 d9 d10 d11 d12 d13 d14 d15 d16 d17, env = [some sc, some (.ref h), d2, d3, d4, d5, d6, d7, d8, d9, d10, d11, d12, d13, d14, d15, d16, d17] ∧ Hand s h c
end Law_k72

set_option Elab.async false
set_option maxRecDepth 100000
set_option linter.all false
set_option maxHeartbeats 4000000
namespace Law_k72
open PySem L2 Mini
abbrev env18 (sc : D) (h : Nat) (d2 d3 d4 d5 d6 d7 d8 d9 d10 d11 d12 d13 d14 d15 d16 d17 : Option D) : Mini.Env := [some sc, some (.ref h), d2, d3, d4, d5, d6, d7, d8, d9, d10, d11, d12, d13, d14, d15, d16, d17]
/-- a part on hand, and its due list -/
structure Mid (s : S) (h c b n : Nat) (form : List Int) (rules : List (List (List Int))) (r : Int) (tk : List (Int × Int)) (d : D) (m : Nat) : Prop where
  P : Part s h c b n form rules r tk d
  t8 : tk.length ≤ 8
  due : s[m]? = some (.lst ((leftIn (lawF form rules) r tk).map pD))
section
variable {s : S} {h c b n m : Nat} {form : List Int} {rules : List (List (List Int))} {r : Int} {tk : List (Int × Int)} {d : D}
theorem Mid.no {s' : S} (M : Mid s h c b n form rules r tk d m) (f : Fr No s s') : Mid s' h c b n form rules r tk d m := ⟨M.P.no f, M.t8, f _ _ M.due id⟩
theorem Mid.bk {s' : S} (M : Mid s h c b n form rules r tk d m) (f : Fr (· = b) s s') (B : BookAt s' b form rules) : Mid s' h c b n form rules r tk d m := ⟨M.P.bk f B, M.t8, M.P.B.lst M.due f⟩
theorem hand_lst {s' : S} {q : Nat} {xs : List D} (H : Hand s h c) (hn : s[q]? = some (.lst xs)) (hx : ∀ x ∈ xs, ∃ ds, x = D.tup ds) (f : Fr (· = h) s s') : s'[q]? = some (.lst xs) := by
  obtain ⟨cells, i, j, x, y, H⟩ := H
  refine f _ _ hn fun e => ?_
  have e : q = h := e
  rw [e, H.hh] at hn
  cases hn
  obtain ⟨ds, hd⟩ := hx _ List.mem_cons_self
  cases hd
theorem tups {α : Type} {f : α → D} {xs : List α} (hf : ∀ a, ∃ ds, f a = D.tup ds) : ∀ x ∈ xs.map f, ∃ ds, x = D.tup ds := fun x hx => by
  obtain ⟨a, _, rfl⟩ := List.mem_map.mp hx
  exact hf a
theorem Mid.hand {s' : S} (M : Mid s h c b n form rules r tk d m) (f : Fr (· = h) s s') (H : Hand s' h c) : Mid s' h c b n form rules r tk d m := by
  refine ⟨⟨H, M.P.B.hand M.P.H f, M.P.F, M.P.R, hand_lst M.P.H M.P.so (tups fun _ => ⟨_, rfl⟩) f, M.P.ne, M.P.len, M.P.r0, M.P.r3, M.P.T, ?_⟩, M.t8, hand_lst M.P.H M.due (tups fun _ => ⟨_, rfl⟩) f⟩
  rcases M.P.dr with rfl | ⟨k, rfl, hk⟩
  · exact .inl rfl
  · exact .inr ⟨k, rfl, hand_lst M.P.H hk (tups fun _ => ⟨_, rfl⟩) f⟩
theorem flen8 (hF : Form form) {f : List Int} (h : f ∈ lawF form rules) : f.length = form.length := allF_flen (List.mem_filter.mp h).1
theorem left_mem {so : List (List Int)} {lies : Int} {p : List Int × Int} (h : p ∈ leftIn so lies tk) : p.1 ∈ so := by
  unfold leftIn at h
  obtain ⟨f, hf, rfl⟩ := List.mem_map.mp h
  exact (List.mem_filter.mp hf).1
theorem is_due {k : Nat} {s : S} {a b : Nat} {ps : List (List Int × Int)} (ha : s[a]? = some (.lst (ps.map pD))) (hb : s[b]? = some (.lst (ps.map pD))) (hl : ps.length ≤ 5000) (h : ∀ p ∈ ps, p.1.length ≤ 1000) : (cl (k + 4)).call "_law_is" [.ref a, .ref b] s = .ok (.bl true) s :=
  is_lst (k := k + 2) ha hb (by simpa using hl) fun x hx => by
    obtain ⟨p, hp, rfl⟩ := List.mem_map.mp hx
    exact is_pD (k := k) (h p hp)
theorem seg_told {sc : D} {q : Nat} {d2 d3 d4 d5 d6 d7 d8 d9 d12 d13 d14 d15 d16 d17 : Option D} (M : Mid s h c b n form rules r tk d m) (hq : s[q]? = some (.lst ((leftIn (lawF form rules) r tk).map pD))) :
    (iteM (notM (asB (m1 (consM (varM 11) (consM (varM 10) nilM)) (callD 2 ((cl 198).call "_law_is"))))) (retM (constM (.bl false))) skipM) (env18 sc h d2 d3 d4 d5 d6 d7 d8 d9 (some (.ref m)) (some (.ref q)) d12 d13 d14 d15 d16 d17) s = .ok (.nx (env18 sc h d2 d3 d4 d5 d6 d7 d8 d9 (some (.ref m)) (some (.ref q)) d12 d13 d14 d15 d16 d17)) s := by
  have hll := lawF_len (rules := rules) M.P.F
  have hlen := leftIn_len (some := lawF form rules) (lies := r) (tk := tk)
  have h8 := M.P.F.len8
  have hi := is_due (k := 194) (s := s) hq M.due (by omega) fun p hp => by rw [flen8 M.P.F (left_mem hp)]; omega
  apply W_eq
  unfold env18
  simp only [W_ok, W_m1, W_m2, W_m3, W_const, W_var, W_nil, W_cons, W_tup, W_new, W_asB, W_boolD, W_ofB, W_ite, W_not, W_and, W_or, W_chain, W_seqM, W_oNone, W_oSome, W_skip, W_brk, W_cnt, W_badF, W_seq, W_drop, W_ret, W_setN, W_set, W_par, parGo, W_setI, W_setF, W_setAs, W_meth, W_endR, W_for, W_lc, W_ext, W_rg1, rgIE, itsI, seqI, isiI, isiBl, isiNo, W_call, List.getElem?_cons_succ, List.getElem?_cons_zero, Option.getD_some, List.set_cons_succ, List.set_cons_zero, List.length_cons, List.length_nil, Nat.reduceAdd, Nat.zero_add, Nat.reduceEqDiff, Tset1, Tset2, Tset3, wipeE, cmpD, isN, isNN, eqN, eqI, neI, eqB, neB, ltI, leI, addI, subI, intI, seqT, lenE, tupE, eqT, neT, inT, allE, anyE, isiTup, isiInt, itsT, okB, isiB]
  rw [hi]
  simp only [W_ok, W_m1, W_m2, W_m3, W_const, W_var, W_nil, W_cons, W_tup, W_new, W_asB, W_boolD, W_ofB, W_ite, W_not, W_and, W_or, W_chain, W_seqM, W_oNone, W_oSome, W_skip, W_brk, W_cnt, W_badF, W_seq, W_drop, W_ret, W_setN, W_set, W_par, parGo, W_setI, W_setF, W_setAs, W_meth, W_endR, W_for, W_lc, W_ext, W_rg1, rgIE, itsI, seqI, isiI, isiBl, isiNo, W_call, List.getElem?_cons_succ, List.getElem?_cons_zero, Option.getD_some, List.set_cons_succ, List.set_cons_zero, List.length_cons, List.length_nil, Nat.reduceAdd, Nat.zero_add, Nat.reduceEqDiff, Tset1, Tset2, Tset3, wipeE, cmpD, isN, isNN, eqN, eqI, neI, eqB, neB, ltI, leI, addI, subI, intI, seqT, lenE, tupE, eqT, neT, inT, allE, anyE, isiTup, isiInt, itsT, okB, isiB]
  simp
theorem is_sure {k : Nat} {s : S} {so : List (List Int)} (hl : ∀ f ∈ so, f.length ≤ 8) : (cl (k + 2)).call "_law_is" [sureD so, sureD so] s = .ok (.bl true) s := by
  cases so with
  | nil => exact is_non (k := k + 1)
  | cons f r =>
    refine is_tup ?_ fun d hd => ?_
    · rw [List.length_map]
      have : ∀ (r : List (List Int)) (p : List (Option Int)), p.length ≤ 8 → (r.foldl sharedBy p).length ≤ 8 := by
        intro r
        induction r with
        | nil => intro p h; exact h
        | cons g r ih => intro p h; exact ih _ (Nat.le_trans sharedBy_len h)
      have := this r (f.map some) (by rw [List.length_map]; exact hl f List.mem_cons_self)
      omega
    · obtain ⟨o, _, rfl⟩ := List.mem_map.mp hd
      cases o with
      | none => exact is_non
      | some i => exact is_int
theorem leftIn_fst {so : List (List Int)} {lies : Int} : (leftIn so lies tk).map (fun p => iT p.1) = (leftF so lies tk).map iT := by
  unfold leftIn leftF
  rw [List.map_map]
  rfl
theorem leftF_mem {so : List (List Int)} {lies : Int} {f : List Int} (h : f ∈ leftF so lies tk) : f ∈ so := (List.mem_filter.mp h).1
theorem leftF_len {so : List (List Int)} {lies : Int} : (leftF so lies tk).length = (leftIn so lies tk).length := by
  have := congrArg List.length (leftIn_fst (so := so) (lies := lies) (tk := tk))
  simpa using this.symm
theorem seg_sure {sc : D} {d2 d3 d6 d11 d12 d13 d14 d15 d16 d17 : Option D} (M : Mid s h c b n form rules r tk d m) :
    W ((iteM (notM (asB (m1 (consM (m1 (consM (varM 7) (consM (varM 8) (consM (varM 9) nilM))) (callD 3 ((cl 198).call "sure_by"))) (consM (m1 (consM (varM 4) (consM (newM (lcM (m1 (varM 10) itsD) [16, 17] (.tp [.nm 16, .nm 17]) yesM (varM 16))) nilM)) (callD 2 ((cl 198).call "_law_common"))) nilM)) (callD 2 ((cl 198).call "_law_is"))))) (retM (constM (.bl false))) skipM) (env18 sc h d2 d3 (some (iT form)) (some (rT rules)) d6 (some (.ref b)) (some (.int r)) (some d) (some (.ref m)) d11 d12 d13 d14 d15 d16 d17) s) fun f s1 => f = .nx (env18 sc h d2 d3 (some (iT form)) (some (rT rules)) d6 (some (.ref b)) (some (.int r)) (some d) (some (.ref m)) d11 d12 d13 d14 d15 d16 d17) ∧ Mid s1 h c b n form rules r tk d m := by
  have hll := lawF_len (rules := rules) M.P.F
  have hlen := leftIn_len (some := lawF form rules) (lies := r) (tk := tk)
  have h8 := M.P.F.len8
  unfold env18
  simp only [W_ok, W_m1, W_m2, W_m3, W_const, W_var, W_nil, W_cons, W_tup, W_new, W_asB, W_boolD, W_ofB, W_ite, W_not, W_and, W_or, W_chain, W_seqM, W_oNone, W_oSome, W_skip, W_brk, W_cnt, W_badF, W_seq, W_drop, W_ret, W_setN, W_set, W_par, parGo, W_setI, W_setF, W_setAs, W_meth, W_endR, W_for, W_lc, W_ext, W_rg1, rgIE, itsI, seqI, isiI, isiBl, isiNo, W_call, List.getElem?_cons_succ, List.getElem?_cons_zero, Option.getD_some, List.set_cons_succ, List.set_cons_zero, List.length_cons, List.length_nil, Nat.reduceAdd, Nat.zero_add, Nat.reduceEqDiff, Tset1, Tset2, Tset3, wipeE, cmpD, isN, isNN, eqN, eqI, neI, eqB, neB, ltI, leI, addI, subI, intI, seqT, lenE, tupE, eqT, neT, inT, allE, anyE, isiTup, isiInt, itsT, okB, isiB]
  refine (s_sure_by (k := 193) M.P.F M.P.R M.P.B M.P.T M.P.dr M.P.r0 M.P.r3).mono fun y s1 ⟨e, B1, f1⟩ => ?_
  subst e
  have M1 := M.bk f1 B1
  simp only [W_ok, W_m1, W_m2, W_m3, W_const, W_var, W_nil, W_cons, W_tup, W_new, W_asB, W_boolD, W_ofB, W_ite, W_not, W_and, W_or, W_chain, W_seqM, W_oNone, W_oSome, W_skip, W_brk, W_cnt, W_badF, W_seq, W_drop, W_ret, W_setN, W_set, W_par, parGo, W_setI, W_setF, W_setAs, W_meth, W_endR, W_for, W_lc, W_ext, W_rg1, rgIE, itsI, seqI, isiI, isiBl, isiNo, W_call, List.getElem?_cons_succ, List.getElem?_cons_zero, Option.getD_some, List.set_cons_succ, List.set_cons_zero, List.length_cons, List.length_nil, Nat.reduceAdd, Nat.zero_add, Nat.reduceEqDiff, Tset1, Tset2, Tset3, wipeE, cmpD, isN, isNN, eqN, eqI, neI, eqB, neB, ltI, leI, addI, subI, intI, seqT, lenE, tupE, eqT, neT, inT, allE, anyE, isiTup, isiInt, itsT, okB, isiB, itsL M1.due]
  refine ⟨size_ok (by simp; omega), W_of_eq (lcGo_all (watch_one M1.due) pD (fun p => iT p.1) _ fun p hp => ⟨_, rfl, ?_⟩) ?_⟩
  · simp only [W_ok, W_m1, W_m2, W_m3, W_const, W_var, W_nil, W_cons, W_tup, W_new, W_asB, W_boolD, W_ofB, W_ite, W_not, W_and, W_or, W_chain, W_seqM, W_oNone, W_oSome, W_skip, W_brk, W_cnt, W_badF, W_seq, W_drop, W_ret, W_setN, W_set, W_par, parGo, W_setI, W_setF, W_setAs, W_meth, W_endR, W_for, W_lc, W_ext, W_rg1, rgIE, itsI, seqI, isiI, isiBl, isiNo, W_call, List.getElem?_cons_succ, List.getElem?_cons_zero, Option.getD_some, List.set_cons_succ, List.set_cons_zero, List.length_cons, List.length_nil, Nat.reduceAdd, Nat.zero_add, Nat.reduceEqDiff, Tset1, Tset2, Tset3, wipeE, cmpD, isN, isNN, eqN, eqI, neI, eqB, neB, ltI, leI, addI, subI, intI, seqT, lenE, tupE, eqT, neT, inT, allE, anyE, isiTup, isiInt, itsT, okB, isiB]
    simp
  · rw [leftIn_fst]
    have hm : ∀ f ∈ leftF (lawF form rules) r tk, f.length = form.length := fun f hf => flen8 M.P.F (leftF_mem hf)
    simp only [W_ok, W_m1, W_m2, W_m3, W_const, W_var, W_nil, W_cons, W_tup, W_new, W_asB, W_boolD, W_ofB, W_ite, W_not, W_and, W_or, W_chain, W_seqM, W_oNone, W_oSome, W_skip, W_brk, W_cnt, W_badF, W_seq, W_drop, W_ret, W_setN, W_set, W_par, parGo, W_setI, W_setF, W_setAs, W_meth, W_endR, W_for, W_lc, W_ext, W_rg1, rgIE, itsI, seqI, isiI, isiBl, isiNo, W_call, List.getElem?_cons_succ, List.getElem?_cons_zero, Option.getD_some, List.set_cons_succ, List.set_cons_zero, List.length_cons, List.length_nil, Nat.reduceAdd, Nat.zero_add, Nat.reduceEqDiff, Tset1, Tset2, Tset3, wipeE, cmpD, isN, isNN, eqN, eqI, neI, eqB, neB, ltI, leI, addI, subI, intI, seqT, lenE, tupE, eqT, neT, inT, allE, anyE, isiTup, isiInt, itsT, okB, isiB, s_common (k := 197) M.P.F at_len (by rw [leftF_len]; omega) hm, is_sure (k := 196) (so := leftF (lawF form rules) r tk) fun f hf => by rw [hm f hf]; omega]
    simp only [Bool.not_true, Bool.false_eq_true, if_false]
    exact ⟨trivial, M1.no Fr.push⟩
theorem seg_mixed {sc : D} {d2 d3 d4 d5 d6 d11 d12 d13 d14 d15 d16 d17 : Option D} (M : Mid s h c b n form rules r tk d m) :
    W ((iteM (notM (asB (m1 (consM (m1 (consM (varM 7) (consM (varM 8) (consM (m1 (seqM (m1 (consM (varM 1) (consM (varM 9) nilM)) (callD 2 ((cl 198).call "_law_mixed")))) tupQ) nilM))) (callD 3 ((cl 198).call "left_by"))) (consM (varM 10) nilM)) (callD 2 ((cl 198).call "_law_is"))))) (retM (constM (.bl false))) skipM) (env18 sc h d2 d3 d4 d5 d6 (some (.ref b)) (some (.int r)) (some d) (some (.ref m)) d11 d12 d13 d14 d15 d16 d17) s) fun f s1 => f = .nx (env18 sc h d2 d3 d4 d5 d6 (some (.ref b)) (some (.int r)) (some d) (some (.ref m)) d11 d12 d13 d14 d15 d16 d17) ∧ Mid s1 h c b n form rules r tk d m := by
  have hll := lawF_len (rules := rules) M.P.F
  have hlen := leftIn_len (some := lawF form rules) (lies := r) (tk := tk)
  have h8 := M.P.F.len8
  unfold env18
  simp only [W_ok, W_m1, W_m2, W_m3, W_const, W_var, W_nil, W_cons, W_tup, W_new, W_asB, W_boolD, W_ofB, W_ite, W_not, W_and, W_or, W_chain, W_seqM, W_oNone, W_oSome, W_skip, W_brk, W_cnt, W_badF, W_seq, W_drop, W_ret, W_setN, W_set, W_par, parGo, W_setI, W_setF, W_setAs, W_meth, W_endR, W_for, W_lc, W_ext, W_rg1, rgIE, itsI, seqI, isiI, isiBl, isiNo, W_call, List.getElem?_cons_succ, List.getElem?_cons_zero, Option.getD_some, List.set_cons_succ, List.set_cons_zero, List.length_cons, List.length_nil, Nat.reduceAdd, Nat.zero_add, Nat.reduceEqDiff, Tset1, Tset2, Tset3, wipeE, cmpD, isN, isNN, eqN, eqI, neI, eqB, neB, ltI, leI, addI, subI, intI, seqT, lenE, tupE, eqT, neT, inT, allE, anyE, isiTup, isiInt, itsT, okB, isiB]
  refine (s_mixed (k := 196) M.P.H M.P.dr (by simp; have := M.t8; omega)).mono fun y s1 ⟨q, es, e, g1, g2, _, H1, f1⟩ => ?_
  subst e
  have M1 := M.hand f1 H1
  obtain ⟨tk', e1, g3⟩ := perm_talk g2
  subst e1
  simp only [W_ok, W_m1, W_m2, W_m3, W_const, W_var, W_nil, W_cons, W_tup, W_new, W_asB, W_boolD, W_ofB, W_ite, W_not, W_and, W_or, W_chain, W_seqM, W_oNone, W_oSome, W_skip, W_brk, W_cnt, W_badF, W_seq, W_drop, W_ret, W_setN, W_set, W_par, parGo, W_setI, W_setF, W_setAs, W_meth, W_endR, W_for, W_lc, W_ext, W_rg1, rgIE, itsI, seqI, isiI, isiBl, isiNo, W_call, List.getElem?_cons_succ, List.getElem?_cons_zero, Option.getD_some, List.set_cons_succ, List.set_cons_zero, List.length_cons, List.length_nil, Nat.reduceAdd, Nat.zero_add, Nat.reduceEqDiff, Tset1, Tset2, Tset3, wipeE, cmpD, isN, isNN, eqN, eqI, neI, eqB, neB, ltI, leI, addI, subI, intI, seqT, lenE, tupE, eqT, neT, inT, allE, anyE, isiTup, isiInt, itsT, okB, isiB, seqL g1]
  refine (s_left_by (k := 193) M.P.F M.P.R M1.P.B (talk_perm g3 M.P.T) (.inl rfl) M.P.r0 M.P.r3).mono fun y s2 ⟨q2, e, g4, _, B2, f2⟩ => ?_
  subst e
  rw [left_perm g3] at g4
  have M2 := M1.bk f2 B2
  have hi := is_due (k := 194) g4 M2.due (by omega) fun p hp => by rw [flen8 M.P.F (left_mem hp)]; omega
  simp only [W_ok, W_m1, W_m2, W_m3, W_const, W_var, W_nil, W_cons, W_tup, W_new, W_asB, W_boolD, W_ofB, W_ite, W_not, W_and, W_or, W_chain, W_seqM, W_oNone, W_oSome, W_skip, W_brk, W_cnt, W_badF, W_seq, W_drop, W_ret, W_setN, W_set, W_par, parGo, W_setI, W_setF, W_setAs, W_meth, W_endR, W_for, W_lc, W_ext, W_rg1, rgIE, itsI, seqI, isiI, isiBl, isiNo, W_call, List.getElem?_cons_succ, List.getElem?_cons_zero, Option.getD_some, List.set_cons_succ, List.set_cons_zero, List.length_cons, List.length_nil, Nat.reduceAdd, Nat.zero_add, Nat.reduceEqDiff, Tset1, Tset2, Tset3, wipeE, cmpD, isN, isNN, eqN, eqI, neI, eqB, neB, ltI, leI, addI, subI, intI, seqT, lenE, tupE, eqT, neT, inT, allE, anyE, isiTup, isiInt, itsT, okB, isiB, hi]
  simp only [Bool.not_true, Bool.false_eq_true, if_false]
  exact ⟨trivial, M2⟩
theorem seg_none {sc : D} {d2 d3 d4 d5 d9 d10 d11 d12 d13 d14 d15 d16 d17 : Option D} (M : Mid s h c b n form rules r tk d m) :
    W ((iteM (notM (asB (m1 (consM (m1 (consM (varM 7) (consM (varM 8) (consM (tupM nilM) nilM))) (callD 3 ((cl 198).call "left_by"))) (consM (newM (lcM (m1 (varM 6) itsD) [16] (.nm 16) yesM (tupM (consM (varM 16) (consM (varM 8) nilM))))) nilM)) (callD 2 ((cl 198).call "_law_is"))))) (retM (constM (.bl false))) skipM) (env18 sc h d2 d3 d4 d5 (some (.ref n)) (some (.ref b)) (some (.int r)) d9 d10 d11 d12 d13 d14 d15 d16 d17) s) fun f s1 => f = .nx (env18 sc h d2 d3 d4 d5 (some (.ref n)) (some (.ref b)) (some (.int r)) d9 d10 d11 d12 d13 d14 d15 d16 d17) ∧ Mid s1 h c b n form rules r tk d m := by
  have hll := lawF_len (rules := rules) M.P.F
  have hlen := leftIn_len (some := lawF form rules) (lies := r) (tk := [])
  have h8 := M.P.F.len8
  unfold env18
  simp only [W_ok, W_m1, W_m2, W_m3, W_const, W_var, W_nil, W_cons, W_tup, W_new, W_asB, W_boolD, W_ofB, W_ite, W_not, W_and, W_or, W_chain, W_seqM, W_oNone, W_oSome, W_skip, W_brk, W_cnt, W_badF, W_seq, W_drop, W_ret, W_setN, W_set, W_par, parGo, W_setI, W_setF, W_setAs, W_meth, W_endR, W_for, W_lc, W_ext, W_rg1, rgIE, itsI, seqI, isiI, isiBl, isiNo, W_call, List.getElem?_cons_succ, List.getElem?_cons_zero, Option.getD_some, List.set_cons_succ, List.set_cons_zero, List.length_cons, List.length_nil, Nat.reduceAdd, Nat.zero_add, Nat.reduceEqDiff, Tset1, Tset2, Tset3, wipeE, cmpD, isN, isNN, eqN, eqI, neI, eqB, neB, ltI, leI, addI, subI, intI, seqT, lenE, tupE, eqT, neT, inT, allE, anyE, isiTup, isiInt, itsT, okB, isiB]
  refine (s_left_by (k := 193) (tk := []) M.P.F M.P.R M.P.B ⟨by simp, fun _ h => by cases h⟩ (.inl rfl) M.P.r0 M.P.r3).mono fun y s1 ⟨q, e, g1, _, B1, f1⟩ => ?_
  subst e
  have M1 := M.bk f1 B1
  simp only [W_ok, W_m1, W_m2, W_m3, W_const, W_var, W_nil, W_cons, W_tup, W_new, W_asB, W_boolD, W_ofB, W_ite, W_not, W_and, W_or, W_chain, W_seqM, W_oNone, W_oSome, W_skip, W_brk, W_cnt, W_badF, W_seq, W_drop, W_ret, W_setN, W_set, W_par, parGo, W_setI, W_setF, W_setAs, W_meth, W_endR, W_for, W_lc, W_ext, W_rg1, rgIE, itsI, seqI, isiI, isiBl, isiNo, W_call, List.getElem?_cons_succ, List.getElem?_cons_zero, Option.getD_some, List.set_cons_succ, List.set_cons_zero, List.length_cons, List.length_nil, Nat.reduceAdd, Nat.zero_add, Nat.reduceEqDiff, Tset1, Tset2, Tset3, wipeE, cmpD, isN, isNN, eqN, eqI, neI, eqB, neB, ltI, leI, addI, subI, intI, seqT, lenE, tupE, eqT, neT, inT, allE, anyE, isiTup, isiInt, itsT, okB, isiB, itsL M1.P.so]
  refine ⟨size_ok (by simp; omega), W_of_eq (lcGo_all (watch_one M1.P.so) iT (fun f => pD (f, r)) _ fun f hf => ⟨_, rfl, ?_⟩) ?_⟩
  · simp only [W_ok, W_m1, W_m2, W_m3, W_const, W_var, W_nil, W_cons, W_tup, W_new, W_asB, W_boolD, W_ofB, W_ite, W_not, W_and, W_or, W_chain, W_seqM, W_oNone, W_oSome, W_skip, W_brk, W_cnt, W_badF, W_seq, W_drop, W_ret, W_setN, W_set, W_par, parGo, W_setI, W_setF, W_setAs, W_meth, W_endR, W_for, W_lc, W_ext, W_rg1, rgIE, itsI, seqI, isiI, isiBl, isiNo, W_call, List.getElem?_cons_succ, List.getElem?_cons_zero, Option.getD_some, List.set_cons_succ, List.set_cons_zero, List.length_cons, List.length_nil, Nat.reduceAdd, Nat.zero_add, Nat.reduceEqDiff, Tset1, Tset2, Tset3, wipeE, cmpD, isN, isNN, eqN, eqI, neI, eqB, neB, ltI, leI, addI, subI, intI, seqT, lenE, tupE, eqT, neT, inT, allE, anyE, isiTup, isiInt, itsT, okB, isiB]
    simp
    rfl
  · have e : (leftIn (lawF form rules) r []).map pD = (lawF form rules).map fun f => pD (f, r) := by
      rw [left_none M.P.r0, List.map_map]
      rfl
    have hi := is_due (k := 194) (s := s1 ++ [.lst ((lawF form rules).map fun f => pD (f, r))]) (b := s1.length) (at_old g1) (by rw [e]; exact at_len) (by omega) fun p hp => by rw [flen8 M.P.F (left_mem hp)]; omega
    simp only [W_ok, W_m1, W_m2, W_m3, W_const, W_var, W_nil, W_cons, W_tup, W_new, W_asB, W_boolD, W_ofB, W_ite, W_not, W_and, W_or, W_chain, W_seqM, W_oNone, W_oSome, W_skip, W_brk, W_cnt, W_badF, W_seq, W_drop, W_ret, W_setN, W_set, W_par, parGo, W_setI, W_setF, W_setAs, W_meth, W_endR, W_for, W_lc, W_ext, W_rg1, rgIE, itsI, seqI, isiI, isiBl, isiNo, W_call, List.getElem?_cons_succ, List.getElem?_cons_zero, Option.getD_some, List.set_cons_succ, List.set_cons_zero, List.length_cons, List.length_nil, Nat.reduceAdd, Nat.zero_add, Nat.reduceEqDiff, Tset1, Tset2, Tset3, wipeE, cmpD, isN, isNN, eqN, eqI, neI, eqB, neB, ltI, leI, addI, subI, intI, seqT, lenE, tupE, eqT, neT, inT, allE, anyE, isiTup, isiInt, itsT, okB, isiB, hi]
    simp only [Bool.not_true, Bool.false_eq_true, if_false]
    exact ⟨trivial, M1.no Fr.push⟩
end
end Law_k72

set_option Elab.async false
set_option maxRecDepth 100000
set_option linter.all false
set_option maxHeartbeats 4000000
namespace Law_k72
open PySem L2 Mini
section
variable {s : S} {h c b n m : Nat} {form : List Int} {rules : List (List (List Int))} {r : Int} {tk : List (Int × Int)} {d : D}
theorem seg_field {sc : D} {d2 d3 d5 d6 d7 d8 d9 d10 d11 d12 d13 d14 d15 d16 d17 : Option D} (M : Mid s h c b n form rules r tk d m) :
    W ((setM (.nm 12) (m1 (consM (varM 1) (consM (m1 (seqM (varM 4)) lenQ) nilM)) (callD 2 ((cl 198).call "_law_draw")))) (env18 sc h d2 d3 (some (iT form)) d5 d6 d7 d8 d9 d10 d11 d12 d13 d14 d15 d16 d17) s) fun f s1 => ∃ j : Nat, j < form.length ∧ f = .nx (env18 sc h d2 d3 (some (iT form)) d5 d6 d7 d8 d9 d10 d11 (some (.int (j : Int))) d13 d14 d15 d16 d17) ∧ Mid s1 h c b n form rules r tk d m := by
  have h8 := M.P.F.len8
  have h1 := M.P.F.len1
  unfold env18
  simp only [W_ok, W_m1, W_m2, W_m3, W_const, W_var, W_nil, W_cons, W_tup, W_new, W_asB, W_boolD, W_ofB, W_ite, W_not, W_and, W_or, W_chain, W_seqM, W_oNone, W_oSome, W_skip, W_brk, W_cnt, W_badF, W_seq, W_drop, W_ret, W_setN, W_set, W_par, parGo, W_setI, W_setF, W_setAs, W_meth, W_endR, W_for, W_lc, W_ext, W_rg1, rgIE, itsI, seqI, isiI, isiBl, isiNo, W_call, List.getElem?_cons_succ, List.getElem?_cons_zero, Option.getD_some, List.set_cons_succ, List.set_cons_zero, List.length_cons, List.length_nil, Nat.reduceAdd, Nat.zero_add, Nat.reduceEqDiff, Tset1, Tset2, Tset3, wipeE, cmpD, isN, isNN, eqN, eqI, neI, eqB, neB, ltI, leI, addI, subI, intI, seqT, lenE, tupE, eqT, neT, inT, allE, anyE, isiTup, isiInt, itsT, okB, isiB]
  refine (s_draw (k := 197) M.P.H (by simp; omega) (by simp; omega)).mono fun y s1 ⟨r, e, r0, r1, H1, f1⟩ => ?_
  subst e
  obtain ⟨j, rfl⟩ : ∃ j : Nat, r = j := ⟨r.toNat, by omega⟩
  exact ⟨j, by simp at r1; omega, rfl, M.hand f1 H1⟩
theorem seg_value {sc : D} {j : Nat} {d2 d3 d5 d6 d7 d8 d9 d10 d11 d13 d14 d15 d16 d17 : Option D} (M : Mid s h c b n form rules r tk d m) (hj : j < form.length) :
    W ((setM (.nm 13) (m1 (consM (varM 1) (consM (m2 (varM 4) (varM 12) ixD) nilM)) (callD 2 ((cl 198).call "_law_draw")))) (env18 sc h d2 d3 (some (iT form)) d5 d6 d7 d8 d9 d10 d11 (some (.int (j : Int))) d13 d14 d15 d16 d17) s) fun f s1 => ∃ v : Int, 0 ≤ v ∧ v < form[j] ∧ f = .nx (env18 sc h d2 d3 (some (iT form)) d5 d6 d7 d8 d9 d10 d11 (some (.int (j : Int))) (some (.int v)) d14 d15 d16 d17) ∧ Mid s1 h c b n form rules r tk d m := by
  have hon := M.P.F.val _ (List.getElem_mem hj)
  have hoj : form[j]? = some form[j] := List.getElem?_eq_getElem hj
  unfold env18
  simp only [W_ok, W_m1, W_m2, W_m3, W_const, W_var, W_nil, W_cons, W_tup, W_new, W_asB, W_boolD, W_ofB, W_ite, W_not, W_and, W_or, W_chain, W_seqM, W_oNone, W_oSome, W_skip, W_brk, W_cnt, W_badF, W_seq, W_drop, W_ret, W_setN, W_set, W_par, parGo, W_setI, W_setF, W_setAs, W_meth, W_endR, W_for, W_lc, W_ext, W_rg1, rgIE, itsI, seqI, isiI, isiBl, isiNo, W_call, List.getElem?_cons_succ, List.getElem?_cons_zero, Option.getD_some, List.set_cons_succ, List.set_cons_zero, List.length_cons, List.length_nil, Nat.reduceAdd, Nat.zero_add, Nat.reduceEqDiff, Tset1, Tset2, Tset3, wipeE, cmpD, isN, isNN, eqN, eqI, neI, eqB, neB, ltI, leI, addI, subI, intI, seqT, lenE, tupE, eqT, neT, inT, allE, anyE, isiTup, isiInt, itsT, okB, isiB, ixI hoj]
  refine (s_draw (k := 197) M.P.H (by omega) (by omega)).mono fun y s1 ⟨v, e, r0, r1, H1, f1⟩ => ?_
  subst e
  exact ⟨v, r0, r1, rfl, M.hand f1 H1⟩
theorem seg_later {sc : D} {j : Nat} {v : Int} {d2 d3 d4 d5 d6 d10 d11 d14 d15 d16 d17 : Option D} (M : Mid s h c b n form rules r tk d m) (hj : j < form.length) (v0 : 0 ≤ v) (v1 : v < form[j]) :
    W ((setM (.nm 14) (m1 (consM (varM 7) (consM (varM 8) (consM (m2 (newM (seqM (varM 9))) (newM (consM (tupM (consM (varM 12) (consM (varM 13) nilM))) nilM)) (binD .Add)) nilM))) (callD 3 ((cl 198).call "left_by")))) (env18 sc h d2 d3 d4 d5 d6 (some (.ref b)) (some (.int r)) (some d) d10 d11 (some (.int (j : Int))) (some (.int v)) d14 d15 d16 d17) s) fun f s1 => ∃ q, f = .nx (env18 sc h d2 d3 d4 d5 d6 (some (.ref b)) (some (.int r)) (some d) d10 d11 (some (.int (j : Int))) (some (.int v)) (some (.ref q)) d15 d16 d17) ∧ Mid s1 h c b n form rules r tk d m ∧ s1[q]? = some (.lst ((answered j v (leftIn (lawF form rules) r tk)).map pD)) := by
  have h8 := M.t8
  unfold env18
  simp only [W_ok, W_m1, W_m2, W_m3, W_const, W_var, W_nil, W_cons, W_tup, W_new, W_asB, W_boolD, W_ofB, W_ite, W_not, W_and, W_or, W_chain, W_seqM, W_oNone, W_oSome, W_skip, W_brk, W_cnt, W_badF, W_seq, W_drop, W_ret, W_setN, W_set, W_par, parGo, W_setI, W_setF, W_setAs, W_meth, W_endR, W_for, W_lc, W_ext, W_rg1, rgIE, itsI, seqI, isiI, isiBl, isiNo, W_call, List.getElem?_cons_succ, List.getElem?_cons_zero, Option.getD_some, List.set_cons_succ, List.set_cons_zero, List.length_cons, List.length_nil, Nat.reduceAdd, Nat.zero_add, Nat.reduceEqDiff, Tset1, Tset2, Tset3, wipeE, cmpD, isN, isNN, eqN, eqI, neI, eqB, neB, ltI, leI, addI, subI, intI, seqT, lenE, tupE, eqT, neT, inT, allE, anyE, isiTup, isiInt, itsT, okB, isiB, M.P.dr.seq]
  have e1 : D.tup [.int (j : Int), .int v] = tP ((j : Int), v) := rfl
  rw [e1, addLL (a := tk.map tP) (b := [tP ((j : Int), v)]) (at_old at_len) (show (s ++ [O.lst (tk.map tP)] ++ [O.lst [tP ((j : Int), v)]])[(s ++ [O.lst (tk.map tP)]).length]? = some (O.lst [tP ((j : Int), v)]) from at_len) (by rw [sizeLine_eq]; simp; omega)]
  simp only [W_ok, W_m1, W_m2, W_m3, W_const, W_var, W_nil, W_cons, W_tup, W_new, W_asB, W_boolD, W_ofB, W_ite, W_not, W_and, W_or, W_chain, W_seqM, W_oNone, W_oSome, W_skip, W_brk, W_cnt, W_badF, W_seq, W_drop, W_ret, W_setN, W_set, W_par, parGo, W_setI, W_setF, W_setAs, W_meth, W_endR, W_for, W_lc, W_ext, W_rg1, rgIE, itsI, seqI, isiI, isiBl, isiNo, W_call, List.getElem?_cons_succ, List.getElem?_cons_zero, Option.getD_some, List.set_cons_succ, List.set_cons_zero, List.length_cons, List.length_nil, Nat.reduceAdd, Nat.zero_add, Nat.reduceEqDiff, Tset1, Tset2, Tset3, wipeE, cmpD, isN, isNN, eqN, eqI, neI, eqB, neB, ltI, leI, addI, subI, intI, seqT, lenE, tupE, eqT, neT, inT, allE, anyE, isiTup, isiInt, itsT, okB, isiB]
  have ht : Talk form (tk ++ [((j : Int), v)]) := ⟨by simp; omega, fun p hp => by
    rcases List.mem_append.mp hp with hp | hp
    · exact M.P.T.val p hp
    · have : p = ((j : Int), v) := by simpa using hp
      rw [this]
      exact ⟨by omega, form[j], by simpa using hj, v0, v1⟩⟩
  have M1 := ((M.no Fr.push).no Fr.push (s' := s ++ [O.lst (tk.map tP)] ++ [O.lst [tP ((j : Int), v)]])).no (s' := s ++ [O.lst (tk.map tP)] ++ [O.lst [tP ((j : Int), v)]] ++ [O.lst (tk.map tP ++ [tP ((j : Int), v)])]) Fr.push
  refine (s_left_by (k := 193) (tk := tk ++ [((j : Int), v)]) M.P.F M.P.R M1.P.B ht (.inr ⟨_, rfl, by rw [List.map_append]; exact at_len⟩) M.P.r0 M.P.r3).mono fun y s1 ⟨q, e, g1, _, B1, f1⟩ => ?_
  subst e
  rw [later_eq] at g1
  exact ⟨q, rfl, M1.bk f1 B1, g1⟩
end
end Law_k72

set_option Elab.async false
set_option maxRecDepth 100000
set_option linter.all false
set_option maxHeartbeats 4000000
namespace Law_k72
open PySem L2 Mini
section
variable {s : S} {h c b n m : Nat} {form : List Int} {rules : List (List (List Int))} {r : Int} {tk : List (Int × Int)} {d : D}
theorem ans_mem {fi v : Int} {ps : List (List Int × Int)} {p : List Int × Int} (hp : p ∈ answered fi v ps) : ∃ q ∈ ps, q.1 = p.1 := by
  unfold answered at hp
  obtain ⟨q, hq, hp⟩ := List.mem_flatMap.mp hp
  refine ⟨q, hq, ?_⟩
  unfold ansOne at hp
  split at hp
  · simp at hp; rw [hp]
  · split at hp
    · simp at hp; rw [hp]
    · cases hp
theorem seg_ans {sc : D} {j q : Nat} {v : Int} {d2 d3 d4 d5 d6 d7 d8 d9 d11 d15 d16 d17 : Option D} (M : Mid s h c b n form rules r tk d m) (hj : j < form.length) (hq : s[q]? = some (.lst ((answered j v (leftIn (lawF form rules) r tk)).map pD))) :
    W ((iteM (notM (asB (m1 (consM (varM 14) (consM (newM (seqM (m1 (consM (m1 (seqM (varM 10)) tupQ) (consM (varM 12) (consM (varM 13) nilM))) (callD 3 ((cl 198).call "_law_answered"))))) nilM)) (callD 2 ((cl 198).call "_law_is"))))) (retM (constM (.bl false))) skipM) (env18 sc h d2 d3 d4 d5 d6 d7 d8 d9 (some (.ref m)) d11 (some (.int (j : Int))) (some (.int v)) (some (.ref q)) d15 d16 d17) s) fun f s1 => f = .nx (env18 sc h d2 d3 d4 d5 d6 d7 d8 d9 (some (.ref m)) d11 (some (.int (j : Int))) (some (.int v)) (some (.ref q)) d15 d16 d17) ∧ Mid s1 h c b n form rules r tk d m := by
  have hll := lawF_len (rules := rules) M.P.F
  have hlen := leftIn_len (some := lawF form rules) (lies := r) (tk := tk)
  have hal := answered_len j v (leftIn (lawF form rules) r tk)
  have h8 := M.P.F.len8
  unfold env18
  simp only [W_ok, W_m1, W_m2, W_m3, W_const, W_var, W_nil, W_cons, W_tup, W_new, W_asB, W_boolD, W_ofB, W_ite, W_not, W_and, W_or, W_chain, W_seqM, W_oNone, W_oSome, W_skip, W_brk, W_cnt, W_badF, W_seq, W_drop, W_ret, W_setN, W_set, W_par, parGo, W_setI, W_setF, W_setAs, W_meth, W_endR, W_for, W_lc, W_ext, W_rg1, rgIE, itsI, seqI, isiI, isiBl, isiNo, W_call, List.getElem?_cons_succ, List.getElem?_cons_zero, Option.getD_some, List.set_cons_succ, List.set_cons_zero, List.length_cons, List.length_nil, Nat.reduceAdd, Nat.zero_add, Nat.reduceEqDiff, Tset1, Tset2, Tset3, wipeE, cmpD, isN, isNN, eqN, eqI, neI, eqB, neB, ltI, leI, addI, subI, intI, seqT, lenE, tupE, eqT, neT, inT, allE, anyE, isiTup, isiInt, itsT, okB, isiB, seqL M.due]
  refine (s_answered (k := 197) (fi := (j : Int)) (v := v) (ps := leftIn (lawF form rules) r tk) (by omega) (fun p hp => by rw [flen8 M.P.F (left_mem hp)]; simpa using hj) (by omega)).mono fun y s1 ⟨e, f1⟩ => ?_
  subst e
  have M1 := (M.no f1).no (s' := s1 ++ [O.lst ((answered j v (leftIn (lawF form rules) r tk)).map pD)]) Fr.push
  have hi := is_due (k := 194) (s := s1 ++ [.lst ((answered j v (leftIn (lawF form rules) r tk)).map pD)]) (a := q) (b := s1.length) (at_old (f1 _ _ hq id)) at_len (by omega) fun p hp => by
    obtain ⟨q, hq, e⟩ := ans_mem hp
    rw [← e, flen8 M.P.F (left_mem hq)]
    omega
  simp only [W_ok, W_m1, W_m2, W_m3, W_const, W_var, W_nil, W_cons, W_tup, W_new, W_asB, W_boolD, W_ofB, W_ite, W_not, W_and, W_or, W_chain, W_seqM, W_oNone, W_oSome, W_skip, W_brk, W_cnt, W_badF, W_seq, W_drop, W_ret, W_setN, W_set, W_par, parGo, W_setI, W_setF, W_setAs, W_meth, W_endR, W_for, W_lc, W_ext, W_rg1, rgIE, itsI, seqI, isiI, isiBl, isiNo, W_call, List.getElem?_cons_succ, List.getElem?_cons_zero, Option.getD_some, List.set_cons_succ, List.set_cons_zero, List.length_cons, List.length_nil, Nat.reduceAdd, Nat.zero_add, Nat.reduceEqDiff, Tset1, Tset2, Tset3, wipeE, cmpD, isN, isNN, eqN, eqI, neI, eqB, neB, ltI, leI, addI, subI, intI, seqT, lenE, tupE, eqT, neT, inT, allE, anyE, isiTup, isiInt, itsT, okB, isiB, hi]
  simp only [Bool.not_true, Bool.false_eq_true, if_false]
  exact ⟨trivial, M1⟩
end
end Law_k72

set_option Elab.async false
set_option maxRecDepth 100000
set_option linter.all false
set_option maxHeartbeats 4000000
namespace Law_k72
open PySem L2 Mini
section
variable {s : S} {h c b n m : Nat} {form : List Int} {rules : List (List (List Int))} {r : Int} {tk : List (Int × Int)} {d : D}
theorem W_getM {o a : M D} {env : Mini.Env} {Q : D → S → Prop} : W (getM o a env s) Q ↔ W (o env s) fun x s1 => if isDct x s1 = true then W (a env s1) fun k s2 => W (getKT x k s2) Q else False := by
  unfold getM
  simp only [W_bind, W_if, W_bad]
theorem lsL {q : Nat} {xs : List D} (hq : s[q]? = some (.lst xs)) : lsD (.ref q) s = .ok xs s := by
  unfold lsD
  simp only
  rw [hq]
theorem left_fst {so : List (List Int)} {lies : Int} : (leftIn so lies tk).map (·.1) = leftF so lies tk := by
  unfold leftIn leftF
  rw [List.map_map]
  simp [Function.comp_def]
theorem left_nodup {lies : Int} : ((leftIn (lawF form rules) lies tk).map (·.1)).Nodup := by
  rw [left_fst]
  exact (lawF_nodup form rules).filter _
theorem left_succ {so : List (List Int)} {lies : Int} {p : List Int × Int} (hp : p ∈ leftIn so lies tk) : (p.1, p.2 + 1) ∈ leftIn so (lies + 1) tk := by
  unfold leftIn at hp ⊢
  obtain ⟨f, hf, rfl⟩ := List.mem_map.mp hp
  obtain ⟨h1, h2⟩ := List.mem_filter.mp hf
  have h2 := of_decide_eq_true h2
  refine List.mem_map.mpr ⟨f, List.mem_filter.mpr ⟨h1, decide_eq_true (by omega)⟩, ?_⟩
  simp only [Prod.mk.injEq, true_and]
  omega
def kvsF (ps : List (List Int × Int)) : List (List Key × D) := ps.map fun p => (keyF p.1, D.int p.2)
theorem dict_pD {ps : List (List Int × Int)} (hn : (ps.map (·.1)).Nodup) : dictQ (ps.map pD) s = .ok (.ref s.length) (s ++ [.dT (kvsF ps)]) := by
  unfold dictQ
  rw [pairs_pD]
  simp only
  rw [merge_new _ [] ?_ fun _ _ _ h => by cases h]
  · rfl
  · rw [List.map_map]
    have : ((fun x : List Key × D => x.1) ∘ fun p : List Int × Int => (keyF p.1, D.int p.2)) = keyF ∘ (fun x => x.1) := rfl
    rw [this, ← List.map_map]
    unfold List.Nodup
    rw [List.pairwise_map]
    exact hn.imp fun hxy e => hxy (keyF_inj e)
theorem get_pD {ps : List (List Int × Int)} {q : Nat} {f : List Int} {l : Int} (hn : (ps.map (·.1)).Nodup) (hq : s[q]? = some (.dT (kvsF ps))) (hm : (f, l) ∈ ps) : getKT (.ref q) (iT f) s = .ok (.int l) s := by
  unfold getKT iT
  simp only
  rw [hq, keysD_ints]
  simp only
  unfold kvsF
  rw [at_find hn hm]
  rfl
theorem isDctT {q : Nat} {kvs : List (List Key × D)} (hq : s[q]? = some (.dT kvs)) : isDct (.ref q) s = true := by
  unfold isDct
  simp only
  rw [hq]
theorem seg_more {sc : D} {d2 d3 d4 d5 d6 d11 d12 d13 d14 d15 d16 d17 : Option D} (M : Mid s h c b n form rules r tk d m) :
    W ((iteM (asB (m2 (varM 8) (constM (.int 3)) (cmpD .Lt))) (seqS (setM (.nm 15) (m1 (m1 (m1 (consM (varM 7) (consM (m2 (varM 8) (constM (.int 1)) (binD .Add)) (consM (varM 9) nilM))) (callD 3 ((cl 198).call "left_by"))) lsD) dictQ))
  (iteM (notM (asB (m1 (lcM (m1 (varM 10) itsD) [16, 17] (.tp [.nm 16, .nm 17]) yesM (m2 (getM (varM 15) (varM 16)) (m2 (varM 17) (constM (.int 1)) (binD .Add)) (cmpD .Eq))) allQ))) (retM (constM (.bl false))) skipM)) skipM) (env18 sc h d2 d3 d4 d5 d6 (some (.ref b)) (some (.int r)) (some d) (some (.ref m)) d11 d12 d13 d14 d15 d16 d17) s) fun f s1 => ∃ e15, f = .nx (env18 sc h d2 d3 d4 d5 d6 (some (.ref b)) (some (.int r)) (some d) (some (.ref m)) d11 d12 d13 d14 e15 d16 d17) ∧ Mid s1 h c b n form rules r tk d m := by
  have hll := lawF_len (rules := rules) M.P.F
  have hlen := leftIn_len (some := lawF form rules) (lies := r) (tk := tk)
  unfold env18
  simp only [W_ok, W_m1, W_m2, W_m3, W_const, W_var, W_nil, W_cons, W_tup, W_new, W_asB, W_boolD, W_ofB, W_ite, W_not, W_and, W_or, W_chain, W_seqM, W_oNone, W_oSome, W_skip, W_brk, W_cnt, W_badF, W_seq, W_drop, W_ret, W_setN, W_set, W_par, parGo, W_setI, W_setF, W_setAs, W_meth, W_endR, W_for, W_lc, W_ext, W_rg1, rgIE, itsI, seqI, isiI, isiBl, isiNo, W_call, List.getElem?_cons_succ, List.getElem?_cons_zero, Option.getD_some, List.set_cons_succ, List.set_cons_zero, List.length_cons, List.length_nil, Nat.reduceAdd, Nat.zero_add, Nat.reduceEqDiff, Tset1, Tset2, Tset3, wipeE, cmpD, isN, isNN, eqN, eqI, neI, eqB, neB, ltI, leI, addI, subI, intI, seqT, lenE, tupE, eqT, neT, inT, allE, anyE, isiTup, isiInt, itsT, okB, isiB]
  split
  · have hr : r < 3 := by
      rename_i hc
      simpa using hc
    try simp only [W_ok, W_m1, W_m2, W_m3, W_const, W_var, W_nil, W_cons, W_tup, W_new, W_asB, W_boolD, W_ofB, W_ite, W_not, W_and, W_or, W_chain, W_seqM, W_oNone, W_oSome, W_skip, W_brk, W_cnt, W_badF, W_seq, W_drop, W_ret, W_setN, W_set, W_par, parGo, W_setI, W_setF, W_setAs, W_meth, W_endR, W_for, W_lc, W_ext, W_rg1, rgIE, itsI, seqI, isiI, isiBl, isiNo, W_call, List.getElem?_cons_succ, List.getElem?_cons_zero, Option.getD_some, List.set_cons_succ, List.set_cons_zero, List.length_cons, List.length_nil, Nat.reduceAdd, Nat.zero_add, Nat.reduceEqDiff, Tset1, Tset2, Tset3, wipeE, cmpD, isN, isNN, eqN, eqI, neI, eqB, neB, ltI, leI, addI, subI, intI, seqT, lenE, tupE, eqT, neT, inT, allE, anyE, isiTup, isiInt, itsT, okB, isiB]
    refine (s_left_by (k := 193) M.P.F M.P.R M.P.B M.P.T M.P.dr (by have := M.P.r0; omega) (by omega)).mono fun y s1 ⟨q, e, g1, _, B1, f1⟩ => ?_
    subst e
    have M1 := M.bk f1 B1
    have M2 := M1.no (s' := s1 ++ [.dT (kvsF (leftIn (lawF form rules) (r + 1) tk))]) Fr.push
    simp only [W_ok, W_m1, W_m2, W_m3, W_const, W_var, W_nil, W_cons, W_tup, W_new, W_asB, W_boolD, W_ofB, W_ite, W_not, W_and, W_or, W_chain, W_seqM, W_oNone, W_oSome, W_skip, W_brk, W_cnt, W_badF, W_seq, W_drop, W_ret, W_setN, W_set, W_par, parGo, W_setI, W_setF, W_setAs, W_meth, W_endR, W_for, W_lc, W_ext, W_rg1, rgIE, itsI, seqI, isiI, isiBl, isiNo, W_call, List.getElem?_cons_succ, List.getElem?_cons_zero, Option.getD_some, List.set_cons_succ, List.set_cons_zero, List.length_cons, List.length_nil, Nat.reduceAdd, Nat.zero_add, Nat.reduceEqDiff, Tset1, Tset2, Tset3, wipeE, cmpD, isN, isNN, eqN, eqI, neI, eqB, neB, ltI, leI, addI, subI, intI, seqT, lenE, tupE, eqT, neT, inT, allE, anyE, isiTup, isiInt, itsT, okB, isiB, lsL g1, dict_pD left_nodup, itsL M2.due]
    refine ⟨size_ok (by simp; omega), W_of_eq (lcGo_all (watch_one M2.due) pD (fun _ => .bl true) _ fun p hp => ⟨_, rfl, ?_⟩) ?_⟩
    · have hg := get_pD (s := s1 ++ [.dT (kvsF (leftIn (lawF form rules) (r + 1) tk))]) left_nodup at_len (left_succ hp)
      simp only [W_ok, W_m1, W_m2, W_m3, W_const, W_var, W_nil, W_cons, W_tup, W_new, W_asB, W_boolD, W_ofB, W_ite, W_not, W_and, W_or, W_chain, W_seqM, W_oNone, W_oSome, W_skip, W_brk, W_cnt, W_badF, W_seq, W_drop, W_ret, W_setN, W_set, W_par, parGo, W_setI, W_setF, W_setAs, W_meth, W_endR, W_for, W_lc, W_ext, W_rg1, rgIE, itsI, seqI, isiI, isiBl, isiNo, W_call, List.getElem?_cons_succ, List.getElem?_cons_zero, Option.getD_some, List.set_cons_succ, List.set_cons_zero, List.length_cons, List.length_nil, Nat.reduceAdd, Nat.zero_add, Nat.reduceEqDiff, Tset1, Tset2, Tset3, wipeE, cmpD, isN, isNN, eqN, eqI, neI, eqB, neB, ltI, leI, addI, subI, intI, seqT, lenE, tupE, eqT, neT, inT, allE, anyE, isiTup, isiInt, itsT, okB, isiB, W_getM, isDctT at_len, hg]
      simp
    · rw [allG (f := fun _ => true)]
      simp only [W_ok, W_m1, W_m2, W_m3, W_const, W_var, W_nil, W_cons, W_tup, W_new, W_asB, W_boolD, W_ofB, W_ite, W_not, W_and, W_or, W_chain, W_seqM, W_oNone, W_oSome, W_skip, W_brk, W_cnt, W_badF, W_seq, W_drop, W_ret, W_setN, W_set, W_par, parGo, W_setI, W_setF, W_setAs, W_meth, W_endR, W_for, W_lc, W_ext, W_rg1, rgIE, itsI, seqI, isiI, isiBl, isiNo, W_call, List.getElem?_cons_succ, List.getElem?_cons_zero, Option.getD_some, List.set_cons_succ, List.set_cons_zero, List.length_cons, List.length_nil, Nat.reduceAdd, Nat.zero_add, Nat.reduceEqDiff, Tset1, Tset2, Tset3, wipeE, cmpD, isN, isNN, eqN, eqI, neI, eqB, neB, ltI, leI, addI, subI, intI, seqT, lenE, tupE, eqT, neT, inT, allE, anyE, isiTup, isiInt, itsT, okB, isiB]
      simp
      exact M2
  · exact ⟨_, rfl, M⟩
end
end Law_k72

set_option Elab.async false
set_option maxRecDepth 100000
set_option linter.all false
set_option maxHeartbeats 4000000
namespace Law_k72
open PySem L2 Mini
def lawBody : M Fl :=
  (seqS (setM (.tp [.nm 4, .nm 5, .nm 6]) (m1 (consM (varM 1) (consM (constM (.int 3)) (consM (constM (.int 24)) (consM (constM (.int 20)) nilM)))) (callD 4 ((cl 198).call "_law_few_book"))))
  (seqS (setM (.tp [.nm 7, .nm 8]) (tupM (consM (m1 (consM (varM 4) (consM (varM 5) nilM)) (makeD "Book" 2 ((cl 198).init "Book"))) (consM (m1 (consM (varM 1) (consM (constM (.int 4)) nilM)) (callD 2 ((cl 198).call "_law_draw"))) nilM))))
  (seqS (setM (.nm 9) (m1 (consM (varM 1) (consM (varM 4) (consM (varM 6) (consM (constM (.int 8)) nilM)))) (callD 4 ((cl 198).call "_law_talk"))))
  (seqS (setM (.nm 10) (m1 (consM (varM 6) (consM (varM 8) (consM (varM 9) nilM))) (callD 3 ((cl 198).call "_law_left"))))
  (seqS (setM (.nm 11) (m1 (consM (varM 7) (consM (varM 8) (consM (varM 9) nilM))) (callD 3 ((cl 198).call "left_by"))))
  (seqS (iteM (notM (asB (m1 (consM (varM 11) (consM (varM 10) nilM)) (callD 2 ((cl 198).call "_law_is"))))) (retM (constM (.bl false))) skipM)
  (seqS (iteM (notM (asB (m1 (consM (m1 (consM (varM 7) (consM (varM 8) (consM (varM 9) nilM))) (callD 3 ((cl 198).call "sure_by"))) (consM (m1 (consM (varM 4) (consM (newM (lcM (m1 (varM 10) itsD) [16, 17] (.tp [.nm 16, .nm 17]) yesM (varM 16))) nilM)) (callD 2 ((cl 198).call "_law_common"))) nilM)) (callD 2 ((cl 198).call "_law_is"))))) (retM (constM (.bl false))) skipM)
  (seqS (iteM (notM (asB (m1 (consM (m1 (consM (varM 7) (consM (varM 8) (consM (m1 (seqM (m1 (consM (varM 1) (consM (varM 9) nilM)) (callD 2 ((cl 198).call "_law_mixed")))) tupQ) nilM))) (callD 3 ((cl 198).call "left_by"))) (consM (varM 10) nilM)) (callD 2 ((cl 198).call "_law_is"))))) (retM (constM (.bl false))) skipM)
  (seqS (setM (.nm 12) (m1 (consM (varM 1) (consM (m1 (seqM (varM 4)) lenQ) nilM)) (callD 2 ((cl 198).call "_law_draw"))))
  (seqS (setM (.nm 13) (m1 (consM (varM 1) (consM (m2 (varM 4) (varM 12) ixD) nilM)) (callD 2 ((cl 198).call "_law_draw"))))
  (seqS (setM (.nm 14) (m1 (consM (varM 7) (consM (varM 8) (consM (m2 (newM (seqM (varM 9))) (newM (consM (tupM (consM (varM 12) (consM (varM 13) nilM))) nilM)) (binD .Add)) nilM))) (callD 3 ((cl 198).call "left_by"))))
  (seqS (iteM (notM (asB (m1 (consM (varM 14) (consM (newM (seqM (m1 (consM (m1 (seqM (varM 10)) tupQ) (consM (varM 12) (consM (varM 13) nilM))) (callD 3 ((cl 198).call "_law_answered"))))) nilM)) (callD 2 ((cl 198).call "_law_is"))))) (retM (constM (.bl false))) skipM)
  (seqS (iteM (asB (m2 (varM 8) (constM (.int 3)) (cmpD .Lt))) (seqS (setM (.nm 15) (m1 (m1 (m1 (consM (varM 7) (consM (m2 (varM 8) (constM (.int 1)) (binD .Add)) (consM (varM 9) nilM))) (callD 3 ((cl 198).call "left_by"))) lsD) dictQ))
  (iteM (notM (asB (m1 (lcM (m1 (varM 10) itsD) [16, 17] (.tp [.nm 16, .nm 17]) yesM (m2 (getM (varM 15) (varM 16)) (m2 (varM 17) (constM (.int 1)) (binD .Add)) (cmpD .Eq))) allQ))) (retM (constM (.bl false))) skipM)) skipM)
  (iteM (notM (asB (m1 (consM (m1 (consM (varM 7) (consM (varM 8) (consM (tupM nilM) nilM))) (callD 3 ((cl 198).call "left_by"))) (consM (newM (lcM (m1 (varM 6) itsD) [16] (.nm 16) yesM (tupM (consM (varM 16) (consM (varM 8) nilM))))) nilM)) (callD 2 ((cl 198).call "_law_is"))))) (retM (constM (.bl false))) skipM))))))))))))))
theorem turn_ok {sc : D} {h c i : Nat} {d2 d4 d5 d6 d7 d8 d9 d10 d11 d12 d13 d14 d15 d16 d17 : Option D} {s : S} (H : Hand s h c) :
    W (lawBody (env18 sc h d2 (some (nI i)) d4 d5 d6 d7 d8 d9 d10 d11 d12 d13 d14 d15 d16 d17) s) fun f s1 => ∃ e, f = .nx e ∧ Turn h c sc e s1 := by
  unfold lawBody
  refine W_seqI (fun e s => ∃ form rules n, e = env18 sc h d2 (some (nI i)) (some (iT form)) (some (rT rules)) (some (.ref n)) d7 d8 d9 d10 d11 d12 d13 d14 d15 d16 d17 ∧ Hand s h c ∧ Form form ∧ Rules form rules ∧ s[n]? = some (.lst ((lawF form rules).map iT)) ∧ lawF form rules ≠ [] ∧ form.length ≤ 3 ∧ n ≠ h) ?_ ?_
  · unfold env18
    simp only [W_ok, W_m1, W_m2, W_m3, W_const, W_var, W_nil, W_cons, W_tup, W_new, W_asB, W_boolD, W_ofB, W_ite, W_not, W_and, W_or, W_chain, W_seqM, W_oNone, W_oSome, W_skip, W_brk, W_cnt, W_badF, W_seq, W_drop, W_ret, W_setN, W_set, W_par, parGo, W_setI, W_setF, W_setAs, W_meth, W_endR, W_for, W_lc, W_ext, W_rg1, rgIE, itsI, seqI, isiI, isiBl, isiNo, W_call, List.getElem?_cons_succ, List.getElem?_cons_zero, Option.getD_some, List.set_cons_succ, List.set_cons_zero, List.length_cons, List.length_nil, Nat.reduceAdd, Nat.zero_add, Nat.reduceEqDiff, Tset1, Tset2, Tset3, wipeE, cmpD, isN, isNN, eqN, eqI, neI, eqB, neB, ltI, leI, addI, subI, intI, seqT, lenE, tupE, eqT, neT, inT, allE, anyE, isiTup, isiInt, itsT, okB, isiB]
    refine (s_few (k := 193) H (by decide) (by decide)).mono fun x s1 ⟨form, rules, n, e, h1, h2, h3, h4, h5, h6, H1, f1⟩ => ?_
    subst e
    simp only [W_ok, W_m1, W_m2, W_m3, W_const, W_var, W_nil, W_cons, W_tup, W_new, W_asB, W_boolD, W_ofB, W_ite, W_not, W_and, W_or, W_chain, W_seqM, W_oNone, W_oSome, W_skip, W_brk, W_cnt, W_badF, W_seq, W_drop, W_ret, W_setN, W_set, W_par, parGo, W_setI, W_setF, W_setAs, W_meth, W_endR, W_for, W_lc, W_ext, W_rg1, rgIE, itsI, seqI, isiI, isiBl, isiNo, W_call, List.getElem?_cons_succ, List.getElem?_cons_zero, Option.getD_some, List.set_cons_succ, List.set_cons_zero, List.length_cons, List.length_nil, Nat.reduceAdd, Nat.zero_add, Nat.reduceEqDiff, Tset1, Tset2, Tset3, wipeE, cmpD, isN, isNN, eqN, eqI, neI, eqB, neB, ltI, leI, addI, subI, intI, seqT, lenE, tupE, eqT, neT, inT, allE, anyE, isiTup, isiInt, itsT, okB, isiB]
    exact ⟨_, rfl, form, rules, n, rfl, H1, h1, h2, h3, h4, h5, by have := H.lt; omega⟩
  rintro e s ⟨form, rules, n, rfl, H, hF, hR, hn, hne, h3, hnh⟩
  refine W_seqI (fun e s => ∃ b r, e = env18 sc h d2 (some (nI i)) (some (iT form)) (some (rT rules)) (some (.ref n)) (some (.ref b)) (some (.int r)) d9 d10 d11 d12 d13 d14 d15 d16 d17 ∧ Hand s h c ∧ BookAt s b form rules ∧ s[n]? = some (.lst ((lawF form rules).map iT)) ∧ 0 ≤ r ∧ r ≤ 3) ?_ ?_
  · unfold env18
    simp only [W_ok, W_m1, W_m2, W_m3, W_const, W_var, W_nil, W_cons, W_tup, W_new, W_asB, W_boolD, W_ofB, W_ite, W_not, W_and, W_or, W_chain, W_seqM, W_oNone, W_oSome, W_skip, W_brk, W_cnt, W_badF, W_seq, W_drop, W_ret, W_setN, W_set, W_par, parGo, W_setI, W_setF, W_setAs, W_meth, W_endR, W_for, W_lc, W_ext, W_rg1, rgIE, itsI, seqI, isiI, isiBl, isiNo, W_call, List.getElem?_cons_succ, List.getElem?_cons_zero, Option.getD_some, List.set_cons_succ, List.set_cons_zero, List.length_cons, List.length_nil, Nat.reduceAdd, Nat.zero_add, Nat.reduceEqDiff, Tset1, Tset2, Tset3, wipeE, cmpD, isN, isNN, eqN, eqI, neI, eqB, neB, ltI, leI, addI, subI, intI, seqT, lenE, tupE, eqT, neT, inT, allE, anyE, isiTup, isiInt, itsT, okB, isiB]
    rw [s_Book (k := 191) hF hR]
    simp only [W_ok, W_m1, W_m2, W_m3, W_const, W_var, W_nil, W_cons, W_tup, W_new, W_asB, W_boolD, W_ofB, W_ite, W_not, W_and, W_or, W_chain, W_seqM, W_oNone, W_oSome, W_skip, W_brk, W_cnt, W_badF, W_seq, W_drop, W_ret, W_setN, W_set, W_par, parGo, W_setI, W_setF, W_setAs, W_meth, W_endR, W_for, W_lc, W_ext, W_rg1, rgIE, itsI, seqI, isiI, isiBl, isiNo, W_call, List.getElem?_cons_succ, List.getElem?_cons_zero, Option.getD_some, List.set_cons_succ, List.set_cons_zero, List.length_cons, List.length_nil, Nat.reduceAdd, Nat.zero_add, Nat.reduceEqDiff, Tset1, Tset2, Tset3, wipeE, cmpD, isN, isNN, eqN, eqI, neI, eqB, neB, ltI, leI, addI, subI, intI, seqT, lenE, tupE, eqT, neT, inT, allE, anyE, isiTup, isiInt, itsT, okB, isiB]
    refine (s_draw (k := 197) (H.no Fr.push) (by decide) (by decide)).mono fun x s1 ⟨r, e, r0, r1, H1, f1⟩ => ?_
    subst e
    have B : BookAt (s ++ [bookO form rules .non]) s.length form rules := ⟨_, at_len, .inl rfl⟩
    exact ⟨_, rfl, s.length, r, rfl, H1, B.hand (H.no Fr.push) f1, f1 _ _ (at_old hn) hnh, r0, by omega⟩
  rintro e s ⟨b, r, rfl, H, B, hn, r0, r3⟩
  have hso : ∀ f ∈ lawF form rules, f ∈ allF form := fun f hf => (List.mem_filter.mp hf).1
  refine W_seqI (fun e s => ∃ tk d, e = env18 sc h d2 (some (nI i)) (some (iT form)) (some (rT rules)) (some (.ref n)) (some (.ref b)) (some (.int r)) (some d) d10 d11 d12 d13 d14 d15 d16 d17 ∧ Part s h c b n form rules r tk d ∧ tk.length ≤ 8) ?_ ?_
  · unfold env18
    simp only [W_ok, W_m1, W_m2, W_m3, W_const, W_var, W_nil, W_cons, W_tup, W_new, W_asB, W_boolD, W_ofB, W_ite, W_not, W_and, W_or, W_chain, W_seqM, W_oNone, W_oSome, W_skip, W_brk, W_cnt, W_badF, W_seq, W_drop, W_ret, W_setN, W_set, W_par, parGo, W_setI, W_setF, W_setAs, W_meth, W_endR, W_for, W_lc, W_ext, W_rg1, rgIE, itsI, seqI, isiI, isiBl, isiNo, W_call, List.getElem?_cons_succ, List.getElem?_cons_zero, Option.getD_some, List.set_cons_succ, List.set_cons_zero, List.length_cons, List.length_nil, Nat.reduceAdd, Nat.zero_add, Nat.reduceEqDiff, Tset1, Tset2, Tset3, wipeE, cmpD, isN, isNN, eqN, eqI, neI, eqB, neB, ltI, leI, addI, subI, intI, seqT, lenE, tupE, eqT, neT, inT, allE, anyE, isiTup, isiInt, itsT, okB, isiB]
    refine (s_talk (k := 195) H hF hn hso hne (lawF_len hF) hnh).mono fun x s1 ⟨tk, h1, h2, _, h4, H1, f1⟩ => ?_
    exact ⟨_, rfl, tk, x, rfl, ⟨H1, B.hand H f1, hF, hR, f1 _ _ hn hnh, hne, h3, r0, r3, h2, h1⟩, h4⟩
  rintro e s ⟨tk, d, rfl, P, ht8⟩
  have hfit : ∀ f ∈ lawF form rules, Fits f tk := fun f hf => P.T.fits (allF_flen (hso f hf))
  have htl := P.T.len
  have hll := lawF_len (rules := rules) hF
  refine W_seqI (fun e s => ∃ m, e = env18 sc h d2 (some (nI i)) (some (iT form)) (some (rT rules)) (some (.ref n)) (some (.ref b)) (some (.int r)) (some d) (some (.ref m)) d11 d12 d13 d14 d15 d16 d17 ∧ Part s h c b n form rules r tk d ∧ s[m]? = some (.lst ((leftIn (lawF form rules) r tk).map pD))) ?_ ?_
  · unfold env18
    simp only [W_ok, W_m1, W_m2, W_m3, W_const, W_var, W_nil, W_cons, W_tup, W_new, W_asB, W_boolD, W_ofB, W_ite, W_not, W_and, W_or, W_chain, W_seqM, W_oNone, W_oSome, W_skip, W_brk, W_cnt, W_badF, W_seq, W_drop, W_ret, W_setN, W_set, W_par, parGo, W_setI, W_setF, W_setAs, W_meth, W_endR, W_for, W_lc, W_ext, W_rg1, rgIE, itsI, seqI, isiI, isiBl, isiNo, W_call, List.getElem?_cons_succ, List.getElem?_cons_zero, Option.getD_some, List.set_cons_succ, List.set_cons_zero, List.length_cons, List.length_nil, Nat.reduceAdd, Nat.zero_add, Nat.reduceEqDiff, Tset1, Tset2, Tset3, wipeE, cmpD, isN, isNN, eqN, eqI, neI, eqB, neB, ltI, leI, addI, subI, intI, seqT, lenE, tupE, eqT, neT, inT, allE, anyE, isiTup, isiInt, itsT, okB, isiB]
    refine (s__law_left (k := 197) P.so hll (by omega) P.dr hfit).mono fun x s1 ⟨m, e, h1, h2, f1⟩ => ?_
    subst e
    exact ⟨_, rfl, m, rfl, P.no f1, h1⟩
  rintro e s ⟨m, rfl, P, hm⟩
  refine W_seqI (fun e s => ∃ q, e = env18 sc h d2 (some (nI i)) (some (iT form)) (some (rT rules)) (some (.ref n)) (some (.ref b)) (some (.int r)) (some d) (some (.ref m)) (some (.ref q)) d12 d13 d14 d15 d16 d17 ∧ Part s h c b n form rules r tk d ∧ s[m]? = some (.lst ((leftIn (lawF form rules) r tk).map pD)) ∧ s[q]? = some (.lst ((leftIn (lawF form rules) r tk).map pD))) ?_ ?_
  · unfold env18
    simp only [W_ok, W_m1, W_m2, W_m3, W_const, W_var, W_nil, W_cons, W_tup, W_new, W_asB, W_boolD, W_ofB, W_ite, W_not, W_and, W_or, W_chain, W_seqM, W_oNone, W_oSome, W_skip, W_brk, W_cnt, W_badF, W_seq, W_drop, W_ret, W_setN, W_set, W_par, parGo, W_setI, W_setF, W_setAs, W_meth, W_endR, W_for, W_lc, W_ext, W_rg1, rgIE, itsI, seqI, isiI, isiBl, isiNo, W_call, List.getElem?_cons_succ, List.getElem?_cons_zero, Option.getD_some, List.set_cons_succ, List.set_cons_zero, List.length_cons, List.length_nil, Nat.reduceAdd, Nat.zero_add, Nat.reduceEqDiff, Tset1, Tset2, Tset3, wipeE, cmpD, isN, isNN, eqN, eqI, neI, eqB, neB, ltI, leI, addI, subI, intI, seqT, lenE, tupE, eqT, neT, inT, allE, anyE, isiTup, isiInt, itsT, okB, isiB]
    refine (s_left_by (k := 193) hF hR P.B P.T P.dr P.r0 P.r3).mono fun y s1 ⟨q, e, h1, _, B1, f1⟩ => ?_
    subst e
    exact ⟨_, rfl, q, rfl, P.bk f1 B1, P.B.lst hm f1, h1⟩
  rintro e s ⟨q, rfl, P, hm, hq⟩
  have M : Mid s h c b n form rules r tk d m := ⟨P, ht8, hm⟩
  refine W_seqI (fun e s => e = env18 sc h d2 (some (nI i)) (some (iT form)) (some (rT rules)) (some (.ref n)) (some (.ref b)) (some (.int r)) (some d) (some (.ref m)) (some (.ref q)) d12 d13 d14 d15 d16 d17 ∧ Mid s h c b n form rules r tk d m) (W_of_eq (seg_told M hq) ⟨_, rfl, rfl, M⟩) ?_
  rintro e s ⟨rfl, M⟩
  refine W_seqI (fun e s => e = env18 sc h d2 (some (nI i)) (some (iT form)) (some (rT rules)) (some (.ref n)) (some (.ref b)) (some (.int r)) (some d) (some (.ref m)) (some (.ref q)) d12 d13 d14 d15 d16 d17 ∧ Mid s h c b n form rules r tk d m) ((seg_sure M).mono fun f s1 ⟨e, M1⟩ => ⟨_, e, rfl, M1⟩) ?_
  rintro e s ⟨rfl, M⟩
  refine W_seqI (fun e s => e = env18 sc h d2 (some (nI i)) (some (iT form)) (some (rT rules)) (some (.ref n)) (some (.ref b)) (some (.int r)) (some d) (some (.ref m)) (some (.ref q)) d12 d13 d14 d15 d16 d17 ∧ Mid s h c b n form rules r tk d m) ((seg_mixed M).mono fun f s1 ⟨e, M1⟩ => ⟨_, e, rfl, M1⟩) ?_
  rintro e s ⟨rfl, M⟩
  refine W_seqI (fun e s => ∃ j : Nat, j < form.length ∧ e = env18 sc h d2 (some (nI i)) (some (iT form)) (some (rT rules)) (some (.ref n)) (some (.ref b)) (some (.int r)) (some d) (some (.ref m)) (some (.ref q)) (some (.int (j : Int))) d13 d14 d15 d16 d17 ∧ Mid s h c b n form rules r tk d m) ((seg_field M).mono fun f s1 ⟨j, hj, e, M1⟩ => ⟨_, e, j, hj, rfl, M1⟩) ?_
  rintro e s ⟨j, hj, rfl, M⟩
  refine W_seqI (fun e s => ∃ v : Int, 0 ≤ v ∧ v < form[j] ∧ e = env18 sc h d2 (some (nI i)) (some (iT form)) (some (rT rules)) (some (.ref n)) (some (.ref b)) (some (.int r)) (some d) (some (.ref m)) (some (.ref q)) (some (.int (j : Int))) (some (.int v)) d14 d15 d16 d17 ∧ Mid s h c b n form rules r tk d m) ((seg_value M hj).mono fun f s1 ⟨v, v0, v1, e, M1⟩ => ⟨_, e, v, v0, v1, rfl, M1⟩) ?_
  rintro e s ⟨v, v0, v1, rfl, M⟩
  refine W_seqI (fun e s => ∃ w, e = env18 sc h d2 (some (nI i)) (some (iT form)) (some (rT rules)) (some (.ref n)) (some (.ref b)) (some (.int r)) (some d) (some (.ref m)) (some (.ref q)) (some (.int (j : Int))) (some (.int v)) (some (.ref w)) d15 d16 d17 ∧ Mid s h c b n form rules r tk d m ∧ s[w]? = some (.lst ((answered j v (leftIn (lawF form rules) r tk)).map pD))) ((seg_later M hj v0 v1).mono fun f s1 ⟨w, e, M1, hw⟩ => ⟨_, e, w, rfl, M1, hw⟩) ?_
  rintro e s ⟨w, rfl, M, hw⟩
  refine W_seqI (fun e s => e = env18 sc h d2 (some (nI i)) (some (iT form)) (some (rT rules)) (some (.ref n)) (some (.ref b)) (some (.int r)) (some d) (some (.ref m)) (some (.ref q)) (some (.int (j : Int))) (some (.int v)) (some (.ref w)) d15 d16 d17 ∧ Mid s h c b n form rules r tk d m) ((seg_ans M hj hw).mono fun f s1 ⟨e, M1⟩ => ⟨_, e, rfl, M1⟩) ?_
  rintro e s ⟨rfl, M⟩
  refine W_seqI (fun e s => ∃ e15, e = env18 sc h d2 (some (nI i)) (some (iT form)) (some (rT rules)) (some (.ref n)) (some (.ref b)) (some (.int r)) (some d) (some (.ref m)) (some (.ref q)) (some (.int (j : Int))) (some (.int v)) (some (.ref w)) e15 d16 d17 ∧ Mid s h c b n form rules r tk d m) ((seg_more M).mono fun f s1 ⟨e15, e, M1⟩ => ⟨_, e, e15, rfl, M1⟩) ?_
  rintro e s ⟨e15, rfl, M⟩
  exact (seg_none M).mono fun f s1 ⟨e, M1⟩ => ⟨_, e, _, _, _, _, _, _, _, _, _, _, _, _, _, _, _, _, rfl, M1.P.H⟩
end Law_k72

set_option Elab.async false
set_option maxRecDepth 100000
set_option linter.all false
set_option maxHeartbeats 4000000
namespace Law_k72
open PySem L2 Mini
section
variable {s : S}
theorem neOne {a b : Nat} (ha : s[a]? = some (.lst [D.tup [D.tup [.int 1, .int 0], .int 1]])) (hb : s[b]? = some (.lst [D.tup [D.tup [.int 1, .int 0], .int 1]])) : neD (.ref a) (.ref b) s = .ok (.bl false) s := by
  have e : ∀ n, s[n]? = some (.lst [D.tup [D.tup [.int 1, .int 0], .int 1]]) → toP s 60 (.ref n) = some (.list [.tuple [.tuple [.int 1, .int 0], .int 1]]) := fun n hn => by
    show (match s[n]? with
      | some (.lst xs) => (toPL (toP s 59) xs).map PyData.list
      | _ => none) = _
    rw [hn]
    rfl
  unfold neD
  rw [e a ha, e b hb]
  rfl
theorem neNil {a b : Nat} (ha : s[a]? = some (.lst [])) (hb : s[b]? = some (.lst [])) : neD (.ref a) (.ref b) s = .ok (.bl false) s := by
  have e : ∀ n, s[n]? = some (.lst []) → toP s 60 (.ref n) = some (.list []) := fun n hn => by
    show (match s[n]? with
      | some (.lst xs) => (toPL (toP s 59) xs).map PyData.list
      | _ => none) = _
    rw [hn]
    rfl
  unfold neD
  rw [e a ha, e b hb]
  rfl
end
theorem law_ok (ns : List Int) (hns : ns.length ≤ 63) : W ((b_law (cl 198) [some (.scr ns), none, none, none, none, none, none, none, none, none, none, none, none, none, none, none, none, none] []).bind endR) fun d _ => d = .bl true := by
  unfold b_law
  rw [W_endR]
  refine W_seqI (fun e s => ∃ h c, e = [some (.scr ns), some (.ref h), none, none, none, none, none, none, none, none, none, none, none, none, none, none, none, none] ∧ Hand s h c) ?_ ?_
  · simp only [W_ok, W_m1, W_m2, W_m3, W_const, W_var, W_nil, W_cons, W_tup, W_new, W_asB, W_boolD, W_ofB, W_ite, W_not, W_and, W_or, W_chain, W_seqM, W_oNone, W_oSome, W_skip, W_brk, W_cnt, W_badF, W_seq, W_drop, W_ret, W_setN, W_set, W_par, parGo, W_setI, W_setF, W_setAs, W_meth, W_endR, W_for, W_lc, W_ext, W_rg1, rgIE, itsI, seqI, isiI, isiBl, isiNo, W_call, List.getElem?_cons_succ, List.getElem?_cons_zero, Option.getD_some, List.set_cons_succ, List.set_cons_zero, List.length_cons, List.length_nil, Nat.reduceAdd, Nat.zero_add, Nat.reduceEqDiff, Tset1, Tset2, Tset3, wipeE, cmpD, isN, isNN, eqN, eqI, neI, eqB, neB, ltI, leI, addI, subI, intI, seqT, lenE, tupE, eqT, neT, inT, allE, anyE, isiTup, isiInt, itsT, okB, isiB]
    refine (s_hand (k := 197) hns).mono fun x s ⟨h, c, e, H, _, _⟩ => ?_
    subst e
    exact ⟨_, rfl, h, c, rfl, H⟩
  rintro e s ⟨h, c, rfl, H⟩
  refine W_seqI (fun e s => ∃ b, e = [some (.scr ns), some (.ref h), some (.ref b), none, none, none, none, none, none, none, none, none, none, none, none, none, none, none] ∧ Hand s h c ∧ BookAt s b [2, 2] [[[1], [1]]]) ?_ ?_
  · simp only [W_ok, W_m1, W_m2, W_m3, W_const, W_var, W_nil, W_cons, W_tup, W_new, W_asB, W_boolD, W_ofB, W_ite, W_not, W_and, W_or, W_chain, W_seqM, W_oNone, W_oSome, W_skip, W_brk, W_cnt, W_badF, W_seq, W_drop, W_ret, W_setN, W_set, W_par, parGo, W_setI, W_setF, W_setAs, W_meth, W_endR, W_for, W_lc, W_ext, W_rg1, rgIE, itsI, seqI, isiI, isiBl, isiNo, W_call, List.getElem?_cons_succ, List.getElem?_cons_zero, Option.getD_some, List.set_cons_succ, List.set_cons_zero, List.length_cons, List.length_nil, Nat.reduceAdd, Nat.zero_add, Nat.reduceEqDiff, Tset1, Tset2, Tset3, wipeE, cmpD, isN, isNN, eqN, eqI, neI, eqB, neB, ltI, leI, addI, subI, intI, seqT, lenE, tupE, eqT, neT, inT, allE, anyE, isiTup, isiInt, itsT, okB, isiB]
    rw [show D.tup [.int 2, .int 2] = iT [2, 2] from rfl, show D.tup [.tup [.tup [.int 1], .tup [.int 1]]] = rT [[[1], [1]]] from rfl, s_Book (k := 191) known_form known_rules]
    try simp only [W_ok, W_m1, W_m2, W_m3, W_const, W_var, W_nil, W_cons, W_tup, W_new, W_asB, W_boolD, W_ofB, W_ite, W_not, W_and, W_or, W_chain, W_seqM, W_oNone, W_oSome, W_skip, W_brk, W_cnt, W_badF, W_seq, W_drop, W_ret, W_setN, W_set, W_par, parGo, W_setI, W_setF, W_setAs, W_meth, W_endR, W_for, W_lc, W_ext, W_rg1, rgIE, itsI, seqI, isiI, isiBl, isiNo, W_call, List.getElem?_cons_succ, List.getElem?_cons_zero, Option.getD_some, List.set_cons_succ, List.set_cons_zero, List.length_cons, List.length_nil, Nat.reduceAdd, Nat.zero_add, Nat.reduceEqDiff, Tset1, Tset2, Tset3, wipeE, cmpD, isN, isNN, eqN, eqI, neI, eqB, neB, ltI, leI, addI, subI, intI, seqT, lenE, tupE, eqT, neT, inT, allE, anyE, isiTup, isiInt, itsT, okB, isiB]
    exact ⟨_, rfl, s.length, rfl, H.no Fr.push, _, at_len, .inl rfl⟩
  rintro e s ⟨b, rfl, H, B⟩
  refine W_seqI (fun e s => Turn h c (.scr ns) e s) ?_ ?_
  · simp only [W_ok, W_m1, W_m2, W_m3, W_const, W_var, W_nil, W_cons, W_tup, W_new, W_asB, W_boolD, W_ofB, W_ite, W_not, W_and, W_or, W_chain, W_seqM, W_oNone, W_oSome, W_skip, W_brk, W_cnt, W_badF, W_seq, W_drop, W_ret, W_setN, W_set, W_par, parGo, W_setI, W_setF, W_setAs, W_meth, W_endR, W_for, W_lc, W_ext, W_rg1, rgIE, itsI, seqI, isiI, isiBl, isiNo, W_call, List.getElem?_cons_succ, List.getElem?_cons_zero, Option.getD_some, List.set_cons_succ, List.set_cons_zero, List.length_cons, List.length_nil, Nat.reduceAdd, Nat.zero_add, Nat.reduceEqDiff, Tset1, Tset2, Tset3, wipeE, cmpD, isN, isNN, eqN, eqI, neI, eqB, neB, ltI, leI, addI, subI, intI, seqT, lenE, tupE, eqT, neT, inT, allE, anyE, isiTup, isiInt, itsT, okB, isiB]
    have ht : Talk [2, 2] [(0, 1), (0, 1)] := ⟨by decide, fun p hp => by
      have : p = (0, 1) := by simpa using hp
      subst this
      exact ⟨by decide, 2, rfl, by decide, by decide⟩⟩
    have ht2 : Talk [2, 2] [(0, 1), (0, 0)] := ⟨by decide, fun p hp => by
      have : p = (0, 1) ∨ p = (0, 0) := by simpa using hp
      rcases this with rfl | rfl <;> exact ⟨by decide, 2, rfl, by decide, by decide⟩⟩
    refine (s_left_by (k := 193) (tk := [(0, 1), (0, 1)]) known_form known_rules (B.no Fr.push) ht (.inr ⟨_, rfl, at_len⟩) (by decide) (by decide)).mono fun x s1 ⟨q, e, g1, _, B1, f1⟩ => ?_
    subst e
    rw [known_one] at g1
    try simp only [W_ok, W_m1, W_m2, W_m3, W_const, W_var, W_nil, W_cons, W_tup, W_new, W_asB, W_boolD, W_ofB, W_ite, W_not, W_and, W_or, W_chain, W_seqM, W_oNone, W_oSome, W_skip, W_brk, W_cnt, W_badF, W_seq, W_drop, W_ret, W_setN, W_set, W_par, parGo, W_setI, W_setF, W_setAs, W_meth, W_endR, W_for, W_lc, W_ext, W_rg1, rgIE, itsI, seqI, isiI, isiBl, isiNo, W_call, List.getElem?_cons_succ, List.getElem?_cons_zero, Option.getD_some, List.set_cons_succ, List.set_cons_zero, List.length_cons, List.length_nil, Nat.reduceAdd, Nat.zero_add, Nat.reduceEqDiff, Tset1, Tset2, Tset3, wipeE, cmpD, isN, isNN, eqN, eqI, neI, eqB, neB, ltI, leI, addI, subI, intI, seqT, lenE, tupE, eqT, neT, inT, allE, anyE, isiTup, isiInt, itsT, okB, isiB]
    rw [neOne (at_old g1) at_len]
    try simp only [W_ok, W_m1, W_m2, W_m3, W_const, W_var, W_nil, W_cons, W_tup, W_new, W_asB, W_boolD, W_ofB, W_ite, W_not, W_and, W_or, W_chain, W_seqM, W_oNone, W_oSome, W_skip, W_brk, W_cnt, W_badF, W_seq, W_drop, W_ret, W_setN, W_set, W_par, parGo, W_setI, W_setF, W_setAs, W_meth, W_endR, W_for, W_lc, W_ext, W_rg1, rgIE, itsI, seqI, isiI, isiBl, isiNo, W_call, List.getElem?_cons_succ, List.getElem?_cons_zero, Option.getD_some, List.set_cons_succ, List.set_cons_zero, List.length_cons, List.length_nil, Nat.reduceAdd, Nat.zero_add, Nat.reduceEqDiff, Tset1, Tset2, Tset3, wipeE, cmpD, isN, isNN, eqN, eqI, neI, eqB, neB, ltI, leI, addI, subI, intI, seqT, lenE, tupE, eqT, neT, inT, allE, anyE, isiTup, isiInt, itsT, okB, isiB]
    simp only [Bool.false_eq_true, if_false]
    have H1 : Hand s1 h c := (B.no Fr.push).hand' (H.no Fr.push) f1
    have B1' : BookAt (s1 ++ [O.lst [D.tup [D.tup [.int 1, .int 0], .int 1]]] ++ [O.lst [D.tup [.int 0, .int 1], D.tup [.int 0, .int 0]]]) b [2, 2] [[[1], [1]]] := (B1.no Fr.push).no Fr.push
    refine (s_left_by (k := 193) (tk := [(0, 1), (0, 0)]) known_form known_rules B1' ht2 (.inr ⟨_, rfl, at_len⟩) (by decide) (by decide)).mono fun x s2 ⟨q2, e, g2, _, B2, f2⟩ => ?_
    subst e
    rw [known_two] at g2
    try simp only [W_ok, W_m1, W_m2, W_m3, W_const, W_var, W_nil, W_cons, W_tup, W_new, W_asB, W_boolD, W_ofB, W_ite, W_not, W_and, W_or, W_chain, W_seqM, W_oNone, W_oSome, W_skip, W_brk, W_cnt, W_badF, W_seq, W_drop, W_ret, W_setN, W_set, W_par, parGo, W_setI, W_setF, W_setAs, W_meth, W_endR, W_for, W_lc, W_ext, W_rg1, rgIE, itsI, seqI, isiI, isiBl, isiNo, W_call, List.getElem?_cons_succ, List.getElem?_cons_zero, Option.getD_some, List.set_cons_succ, List.set_cons_zero, List.length_cons, List.length_nil, Nat.reduceAdd, Nat.zero_add, Nat.reduceEqDiff, Tset1, Tset2, Tset3, wipeE, cmpD, isN, isNN, eqN, eqI, neI, eqB, neB, ltI, leI, addI, subI, intI, seqT, lenE, tupE, eqT, neT, inT, allE, anyE, isiTup, isiInt, itsT, okB, isiB]
    rw [neNil (at_old g2) at_len]
    try simp only [W_ok, W_m1, W_m2, W_m3, W_const, W_var, W_nil, W_cons, W_tup, W_new, W_asB, W_boolD, W_ofB, W_ite, W_not, W_and, W_or, W_chain, W_seqM, W_oNone, W_oSome, W_skip, W_brk, W_cnt, W_badF, W_seq, W_drop, W_ret, W_setN, W_set, W_par, parGo, W_setI, W_setF, W_setAs, W_meth, W_endR, W_for, W_lc, W_ext, W_rg1, rgIE, itsI, seqI, isiI, isiBl, isiNo, W_call, List.getElem?_cons_succ, List.getElem?_cons_zero, Option.getD_some, List.set_cons_succ, List.set_cons_zero, List.length_cons, List.length_nil, Nat.reduceAdd, Nat.zero_add, Nat.reduceEqDiff, Tset1, Tset2, Tset3, wipeE, cmpD, isN, isNN, eqN, eqI, neI, eqB, neB, ltI, leI, addI, subI, intI, seqT, lenE, tupE, eqT, neT, inT, allE, anyE, isiTup, isiInt, itsT, okB, isiB]
    simp only [Bool.false_eq_true, if_false]
    exact ⟨_, rfl, _, _, _, _, _, _, _, _, _, _, _, _, _, _, _, _, rfl, (B1'.hand' ((H1.no Fr.push).no Fr.push) f2).no Fr.push⟩
  rintro e s ⟨d2, d3, d4, d5, d6, d7, d8, d9, d10, d11, d12, d13, d14, d15, d16, d17, rfl, H⟩
  refine W_seqI (fun e s => Turn h c (.scr ns) e s) ?_ ?_
  · rw [W_for]
    simp only [W_ok, W_m1, W_m2, W_m3, W_const, W_var, W_nil, W_cons, W_tup, W_new, W_asB, W_boolD, W_ofB, W_ite, W_not, W_and, W_or, W_chain, W_seqM, W_oNone, W_oSome, W_skip, W_brk, W_cnt, W_badF, W_seq, W_drop, W_ret, W_setN, W_set, W_par, parGo, W_setI, W_setF, W_setAs, W_meth, W_endR, W_for, W_lc, W_ext, W_rg1, rgIE, itsI, seqI, isiI, isiBl, isiNo, W_call, List.getElem?_cons_succ, List.getElem?_cons_zero, Option.getD_some, List.set_cons_succ, List.set_cons_zero, List.length_cons, List.length_nil, Nat.reduceAdd, Nat.zero_add, Nat.reduceEqDiff, Tset1, Tset2, Tset3, wipeE, cmpD, isN, isNN, eqN, eqI, neI, eqB, neB, ltI, leI, addI, subI, intI, seqT, lenE, tupE, eqT, neT, inT, allE, anyE, isiTup, isiInt, itsT, okB, isiB, rgN (n := 4) (by decide) (by decide)]
    refine W_goT nI (fun rest env s' => Turn h c (.scr ns) env s') (fun env s' T => ⟨_, rfl, T⟩) ?_ _ _ _ ⟨_, _, _, _, _, _, _, _, _, _, _, _, _, _, _, _, rfl, H⟩
    rintro i rest env s1 ⟨d2, d3, d4, d5, d6, d7, d8, d9, d10, d11, d12, d13, d14, d15, d16, d17, rfl, H1⟩
    refine ⟨_, rfl, W.mono (show W (lawBody (env18 (.scr ns) h d2 (some (nI i)) d4 d5 d6 d7 d8 d9 d10 d11 d12 d13 d14 d15 d16 d17) s1) _ from turn_ok (i := i) (sc := .scr ns) H1) fun f s2 q => ?_⟩
    obtain ⟨e, rfl, T⟩ := q
    exact ⟨watch_nil, T⟩
  rintro e s T
  simp only [W_ok, W_m1, W_m2, W_m3, W_const, W_var, W_nil, W_cons, W_tup, W_new, W_asB, W_boolD, W_ofB, W_ite, W_not, W_and, W_or, W_chain, W_seqM, W_oNone, W_oSome, W_skip, W_brk, W_cnt, W_badF, W_seq, W_drop, W_ret, W_setN, W_set, W_par, parGo, W_setI, W_setF, W_setAs, W_meth, W_endR, W_for, W_lc, W_ext, W_rg1, rgIE, itsI, seqI, isiI, isiBl, isiNo, W_call, List.getElem?_cons_succ, List.getElem?_cons_zero, Option.getD_some, List.set_cons_succ, List.set_cons_zero, List.length_cons, List.length_nil, Nat.reduceAdd, Nat.zero_add, Nat.reduceEqDiff, Tset1, Tset2, Tset3, wipeE, cmpD, isN, isNN, eqN, eqI, neI, eqB, neB, ltI, leI, addI, subI, intI, seqT, lenE, tupE, eqT, neT, inT, allE, anyE, isiTup, isiInt, itsT, okB, isiB]
theorem law_true (ns : List Int) (h : ns.length ≤ 63) : ∃ s, bodyR (tabOf FT CT cons blt (attrsOf cs)) (runs (tabOf FT CT cons blt (attrsOf cs)) FT CT 198) F_law [.scr ns] [] = .ok (.bl true) s := by
  obtain ⟨d, s, e, hd⟩ := law_ok ns h
  subst hd
  refine ⟨s, ?_⟩
  show bodyR T (cl 198) F_law [.scr ns] [] = _
  unfold bodyR
  rw [e_law]
  exact e
end Law_k72

open PySem PySem.W PyProof.Rows in
set_option maxRecDepth 100000 in
set_option maxHeartbeats 0 in
theorem PySem.Challenge.cw_faultclear_k72_whole_faults_left_by_talk_holds : PySem.Challenge.rw_faultclear_k72_whole_faults_left_by_talk.Holds := by
  w_on; o_law; k_head; (case hw => w_witness2)
  k_fill
  refine Mini.walk (l := PySem.Challenge.rw_faultclear_k72_whole_faults_left_by_talk) rfl rfl (fun w h Y => PySem.W.kIn_of Y) ?F
  case F =>
    intro w mg fa h KX G hmg
    refine' Mini.use (Mini.fnIn_mk (key := "is_integer") (nm := "is_integer") (qual := "is_integer") (ps := ["thing"]) (N := ["thing"]) (st := Law_k72.top 1) KX G ?a_1 ?l_1 ?c_1 ?k_1 (fun _ _ _ _ _ _ us hl => match us, hl with | [_], _ => rfl) ⟨rfl, rfl, rfl, by decide +kernel, rfl, by decide +kernel, by decide +kernel⟩) ?z_1
    (case a_1 => k_is)
    (case l_1 => k_is)
    (case c_1 => k_is)
    (case k_1 => k_is)
    intro f_is_integer
    refine' Mini.use (Mini.fnIn_mk (key := "is_within") (nm := "is_within") (qual := "is_within") (ps := ["thing", "low", "high"]) (N := ["thing", "low", "high"]) (st := Law_k72.top 2) KX G ?a_2 ?l_2 ?c_2 ?k_2 (fun _ _ _ _ _ _ us hl => match us, hl with | [_, _, _], _ => rfl) ⟨rfl, rfl, rfl, by decide +kernel, rfl, by decide +kernel, by decide +kernel⟩) ?z_2
    (case a_2 => k_is)
    (case l_2 => k_is)
    (case c_2 => k_is)
    (case k_2 => k_is)
    intro f_is_within
    refine' Mini.use (Mini.fnIn_mk (key := "is_tuple") (nm := "is_tuple") (qual := "is_tuple") (ps := ["thing", "least", "most"]) (N := ["thing", "least", "most"]) (st := Law_k72.top 3) KX G ?a_3 ?l_3 ?c_3 ?k_3 (fun _ _ _ _ _ _ us hl => match us, hl with | [_, _, _], _ => rfl) ⟨rfl, rfl, rfl, by decide +kernel, rfl, by decide +kernel, by decide +kernel⟩) ?z_3
    (case a_3 => k_is)
    (case l_3 => k_is)
    (case c_3 => k_is)
    (case k_3 => k_is)
    intro f_is_tuple
    refine' Mini.use (Mini.fnIn_mk (key := "is_row") (nm := "is_row") (qual := "is_row") (ps := ["thing", "least", "most"]) (N := ["thing", "least", "most"]) (st := Law_k72.top 4) KX G ?a_4 ?l_4 ?c_4 ?k_4 (fun _ _ _ _ _ _ us hl => match us, hl with | [_, _, _], _ => rfl) ⟨rfl, rfl, rfl, by decide +kernel, rfl, by decide +kernel, by decide +kernel⟩) ?z_4
    (case a_4 => k_is)
    (case l_4 => k_is)
    (case c_4 => k_is)
    (case k_4 => k_is)
    intro f_is_row
    refine' Mini.use (Mini.fnIn_mk (key := "is_lot") (nm := "is_lot") (qual := "is_lot") (ps := ["thing", "many"]) (N := ["thing", "many", "one", "other"]) (st := Law_k72.top 5) KX G ?a_5 ?l_5 ?c_5 ?k_5 (fun _ _ _ _ _ _ us hl => match us, hl with | [_, _], _ => rfl) ⟨rfl, rfl, rfl, by decide +kernel, rfl, by decide +kernel, by decide +kernel⟩) ?z_5
    (case a_5 => k_is)
    (case l_5 => k_is)
    (case c_5 => k_is)
    (case k_5 => k_is)
    intro f_is_lot
    refine' Mini.use (Mini.fnIn_mk (key := "is_form") (nm := "is_form") (qual := "is_form") (ps := ["thing"]) (N := ["thing", "product", "many"]) (st := Law_k72.top 13) KX G ?a_6 ?l_6 ?c_6 ?k_6 (fun _ _ _ _ _ _ us hl => match us, hl with | [_], _ => rfl) ⟨rfl, rfl, rfl, by decide +kernel, rfl, by decide +kernel, by decide +kernel⟩) ?z_6
    (case a_6 => k_is)
    (case l_6 => k_is)
    (case c_6 => k_is)
    (case k_6 => k_is)
    intro f_is_form
    refine' Mini.use (Mini.fnIn_mk (key := "box_in") (nm := "box_in") (qual := "box_in") (ps := ["form", "thing"]) (N := ["form", "thing", "lot", "many"]) (st := Law_k72.top 14) KX G ?a_7 ?l_7 ?c_7 ?k_7 (fun _ _ _ _ _ _ us hl => match us, hl with | [_, _], _ => rfl) ⟨rfl, rfl, rfl, by decide +kernel, rfl, by decide +kernel, by decide +kernel⟩) ?z_7
    (case a_7 => k_is)
    (case l_7 => k_is)
    (case c_7 => k_is)
    (case k_7 => k_is)
    intro f_box_in
    refine' Mini.use (Mini.fnIn_mk (key := "held") (nm := "held") (qual := "held") (ps := ["box", "fault"]) (N := ["box", "fault", "lot", "value"]) (st := Law_k72.top 15) KX G ?a_8 ?l_8 ?c_8 ?k_8 (fun _ _ _ _ _ _ us hl => match us, hl with | [_, _], _ => rfl) ⟨rfl, rfl, rfl, by decide +kernel, rfl, by decide +kernel, by decide +kernel⟩) ?z_8
    (case a_8 => k_is)
    (case l_8 => k_is)
    (case c_8 => k_is)
    (case k_8 => k_is)
    intro f_held
    refine' Mini.use (Mini.fnIn_mk (key := "all_faults") (nm := "all_faults") (qual := "all_faults") (ps := ["form"]) (N := ["form", "found", "many", "longer", "fault", "value"]) (st := Law_k72.top 16) KX G ?a_9 ?l_9 ?c_9 ?k_9 (fun _ _ _ _ _ _ us hl => match us, hl with | [_], _ => rfl) ⟨rfl, rfl, rfl, by decide +kernel, rfl, by decide +kernel, by decide +kernel⟩) ?z_9
    (case a_9 => k_is)
    (case l_9 => k_is)
    (case c_9 => k_is)
    (case k_9 => k_is)
    intro f_all_faults
    refine' Mini.use (Mini.fnIn_mk (key := "are_rules") (nm := "are_rules") (qual := "are_rules") (ps := ["form", "thing"]) (N := ["form", "thing", "box"]) (st := Law_k72.top 19) KX G ?a_10 ?l_10 ?c_10 ?k_10 (fun _ _ _ _ _ _ us hl => match us, hl with | [_, _], _ => rfl) ⟨rfl, rfl, rfl, by decide +kernel, rfl, by decide +kernel, by decide +kernel⟩) ?z_10
    (case a_10 => k_is)
    (case l_10 => k_is)
    (case c_10 => k_is)
    (case k_10 => k_is)
    intro f_are_rules
    refine' Mini.use (Mini.fnIn_mk (key := "is_lawful") (nm := "is_lawful") (qual := "is_lawful") (ps := ["book", "fault"]) (N := ["book", "fault", "rule"]) (st := Law_k72.top 21) KX G ?a_11 ?l_11 ?c_11 ?k_11 (fun _ _ _ _ _ _ us hl => match us, hl with | [_, _], _ => rfl) ⟨rfl, rfl, rfl, by decide +kernel, rfl, by decide +kernel, by decide +kernel⟩) ?z_11
    (case a_11 => k_is)
    (case l_11 => k_is)
    (case c_11 => k_is)
    (case k_11 => k_is)
    intro f_is_lawful
    refine' Mini.use (Mini.fnIn_mk (key := "listed") (nm := "listed") (qual := "listed") (ps := ["book"]) (N := ["book", "fault"]) (st := Law_k72.top 22) KX G ?a_12 ?l_12 ?c_12 ?k_12 (fun _ _ _ _ _ _ us hl => match us, hl with | [_], _ => rfl) ⟨rfl, rfl, rfl, by decide +kernel, rfl, by decide +kernel, by decide +kernel⟩) ?z_12
    (case a_12 => k_is)
    (case l_12 => k_is)
    (case c_12 => k_is)
    (case k_12 => k_is)
    intro f_listed
    refine' Mini.use (Mini.fnIn_mk (key := "shared_by") (nm := "shared_by") (qual := "shared_by") (ps := ["report", "fault"]) (N := ["report", "fault", "one", "more"]) (st := Law_k72.top 24) KX G ?a_13 ?l_13 ?c_13 ?k_13 (fun _ _ _ _ _ _ us hl => match us, hl with | [_, _], _ => rfl) ⟨rfl, rfl, rfl, by decide +kernel, rfl, by decide +kernel, by decide +kernel⟩) ?z_13
    (case a_13 => k_is)
    (case l_13 => k_is)
    (case c_13 => k_is)
    (case k_13 => k_is)
    intro f_shared_by
    refine' Mini.use (Mini.fnIn_mk (key := "check_lies") (nm := "check_lies") (qual := "check_lies") (ps := ["lies"]) (N := ["lies"]) (st := Law_k72.top 28) KX G ?a_14 ?l_14 ?c_14 ?k_14 (fun _ _ _ _ _ _ us hl => match us, hl with | [_], _ => rfl) ⟨rfl, rfl, rfl, by decide +kernel, rfl, by decide +kernel, by decide +kernel⟩) ?z_14
    (case a_14 => k_is)
    (case l_14 => k_is)
    (case c_14 => k_is)
    (case k_14 => k_is)
    intro f_check_lies
    refine' Mini.use (Mini.fnIn_mk (key := "is_answer") (nm := "is_answer") (qual := "is_answer") (ps := ["form", "thing"]) (N := ["form", "thing"]) (st := Law_k72.top 29) KX G ?a_15 ?l_15 ?c_15 ?k_15 (fun _ _ _ _ _ _ us hl => match us, hl with | [_, _], _ => rfl) ⟨rfl, rfl, rfl, by decide +kernel, rfl, by decide +kernel, by decide +kernel⟩) ?z_15
    (case a_15 => k_is)
    (case l_15 => k_is)
    (case c_15 => k_is)
    (case k_15 => k_is)
    intro f_is_answer
    refine' Mini.use (Mini.fnIn_mk (key := "check_talk") (nm := "check_talk") (qual := "check_talk") (ps := ["form", "talk"]) (N := ["form", "talk", "number", "answer"]) (st := Law_k72.top 30) KX G ?a_16 ?l_16 ?c_16 ?k_16 (fun _ _ _ _ _ _ us hl => match us, hl with | [_, _], _ => rfl) ⟨rfl, rfl, rfl, by decide +kernel, rfl, by decide +kernel, by decide +kernel⟩) ?z_16
    (case a_16 => k_is)
    (case l_16 => k_is)
    (case c_16 => k_is)
    (case k_16 => k_is)
    intro f_check_talk
    refine' Mini.use (Mini.fnIn_mk (key := "false_at") (nm := "false_at") (qual := "false_at") (ps := ["fault", "talk"]) (N := ["fault", "talk", "number", "field", "value"]) (st := Law_k72.top 31) KX G ?a_17 ?l_17 ?c_17 ?k_17 (fun _ _ _ _ _ _ us hl => match us, hl with | [_, _], _ => rfl) ⟨rfl, rfl, rfl, by decide +kernel, rfl, by decide +kernel, by decide +kernel⟩) ?z_17
    (case a_17 => k_is)
    (case l_17 => k_is)
    (case c_17 => k_is)
    (case k_17 => k_is)
    intro f_false_at
    refine' Mini.use (Mini.fnIn_mk (key := "left_in") (nm := "left_in") (qual := "left_in") (ps := ["book", "lies", "talk"]) (N := ["book", "lies", "talk", "found", "fault", "many"]) (st := Law_k72.top 32) KX G ?a_18 ?l_18 ?c_18 ?k_18 (fun _ _ _ _ _ _ us hl => match us, hl with | [_, _, _], _ => rfl) ⟨rfl, rfl, rfl, by decide +kernel, rfl, by decide +kernel, by decide +kernel⟩) ?z_18
    (case a_18 => k_is)
    (case l_18 => k_is)
    (case c_18 => k_is)
    (case k_18 => k_is)
    intro f_left_in
    refine' Mini.use (Mini.fnIn_mk (key := "left_by") (nm := "left_by") (qual := "left_by") (ps := ["book", "lies", "talk"]) (N := ["book", "lies", "talk"]) (st := Law_k72.top 33) KX G ?a_19 ?l_19 ?c_19 ?k_19 (fun _ _ _ _ _ _ us hl => match us, hl with | [_, _, _], _ => rfl) ⟨rfl, rfl, rfl, by decide +kernel, rfl, by decide +kernel, by decide +kernel⟩) ?z_19
    (case a_19 => k_is)
    (case l_19 => k_is)
    (case c_19 => k_is)
    (case k_19 => k_is)
    intro f_left_by
    refine' Mini.use (Mini.fnIn_mk (key := "sure_by") (nm := "sure_by") (qual := "sure_by") (ps := ["book", "lies", "talk"]) (N := ["book", "lies", "talk", "left", "found", "fault", "rest"]) (st := Law_k72.top 34) KX G ?a_20 ?l_20 ?c_20 ?k_20 (fun _ _ _ _ _ _ us hl => match us, hl with | [_, _, _], _ => rfl) ⟨rfl, rfl, rfl, by decide +kernel, rfl, by decide +kernel, by decide +kernel⟩) ?z_20
    (case a_20 => k_is)
    (case l_20 => k_is)
    (case c_20 => k_is)
    (case k_20 => k_is)
    intro f_sure_by
    refine' Mini.use (Mini.fnIn_mk (key := "_law_hand") (nm := "_law_hand") (qual := "_law_hand") (ps := ["script"]) (N := ["script", "cells", "cell"]) (st := Law_k72.top 36) KX G ?a_21 ?l_21 ?c_21 ?k_21 (fun _ _ _ _ _ _ us hl => match us, hl with | [_], _ => rfl) ⟨rfl, rfl, rfl, by decide +kernel, rfl, by decide +kernel, by decide +kernel⟩) ?z_21
    (case a_21 => k_is)
    (case l_21 => k_is)
    (case c_21 => k_is)
    (case k_21 => k_is)
    intro f__law_hand
    refine' Mini.use (Mini.fnIn_mk (key := "_law_draw") (nm := "_law_draw") (qual := "_law_draw") (ps := ["hand", "limit"]) (N := ["hand", "limit", "cell", "digit", "number"]) (st := Law_k72.top 37) KX G ?a_22 ?l_22 ?c_22 ?k_22 (fun _ _ _ _ _ _ us hl => match us, hl with | [_, _], _ => rfl) ⟨rfl, rfl, rfl, by decide +kernel, rfl, by decide +kernel, by decide +kernel⟩) ?z_22
    (case a_22 => k_is)
    (case l_22 => k_is)
    (case c_22 => k_is)
    (case k_22 => k_is)
    intro f__law_draw
    refine' Mini.use (Mini.fnIn_mk (key := "_law_some") (nm := "_law_some") (qual := "_law_some") (ps := ["hand", "things"]) (N := ["hand", "things"]) (st := Law_k72.top 38) KX G ?a_23 ?l_23 ?c_23 ?k_23 (fun _ _ _ _ _ _ us hl => match us, hl with | [_, _], _ => rfl) ⟨rfl, rfl, rfl, by decide +kernel, rfl, by decide +kernel, by decide +kernel⟩) ?z_23
    (case a_23 => k_is)
    (case l_23 => k_is)
    (case c_23 => k_is)
    (case k_23 => k_is)
    intro f__law_some
    refine' Mini.use (Mini.fnIn_mk (key := "_law_form") (nm := "_law_form") (qual := "_law_form") (ps := ["hand", "fields", "most"]) (N := ["hand", "fields", "most", "found", "product", "field", "size"]) (st := Law_k72.top 39) KX G ?a_24 ?l_24 ?c_24 ?k_24 (fun _ _ _ _ _ _ us hl => match us, hl with | [_, _, _], _ => rfl) ⟨rfl, rfl, rfl, by decide +kernel, rfl, by decide +kernel, by decide +kernel⟩) ?z_24
    (case a_24 => k_is)
    (case l_24 => k_is)
    (case c_24 => k_is)
    (case k_24 => k_is)
    intro f__law_form
    refine' Mini.use (Mini.fnIn_mk (key := "_law_lot") (nm := "_law_lot") (qual := "_law_lot") (ps := ["hand", "size"]) (N := ["hand", "size", "found", "value"]) (st := Law_k72.top 40) KX G ?a_25 ?l_25 ?c_25 ?k_25 (fun _ _ _ _ _ _ us hl => match us, hl with | [_, _], _ => rfl) ⟨rfl, rfl, rfl, by decide +kernel, rfl, by decide +kernel, by decide +kernel⟩) ?z_25
    (case a_25 => k_is)
    (case l_25 => k_is)
    (case c_25 => k_is)
    (case k_25 => k_is)
    intro f__law_lot
    refine' Mini.use (Mini.fnIn_mk (key := "_law_box") (nm := "_law_box") (qual := "_law_box") (ps := ["hand", "form"]) (N := ["hand", "form", "size"]) (st := Law_k72.top 41) KX G ?a_26 ?l_26 ?c_26 ?k_26 (fun _ _ _ _ _ _ us hl => match us, hl with | [_, _], _ => rfl) ⟨rfl, rfl, rfl, by decide +kernel, rfl, by decide +kernel, by decide +kernel⟩) ?z_26
    (case a_26 => k_is)
    (case l_26 => k_is)
    (case c_26 => k_is)
    (case k_26 => k_is)
    intro f__law_box
    refine' Mini.use (Mini.fnIn_mk (key := "_law_rules") (nm := "_law_rules") (qual := "_law_rules") (ps := ["hand", "form", "most"]) (N := ["hand", "form", "most", "turn"]) (st := Law_k72.top 42) KX G ?a_27 ?l_27 ?c_27 ?k_27 (fun _ _ _ _ _ _ us hl => match us, hl with | [_, _, _], _ => rfl) ⟨rfl, rfl, rfl, by decide +kernel, rfl, by decide +kernel, by decide +kernel⟩) ?z_27
    (case a_27 => k_is)
    (case l_27 => k_is)
    (case c_27 => k_is)
    (case k_27 => k_is)
    intro f__law_rules
    refine' Mini.use (Mini.fnIn_mk (key := "_law_faults") (nm := "_law_faults") (qual := "_law_faults") (ps := ["form"]) (N := ["form", "found", "size", "longer", "fault", "value"]) (st := Law_k72.top 43) KX G ?a_28 ?l_28 ?c_28 ?k_28 (fun _ _ _ _ _ _ us hl => match us, hl with | [_], _ => rfl) ⟨rfl, rfl, rfl, by decide +kernel, rfl, by decide +kernel, by decide +kernel⟩) ?z_28
    (case a_28 => k_is)
    (case l_28 => k_is)
    (case c_28 => k_is)
    (case k_28 => k_is)
    intro f__law_faults
    refine' Mini.use (Mini.fnIn_mk (key := "_law_held") (nm := "_law_held") (qual := "_law_held") (ps := ["box", "fault"]) (N := ["box", "fault", "lot", "value"]) (st := Law_k72.top 44) KX G ?a_29 ?l_29 ?c_29 ?k_29 (fun _ _ _ _ _ _ us hl => match us, hl with | [_, _], _ => rfl) ⟨rfl, rfl, rfl, by decide +kernel, rfl, by decide +kernel, by decide +kernel⟩) ?z_29
    (case a_29 => k_is)
    (case l_29 => k_is)
    (case c_29 => k_is)
    (case k_29 => k_is)
    intro f__law_held
    refine' Mini.use (Mini.fnIn_mk (key := "_law_lawful") (nm := "_law_lawful") (qual := "_law_lawful") (ps := ["form", "rules"]) (N := ["form", "rules", "fault", "rule"]) (st := Law_k72.top 45) KX G ?a_30 ?l_30 ?c_30 ?k_30 (fun _ _ _ _ _ _ us hl => match us, hl with | [_, _], _ => rfl) ⟨rfl, rfl, rfl, by decide +kernel, rfl, by decide +kernel, by decide +kernel⟩) ?z_30
    (case a_30 => k_is)
    (case l_30 => k_is)
    (case c_30 => k_is)
    (case k_30 => k_is)
    intro f__law_lawful
    refine' Mini.use (Mini.fnIn_mk (key := "_law_few_book") (nm := "_law_few_book") (qual := "_law_few_book") (ps := ["hand", "fields", "most", "many"]) (N := ["hand", "fields", "most", "many", "turn", "form", "rules", "some"]) (st := Law_k72.top 46) KX G ?a_31 ?l_31 ?c_31 ?k_31 (fun _ _ _ _ _ _ us hl => match us, hl with | [_, _, _, _], _ => rfl) ⟨rfl, rfl, rfl, by decide +kernel, rfl, by decide +kernel, by decide +kernel⟩) ?z_31
    (case a_31 => k_is)
    (case l_31 => k_is)
    (case c_31 => k_is)
    (case k_31 => k_is)
    intro f__law_few_book
    refine' Mini.use (Mini.fnIn_mk (key := "_law_talk") (nm := "_law_talk") (qual := "_law_talk") (ps := ["hand", "form", "some", "most"]) (N := ["hand", "form", "some", "most", "fault", "found", "turn", "field"]) (st := Law_k72.top 47) KX G ?a_32 ?l_32 ?c_32 ?k_32 (fun _ _ _ _ _ _ us hl => match us, hl with | [_, _, _, _], _ => rfl) ⟨rfl, rfl, rfl, by decide +kernel, rfl, by decide +kernel, by decide +kernel⟩) ?z_32
    (case a_32 => k_is)
    (case l_32 => k_is)
    (case c_32 => k_is)
    (case k_32 => k_is)
    intro f__law_talk
    refine' Mini.use (Mini.fnIn_mk (key := "_law_left") (nm := "_law_left") (qual := "_law_left") (ps := ["some", "lies", "talk"]) (N := ["some", "lies", "talk", "found", "fault", "false", "field", "value"]) (st := Law_k72.top 48) KX G ?a_33 ?l_33 ?c_33 ?k_33 (fun _ _ _ _ _ _ us hl => match us, hl with | [_, _, _], _ => rfl) ⟨rfl, rfl, rfl, by decide +kernel, rfl, by decide +kernel, by decide +kernel⟩) ?z_33
    (case a_33 => k_is)
    (case l_33 => k_is)
    (case c_33 => k_is)
    (case k_33 => k_is)
    intro f__law_left
    refine' Mini.use (Mini.fnIn_mk (key := "_law_is") (nm := "_law_is") (qual := "_law_is") (ps := ["shown", "due"]) (N := ["shown", "due", "one", "other"]) (st := Law_k72.top 49) KX G ?a_34 ?l_34 ?c_34 ?k_34 (fun _ _ _ _ _ _ us hl => match us, hl with | [_, _], _ => rfl) ⟨rfl, rfl, rfl, by decide +kernel, rfl, by decide +kernel, by decide +kernel⟩) ?z_34
    (case a_34 => k_is)
    (case l_34 => k_is)
    (case c_34 => k_is)
    (case k_34 => k_is)
    intro f__law_is
    refine' Mini.use (Mini.fnIn_mk (key := "_law_mixed") (nm := "_law_mixed") (qual := "_law_mixed") (ps := ["hand", "things"]) (N := ["hand", "things", "left", "found"]) (st := Law_k72.top 50) KX G ?a_35 ?l_35 ?c_35 ?k_35 (fun _ _ _ _ _ _ us hl => match us, hl with | [_, _], _ => rfl) ⟨rfl, rfl, rfl, by decide +kernel, rfl, by decide +kernel, by decide +kernel⟩) ?z_35
    (case a_35 => k_is)
    (case l_35 => k_is)
    (case c_35 => k_is)
    (case k_35 => k_is)
    intro f__law_mixed
    refine' Mini.use (Mini.fnIn_mk (key := "_law_answered") (nm := "_law_answered") (qual := "_law_answered") (ps := ["standing", "field", "value"]) (N := ["standing", "field", "value", "found", "fault", "left"]) (st := Law_k72.top 51) KX G ?a_36 ?l_36 ?c_36 ?k_36 (fun _ _ _ _ _ _ us hl => match us, hl with | [_, _, _], _ => rfl) ⟨rfl, rfl, rfl, by decide +kernel, rfl, by decide +kernel, by decide +kernel⟩) ?z_36
    (case a_36 => k_is)
    (case l_36 => k_is)
    (case c_36 => k_is)
    (case k_36 => k_is)
    intro f__law_answered
    refine' Mini.use (Mini.fnIn_mk (key := "_law_common") (nm := "_law_common") (qual := "_law_common") (ps := ["form", "faults"]) (N := ["form", "faults", "first", "field", "fault"]) (st := Law_k72.top 52) KX G ?a_37 ?l_37 ?c_37 ?k_37 (fun _ _ _ _ _ _ us hl => match us, hl with | [_, _], _ => rfl) ⟨rfl, rfl, rfl, by decide +kernel, rfl, by decide +kernel, by decide +kernel⟩) ?z_37
    (case a_37 => k_is)
    (case l_37 => k_is)
    (case c_37 => k_is)
    (case k_37 => k_is)
    intro f__law_common
    refine' Mini.use (Mini.fnIn_mk (key := "law") (nm := "law") (qual := "law") (ps := ["script"]) (N := ["script", "hand", "known", "turn", "form", "rules", "some", "book", "lies", "talk", "due", "told", "field", "value", "later", "more", "fault", "left"]) (st := Law_k72.top 53) KX G ?a_38 ?l_38 ?c_38 ?k_38 (fun _ _ _ _ _ _ us hl => match us, hl with | [_], _ => rfl) ⟨rfl, rfl, rfl, by decide +kernel, rfl, by decide +kernel, by decide +kernel⟩) ?z_38
    (case a_38 => k_is)
    (case l_38 => k_is)
    (case c_38 => k_is)
    (case k_38 => k_is)
    intro f_law
    refine' Mini.use (Mini.clsIn_mk (key := "Book") (nm := "__init__") (qual := "Book.__init__") (ps := ["self", "form", "rules"]) (N := ["self", "form", "rules"]) (st := L2.inClass (Law_k72.top 20) 0) KX G ?a0_39 ?a_39 ?i_39 ?l_39 ?c_39 ?k_39 ?mk_39 ?kc_39 (fun _ _ _ _ _ _ us hl => match us, hl with | [_, _, _], _ => rfl) ⟨rfl, rfl, rfl, by decide +kernel, rfl, by decide +kernel, by decide +kernel⟩ (by decide)) ?z_39
    (case a0_39 => k_is)
    (case a_39 => k_is)
    (case i_39 => k_is)
    (case l_39 => k_is)
    (case c_39 => k_is)
    (case k_39 => k_is)
    (case mk_39 => k_is)
    (case kc_39 => k_is)
    intro c_Book
    refine' Mini.use (Mini.attrIn_mk (C := "Book") (fs := ["listed", "form", "rules"]) KX G ?a0_40 ?pg_40 ?hd_40 ?po_40 ?sa_40 (Mini.all_cons ?n0_40 (Mini.all_cons ?n1_40 (Mini.all_cons ?n2_40 (Mini.all_nil))))) ?z_40
    (case a0_40 => k_is)
    (case pg_40 => k_is)
    (case hd_40 => k_is)
    (case po_40 => k_is)
    (case sa_40 => k_is)
    (case n0_40 => k_is)
    (case n1_40 => k_is)
    (case n2_40 => k_is)
    intro t_Book
    refine' Mini.use (Mini.con_mk (x := "MOST_FAULTS") (i := 4000) KX G ?a_41) ?z_41
    (case a_41 => k_is)
    intro v_MOST_FAULTS
    refine' Mini.use (Mini.con_mk (x := "MOST_RULES") (i := 40) KX G ?a_42) ?z_42
    (case a_42 => k_is)
    intro v_MOST_RULES
    refine' Mini.use (Mini.con_mk (x := "MOST_LIES") (i := 3) KX G ?a_43) ?z_43
    (case a_43 => k_is)
    intro v_MOST_LIES
    refine' Mini.use (Mini.con_mk (x := "MOST_TALK") (i := 40) KX G ?a_44) ?z_44
    (case a_44 => k_is)
    intro v_MOST_TALK
    refine' Mini.use (Mini.none_mk (x := "abs") KX G ?a_45) ?z_45
    (case a_45 => k_is)
    intro n_abs
    refine' Mini.use (Mini.none_mk (x := "all") KX G ?a_46) ?z_46
    (case a_46 => k_is)
    intro n_all
    refine' Mini.use (Mini.none_mk (x := "any") KX G ?a_47) ?z_47
    (case a_47 => k_is)
    intro n_any
    refine' Mini.use (Mini.none_mk (x := "bool") KX G ?a_48) ?z_48
    (case a_48 => k_is)
    intro n_bool
    refine' Mini.use (Mini.none_mk (x := "dict") KX G ?a_49) ?z_49
    (case a_49 => k_is)
    intro n_dict
    refine' Mini.use (Mini.none_mk (x := "enumerate") KX G ?a_50) ?z_50
    (case a_50 => k_is)
    intro n_enumerate
    refine' Mini.use (Mini.none_mk (x := "int") KX G ?a_51) ?z_51
    (case a_51 => k_is)
    intro n_int
    refine' Mini.use (Mini.none_mk (x := "isinstance") KX G ?a_52) ?z_52
    (case a_52 => k_is)
    intro n_isinstance
    refine' Mini.use (Mini.none_mk (x := "len") KX G ?a_53) ?z_53
    (case a_53 => k_is)
    intro n_len
    refine' Mini.use (Mini.none_mk (x := "list") KX G ?a_54) ?z_54
    (case a_54 => k_is)
    intro n_list
    refine' Mini.use (Mini.none_mk (x := "range") KX G ?a_55) ?z_55
    (case a_55 => k_is)
    intro n_range
    refine' Mini.use (Mini.none_mk (x := "str") KX G ?a_56) ?z_56
    (case a_56 => k_is)
    intro n_str
    refine' Mini.use (Mini.none_mk (x := "tuple") KX G ?a_57) ?z_57
    (case a_57 => k_is)
    intro n_tuple
    refine' Mini.use (Mini.none_mk (x := "zip") KX G ?a_58) ?z_58
    (case a_58 => k_is)
    intro n_zip
    have TO := Mini.tab_mk (FT := Law_k72.FT) (CT := Law_k72.CT) (cons := Law_k72.cons) (blt := Law_k72.blt) (cs := Law_k72.cs) (Mini.all_cons v_MOST_FAULTS (Mini.all_cons v_MOST_RULES (Mini.all_cons v_MOST_LIES (Mini.all_cons v_MOST_TALK (Mini.all_nil))))) (Mini.all_cons n_abs (Mini.all_cons n_all (Mini.all_cons n_any (Mini.all_cons n_bool (Mini.all_cons n_dict (Mini.all_cons n_enumerate (Mini.all_cons n_int (Mini.all_cons n_isinstance (Mini.all_cons n_len (Mini.all_cons n_list (Mini.all_cons n_range (Mini.all_cons n_str (Mini.all_cons n_tuple (Mini.all_cons n_zip (Mini.all_nil))))))))))))))) (Mini.all_cons t_Book (Mini.all_nil))
    exact Mini.law_fn (F := Law_k72.F_law) TO (Mini.all_cons f_is_integer (Mini.all_cons f_is_within (Mini.all_cons f_is_tuple (Mini.all_cons f_is_row (Mini.all_cons f_is_lot (Mini.all_cons f_is_form (Mini.all_cons f_box_in (Mini.all_cons f_held (Mini.all_cons f_all_faults (Mini.all_cons f_are_rules (Mini.all_cons f_is_lawful (Mini.all_cons f_listed (Mini.all_cons f_shared_by (Mini.all_cons f_check_lies (Mini.all_cons f_is_answer (Mini.all_cons f_check_talk (Mini.all_cons f_false_at (Mini.all_cons f_left_in (Mini.all_cons f_left_by (Mini.all_cons f_sure_by (Mini.all_cons f__law_hand (Mini.all_cons f__law_draw (Mini.all_cons f__law_some (Mini.all_cons f__law_form (Mini.all_cons f__law_lot (Mini.all_cons f__law_box (Mini.all_cons f__law_rules (Mini.all_cons f__law_faults (Mini.all_cons f__law_held (Mini.all_cons f__law_lawful (Mini.all_cons f__law_few_book (Mini.all_cons f__law_talk (Mini.all_cons f__law_left (Mini.all_cons f__law_is (Mini.all_cons f__law_mixed (Mini.all_cons f__law_answered (Mini.all_cons f__law_common (Mini.all_cons f_law (Mini.all_nil))))))))))))))))))))))))))))))))))))))) (Mini.all_cons c_Book (Mini.all_nil)) (by unfold Law_k72.FT; simp) hmg rfl Law_k72.law_true
