import PyProof.Rows.All
import Wide.All
import OpenK.AllK
import Wide.FinOn
import HandS.ForMost
import HandS.Exc
import HandS.ExcOwn
import HandS.TryOnly
import HandS.WordsExc
import HandS.CallSlots
import HandS.Defaults
import HandS.HeadHook1
import HandS.HeadHook2
import KE.KeyNested
import KE.KDictKeyed
import HandS.Lambda
import HandS.TupAny
import HandS.TupLe
import HandS.Wide
import HandS.IsInst
import PyProof.NeKinds
import HandS.Property
import HandS.Conv
import HandS.ExcSuper
import HandS.Zip
import KE.KExcSuper
import KE.KSuper
import KE.KExcIs
import KE.KExcInit
import HandS.HeadWalk
import HandS.Small
import HandS.Flow
import HandS.MakeKwOnly
import HandS.More
import PyProof.InstEq
import PyProof.ReprRoads
import PyProof.ReprBulk
import OpenK.KOwn
import HandS.EndTab
import HandS.HeadHook4
import HandS.Head0
import HandS.Head1
import HandS.Head2
import PySem.Challenge.RW_sentonward_k41_far_addresses_made
set_option Elab.async false
set_option linter.all false
set_option maxRecDepth 100000
set_option maxHeartbeats 0
/-! L3: pure data over HandS. A value is D (tuples and objects that never change are data); the heap T holds what changes. -/
namespace L3
open PySem PySem.Spec L2
open PyProof.Rows hiding St

/-- a value as data -/
inductive D where
  | non | bl (b : Bool) | int (i : Int) | str (x : Str) | ref (a : Addr) | tup (ds : List D) | ob (c : Str) (fs : List (Str × D)) | exc (a d : Addr) (c : Str) (fs : List (Str × D)) | lam (f c : Addr) (q : Str) (ds : List D) (vs : List V)
/-- what changes: a list, a list that is only read, a dict, an instance -/
inductive O where
  | lst (xs : List D) | rol (xs : List D) | dct (kvs : List (D × D)) | ins (c : Str) (fs : List (Str × D)) | tab (q : Str)
abbrev T3 := Addr → Option O
def updT (T : T3) (a : Addr) (o : O) : T3 := fun b => if b = a then some o else T b
theorem updT_same {T : T3} {a : Addr} {o : O} : updT T a o a = some o := if_pos rfl
theorem updT_ne {T : T3} {a b : Addr} {o : O} (h : b ≠ a) : updT T a o b = T b := if_neg h
theorem updT_upd {T : T3} {a : Addr} {o u : O} : updT (updT T a o) a u = updT T a u := by
  funext b; unfold updT; split <;> rfl

mutual
/-- v is d -/
inductive Rep (K : PySem.W.Frag) (T : T3) (H : Hp) : D → V → Prop
  | non : Rep K T H .non .non
  | bl (b : Bool) : Rep K T H (.bl b) (.bl b)
  | int (i : Int) : Rep K T H (.int i) (.int i)
  | str (x : Str) : Rep K T H (.str x) (.str x)
  | ref (a : Addr) : Rep K T H (.ref a) (.ref a)
  | tup {a : Addr} {xs : List V} {ds : List D} : SqT K H a xs → (T a = none ∨ ∀ H', SqT K H' a xs) → RepL K T H ds xs → Rep K T H (.tup ds) (.ref a)
  | ob {a dx : Addr} {gs : List (Str × V)} {c : Str} {fs : List (Str × D)} : T a = none → H a = some (.ins (He.ga K c) dx gs) → RepF K T H fs gs → Rep K T H (.ob c fs) (.ref a)
  | lam {f c : Addr} {q : Str} {ds : List D} {vs : List V} : T c = none → H c = some (LamX.CodeO c q) → RepL K T H ds vs → Rep K T H (.lam f c q ds vs) (.ref f)
  | exc {a d : Addr} {gs : List (Str × V)} {c : Str} {fs : List (Str × D)} : T d = none → H d = some (.xd gs) → RepF K T H fs gs → Rep K T H (.exc a d c fs) (.ref a)
inductive RepL (K : PySem.W.Frag) (T : T3) (H : Hp) : List D → List V → Prop
  | nil : RepL K T H [] []
  | cons {d : D} {v : V} {ds : List D} {vs : List V} : Rep K T H d v → RepL K T H ds vs → RepL K T H (d :: ds) (v :: vs)
inductive RepF (K : PySem.W.Frag) (T : T3) (H : Hp) : List (Str × D) → List (Str × V) → Prop
  | nil : RepF K T H [] []
  | cons {f : Str} {d : D} {v : V} {ds : List (Str × D)} {vs : List (Str × V)} : Rep K T H d v → RepF K T H ds vs → RepF K T H ((f, d) :: ds) ((f, v) :: vs)
end
/-- what is not tracked in T stands, and stays untracked -/
def Step (T : T3) (H : Hp) (T' : T3) (H' : Hp) : Prop := ∀ a o, T a = none → H a = some o → T' a = none ∧ H' a = some o
theorem Step.refl (T : T3) (H : Hp) : Step T H T H := fun _ _ a b => ⟨a, b⟩
theorem Step.trans {T T1 T2 : T3} {H H1 H2 : Hp} (a : Step T H T1 H1) (b : Step T1 H1 T2 H2) : Step T H T2 H2 := fun c o h1 h2 => b c o (a c o h1 h2).1 (a c o h1 h2).2
section
variable {K : PySem.W.Frag} {T T' : T3} {H H' : Hp}
theorem sqT_step {a : Addr} {xs : List V} (s : Step T H T' H') (h : SqT K H a xs) (t : T a = none ∨ ∀ H', SqT K H' a xs) : SqT K H' a xs ∧ (T' a = none ∨ ∀ H', SqT K H' a xs) := by
  rcases t with t | t
  · rcases h with (h | ⟨o, h⟩) | h
    · exact ⟨.inl (.inl (s _ _ t h).2), .inl (s _ _ t h).1⟩
    · exact ⟨.inl (.inr ⟨o, (s _ _ t h).2⟩), .inl (s _ _ t h).1⟩
    · exact ⟨.inr h, .inr fun _ => .inr h⟩
  · exact ⟨t _, .inr t⟩
mutual
theorem Rep.step (s : Step T H T' H') : ∀ {d : D} {v : V}, Rep K T H d v → Rep K T' H' d v
  | _, _, .non => .non
  | _, _, .bl b => .bl b
  | _, _, .int i => .int i
  | _, _, .str x => .str x
  | _, _, .ref a => .ref a
  | _, _, .tup h t r => .tup (sqT_step s h t).1 (sqT_step s h t).2 (RepL.step s r)
  | _, _, .ob t h r => .ob (s _ _ t h).1 (s _ _ t h).2 (RepF.step s r)
  | _, _, .exc t h r => .exc (s _ _ t h).1 (s _ _ t h).2 (RepF.step s r)
  | _, _, .lam t h r => .lam (s _ _ t h).1 (s _ _ t h).2 (RepL.step s r)
theorem RepL.step (s : Step T H T' H') : ∀ {ds : List D} {vs : List V}, RepL K T H ds vs → RepL K T' H' ds vs
  | _, _, .nil => .nil
  | _, _, .cons a b => .cons (Rep.step s a) (RepL.step s b)
theorem RepF.step (s : Step T H T' H') : ∀ {ds : List (Str × D)} {vs : List (Str × V)}, RepF K T H ds vs → RepF K T' H' ds vs
  | _, _, .nil => .nil
  | _, _, .cons a b => .cons (Rep.step s a) (RepF.step s b)
end
theorem RepL.length {ds : List D} {vs : List V} : RepL K T H ds vs → ds.length = vs.length := by
  induction ds generalizing vs with
  | nil => intro h; cases h; rfl
  | cons d ds ih => intro h; cases h with | cons a b => simp [ih b]
theorem RepL.get {ds : List D} {vs : List V} {i : Nat} {d : D} (h : RepL K T H ds vs) (e : ds[i]? = some d) : ∃ v, vs[i]? = some v ∧ Rep K T H d v := by
  induction ds generalizing vs i with
  | nil => simp at e
  | cons x ds ih =>
    cases h with
    | cons a b =>
      cases i with
      | zero => simp at e; subst e; exact ⟨_, rfl, a⟩
      | succ i => simpa using ih b (by simpa using e)
theorem RepL.getV {ds : List D} {vs : List V} {i : Nat} {v : V} (h : RepL K T H ds vs) (e : vs[i]? = some v) : ∃ d, ds[i]? = some d ∧ Rep K T H d v := by
  induction ds generalizing vs i with
  | nil => cases h; simp at e
  | cons x ds ih =>
    cases h with
    | cons a b =>
      cases i with
      | zero => simp at e; subst e; exact ⟨_, rfl, a⟩
      | succ i => simpa using ih b (by simpa using e)
theorem RepL.append {ds es : List D} {vs ws : List V} (h : RepL K T H ds vs) (k : RepL K T H es ws) : RepL K T H (ds ++ es) (vs ++ ws) := by
  induction ds generalizing vs with
  | nil => cases h; exact k
  | cons x ds ih => cases h with | cons a b => exact .cons a (ih b)
theorem RepL.take {ds : List D} {vs : List V} (n : Nat) (h : RepL K T H ds vs) : RepL K T H (ds.take n) (vs.take n) := by
  induction ds generalizing vs n with
  | nil => cases h; simp; exact .nil
  | cons x ds ih =>
    cases h with
    | cons a b =>
      cases n with
      | zero => exact .nil
      | succ n => exact .cons a (ih n b)
theorem RepL.drop {ds : List D} {vs : List V} (n : Nat) (h : RepL K T H ds vs) : RepL K T H (ds.drop n) (vs.drop n) := by
  induction ds generalizing vs n with
  | nil => cases h; simp; exact .nil
  | cons x ds ih =>
    cases h with
    | cons a b =>
      cases n with
      | zero => exact .cons a b
      | succ n => exact ih n b
theorem RepL.reverse {ds : List D} {vs : List V} (h : RepL K T H ds vs) : RepL K T H ds.reverse vs.reverse := by
  induction ds generalizing vs with
  | nil => cases h; exact .nil
  | cons x ds ih => cases h with | cons a b => simp only [List.reverse_cons]; exact (ih b).append (.cons a .nil)
theorem RepL.set {ds : List D} {vs : List V} {d : D} {v : V} (n : Nat) (h : RepL K T H ds vs) (r : Rep K T H d v) : RepL K T H (ds.set n d) (vs.set n v) := by
  induction ds generalizing vs n with
  | nil => cases h; exact .nil
  | cons x ds ih =>
    cases h with
    | cons a b =>
      cases n with
      | zero => exact .cons r b
      | succ n => exact .cons a (ih n b)
theorem RepL.one {d : D} {vs : List V} (h : RepL K T H [d] vs) : ∃ v, vs = [v] ∧ Rep K T H d v := by
  cases h with | cons a b => cases b; exact ⟨_, rfl, a⟩
theorem RepF.lookup {fs : List (Str × D)} {gs : List (Str × V)} {f : Str} {d : D} (h : RepF K T H fs gs) (e : fs.lookup f = some d) : ∃ v, gs.lookup f = some v ∧ Rep K T H d v := by
  induction fs generalizing gs with
  | nil => simp at e
  | cons p fs ih =>
    cases h with
    | cons a b =>
      rw [List.lookup_cons] at e ⊢
      split at e
      · cases e; exact ⟨_, rfl, a⟩
      · exact ih b e
theorem RepF.lookup_none {fs : List (Str × D)} {gs : List (Str × V)} {f : Str} (h : RepF K T H fs gs) (e : fs.lookup f = none) : gs.lookup f = none := by
  induction fs generalizing gs with
  | nil => cases h; rfl
  | cons p fs ih =>
    cases h with
    | cons a b =>
      rw [List.lookup_cons] at e ⊢
      split at e
      · cases e
      · exact ih b e
theorem RepF.length {fs : List (Str × D)} {gs : List (Str × V)} (h : RepF K T H fs gs) : fs.length = gs.length := by
  induction fs generalizing gs with
  | nil => cases h; rfl
  | cons p fs ih => cases h with | cons a b => simp [ih b]
end
/-- a store into an instance -/
def putD (f : Str) (d : D) : List (Str × D) → List (Str × D)
  | [] => [(f, d)]
  | (g, e) :: r => if g = f then (g, d) :: r else (g, e) :: putD f d r
theorem RepF.put {K : PySem.W.Frag} {T : T3} {H : Hp} {f : Str} {d : D} {v : V} (r : Rep K T H d v) : ∀ {fs : List (Str × D)} {gs : List (Str × V)}, RepF K T H fs gs → RepF K T H (putD f d fs) (putF f v gs)
  | _, _, .nil => .cons r .nil
  | _, _, .cons (f := g) a b => by
    unfold putD putF
    by_cases e : g = f
    · rw [if_pos e, if_pos e]; exact RepF.cons r b
    · rw [if_neg e, if_neg e]; exact .cons a (RepF.put r b)


/-- a key as the library's nested key -/
def nkOf : D → Option NestedKey
  | .non => some .none
  | .bl b => some (.num (if b then 1 else 0))
  | .int i => some (.num i)
  | .str x => some (.text x)
  | .tup ds => (nkAll ds).map .tup
  | _ => none
where nkAll : List D → Option (List NestedKey)
  | [] => some []
  | d :: ds => (nkOf d).bind fun a => (nkAll ds).map (a :: ·)
/-- a key of an int or a text -/
def keyOf : D → Option Key
  | .int i => some (.inl i)
  | .str x => some (.inr x)
  | _ => none
/-- the raw object of a dict whose keys are tuples -/
def DRaw (P : Program) (w : World) (a : Addr) (xs : List (NestedKey × Addr × Value)) (h : Heap) : Prop :=
  ∃ o es ep, h.get? a = some o ∧ o.ExactDict ∧ o.data = .dict es ep ∧ es.toList = xs.map (entryOfKey (nestedKind P w))
section
variable (P : Program) (w : World) (K : PySem.W.Frag)
/-- a dict stands at a -/
def DR (T : T3) (H : Hp) (a : Addr) (kvs : List (D × D)) : Prop :=
  (∃ kv : List (Key × V), H a = some (.dK kv) ∧ Paired (fun (p : D × D) (q : Key × V) => keyOf p.1 = some q.1 ∧ Rep K T H p.2 q.2) kvs kv) ∨
  (∃ xs : List (NestedKey × Addr × Value), kvs ≠ [] ∧ H a = some (.ext (DRaw P w a xs)) ∧ (xs.map (·.1)).Nodup ∧ (a == sysModules) = false ∧ xs.length ≤ sizeLine ∧
    Paired (fun (p : D × D) (x : NestedKey × Addr × Value) => nkOf p.1 = some x.1 ∧ x.1.depth ≤ 8 ∧ Rep K T H p.1 (.ref x.2.1) ∧ ∃ v, RelV v x.2.2 ∧ Rep K T H p.2 v) kvs xs)
/-- a table of code objects (a lambda's maker writes it) -/
def RepT (T : T3) (H : Hp) (a : Addr) (q : Str) : Prop := ∃ ps : Array Value, H a = some (.tbl ps) ∧ TriplesOk ps.toList ∧ ∀ (pos : Pos) (cv : Value), codeAmong pos ps.toList = some cv → ∃ c, cv = .ref c ∧ H c = some (LamX.CodeO c q) ∧ T c = none
def RepO (T : T3) (H : Hp) (a : Addr) : O → Prop
  | .tab q => RepT T H a q
  | .lst ds => ∃ xs, H a = some (.lst xs) ∧ RepL K T H ds xs
  | .rol ds => ∃ xs o, H a = some (.frz o (.lst xs)) ∧ RepL K T H ds xs
  | .dct kvs => DR P w K T H a kvs
  | .ins c fs => ∃ dx gs, H a = some (.ins (He.ga K c) dx gs) ∧ RepF K T H fs gs
def RepH (T : T3) (H : Hp) : Prop := ∀ a o, T a = some o → RepO P w K T H a o
end
section
variable {P : Program} {w : World} {K : PySem.W.Frag} {T T' : T3} {H H' : Hp} {a b : Addr} {o : O}
theorem RepO.there (h : RepO P w K T H a o) : ∃ u, H a = some u := by
  cases o with
  | lst ds => obtain ⟨_, e, _⟩ := h; exact ⟨_, e⟩
  | rol ds => obtain ⟨_, _, e, _⟩ := h; exact ⟨_, e⟩
  | dct kvs =>
    rcases h with ⟨_, e, _⟩ | ⟨_, _, e, _⟩
    · exact ⟨_, e⟩
    · exact ⟨_, e⟩
  | ins c fs => obtain ⟨_, _, e, _⟩ := h; exact ⟨_, e⟩
  | tab q => obtain ⟨_, e, _⟩ := h; exact ⟨_, e⟩
/-- the contents are carried over; the object itself stands -/
theorem RepO.step (s : Step T H T' H') (k : ∀ u, H a = some u → H' a = some u) (h : RepO P w K T H a o) : RepO P w K T' H' a o := by
  cases o with
  | lst ds => obtain ⟨xs, e, r⟩ := h; exact ⟨xs, k _ e, r.step s⟩
  | rol ds => obtain ⟨xs, u, e, r⟩ := h; exact ⟨xs, u, k _ e, r.step s⟩
  | dct kvs =>
    rcases h with ⟨kv, e, r⟩ | ⟨xs, n, e, nd, sm, sz, r⟩
    · exact .inl ⟨kv, k _ e, Paired.mapP r fun p q z => ⟨z.1, z.2.step s⟩⟩
    · exact .inr ⟨xs, n, k _ e, nd, sm, sz, Paired.mapP r fun p q ⟨z1, z2, z3, v, z4, z5⟩ => ⟨z1, z2, z3.step s, v, z4, z5.step s⟩⟩
  | ins c fs => obtain ⟨dx, gs, e, r⟩ := h; exact ⟨dx, gs, k _ e, r.step s⟩
  | tab q =>
    obtain ⟨ps, e, t, r⟩ := h
    refine ⟨ps, k _ e, t, fun pos cv z => ?_⟩
    obtain ⟨c, e1, e2, e3⟩ := r pos cv z
    exact ⟨c, e1, (s c _ e3 e2).2, (s c _ e3 e2).1⟩
theorem RepH.free (h : RepH P w K T H) (e : H a = none) : T a = none := by
  cases q : T a with
  | none => rfl
  | some o =>
    obtain ⟨u, e'⟩ := (h a o q).there
    rw [e] at e'; cases e'
/-- a new object, tracked -/
theorem Step.new {o' : HO} (h : RepH P w K T H) (n : H a = none) : Step T H (updT T a o) (upd H a o') := fun b u e1 e2 => by
  have ne : b ≠ a := ne_of_none e2 n
  exact ⟨by rw [updT_ne ne]; exact e1, by rw [upd_ne ne]; exact e2⟩
/-- a new object, not tracked -/
theorem Step.newU {o' : HO} (n : H a = none) : Step T H T (upd H a o') := fun b u e1 e2 => by
  have ne : b ≠ a := ne_of_none e2 n
  exact ⟨e1, by rw [upd_ne ne]; exact e2⟩
/-- a tracked object, changed -/
theorem Step.write {o' : HO} {u : O} (e : T a = some u) : Step T H (updT T a o) (upd H a o') := fun b v e1 e2 => by
  have ne : b ≠ a := fun z => by rw [z, e] at e1; cases e1
  exact ⟨by rw [updT_ne ne]; exact e1, by rw [upd_ne ne]; exact e2⟩
theorem RepH.upd {o' : HO} (h : RepH P w K T H) (s : Step T H (updT T a o) (upd H a o')) (r : RepO P w K (updT T a o) (upd H a o') a o) : RepH P w K (updT T a o) (upd H a o') := fun b u e => by
  by_cases hb : b = a
  · subst hb; rw [updT_same] at e; cases e; exact r
  · rw [updT_ne hb] at e
    exact (h b u e).step s fun v q => by rw [upd_ne hb]; exact q
theorem RepH.newU {o' : HO} (h : RepH P w K T H) (n : H a = none) : RepH P w K T (L2.upd H a o') := fun b u e => by
  obtain ⟨z, q⟩ := (h b u e).there
  exact (h b u e).step (Step.newU n) fun v q' => by rw [upd_ne (ne_of_none q n)]; exact q'
end

/-! ### slots -/
abbrev St3 := List (Option D)
def RepS (K : PySem.W.Frag) (T : T3) (H : Hp) (σ3 : St3) (σ : St) : Prop := σ3.length = σ.length ∧ ∀ (i : Nat) (d : D), σ3[i]? = some (some d) → ∃ v, σ[i]? = some (some v) ∧ Rep K T H d v
theorem RepS.step {K : PySem.W.Frag} {T T' : T3} {H H' : Hp} {σ3 : St3} {σ : St} (s : Step T H T' H') (h : RepS K T H σ3 σ) : RepS K T' H' σ3 σ :=
  ⟨h.1, fun i d e => let ⟨v, a, b⟩ := h.2 i d e; ⟨v, a, b.step s⟩⟩
theorem RepS.set {K : PySem.W.Frag} {T : T3} {H : Hp} {σ3 : St3} {σ : St} {i : Nat} {d : D} {v : V} (h : RepS K T H σ3 σ) (r : Rep K T H d v) : RepS K T H (σ3.set i (some d)) (σ.set i (some v)) := by
  refine ⟨by simp [h.1], fun j e q => ?_⟩
  by_cases hj : i = j
  · subst hj
    by_cases hl : i < σ3.length
    · rw [List.getElem?_set_self hl] at q
      cases q
      exact ⟨v, by rw [List.getElem?_set_self (by rw [← h.1]; exact hl)], r⟩
    · rw [List.getElem?_eq_none (by simpa using hl)] at q; cases q
  · rw [List.getElem?_set_ne hj] at q ⊢
    exact h.2 j e q
theorem RepS.unset {K : PySem.W.Frag} {T : T3} {H : Hp} {σ3 : St3} {σ : St} {i : Nat} (h : RepS K T H σ3 σ) : RepS K T H (σ3.set i none) (σ.set i none) := by
  refine ⟨by simp [h.1], fun j e q => ?_⟩
  by_cases hj : i = j
  · subst hj
    by_cases hl : i < σ3.length
    · rw [List.getElem?_set_self hl] at q
      cases q
    · rw [List.getElem?_eq_none (by simpa using hl)] at q; cases q
  · rw [List.getElem?_set_ne hj] at q ⊢
    exact h.2 j e q
theorem RepS.forget {K : PySem.W.Frag} {T : T3} {H : Hp} {σ3 : St3} {σ : St} {i : Nat} (h : RepS K T H σ3 σ) : RepS K T H (σ3.set i none) σ := by
  refine ⟨by simp [h.1], fun j e q => ?_⟩
  by_cases hj : i = j
  · subst hj
    by_cases hl : i < σ3.length
    · rw [List.getElem?_set_self hl] at q
      cases q
    · rw [List.getElem?_eq_none (by simpa using hl)] at q; cases q
  · rw [List.getElem?_set_ne hj] at q
    exact h.2 j e q
def start3 (N : List Str) (ds : List D) : St3 := ds.map some ++ List.replicate (N.length - ds.length) none
theorem RepS.start {K : PySem.W.Frag} {T : T3} {H : Hp} {N : List Str} {ds : List D} {vs : List V} (r : RepL K T H ds vs) : RepS K T H (start3 N ds) (L2.start N vs) := by
  have hl := r.length
  refine ⟨by simp [start3, L2.start, hl], fun i d e => ?_⟩
  unfold start3 at e
  unfold L2.start
  by_cases hi : i < ds.length
  · rw [List.getElem?_append_left (by simpa using hi)] at e
    rw [List.getElem?_append_left (by simpa [← hl] using hi)]
    rw [List.getElem?_map] at e ⊢
    cases q : ds[i]? with
    | none => rw [q] at e; cases e
    | some d' =>
      rw [q] at e
      obtain ⟨v, a, b⟩ := r.get q
      cases e
      exact ⟨v, by rw [a]; rfl, b⟩
  · rw [List.getElem?_append_right (by simpa using hi), List.getElem?_replicate] at e
    split at e <;> cases e

/-! ### readings -/
/-- an exception: its class, its fields, the heap behind it -/
abbrev EX3 := Str → List (Str × D) → T3 → Prop
abbrev Rd3 (α : Type) := EX3 → St3 → T3 → (α → T3 → Prop) → Prop
abbrev TE3 := Rd3 D
structure Ends3 where
  nx : St3 → T3 → Prop
  rt : D → T3 → Prop
  bk : St3 → T3 → Prop := fun _ _ => False
  ct : St3 → T3 → Prop := fun _ _ => False
  ex : Str → List (Str × D) → St3 → T3 → Prop := fun _ _ _ _ => False
abbrev TS3 := Ends3 → St3 → T3 → Prop

/-- the state of a reading, tied to the layer below -/
structure At {α β : Type} (P : Program) (w : World) (K : PySem.W.Frag) (rel : T3 → Hp → α → β → Prop) (W : WX) (σ : St) (H : Hp) (Q : β → Hp → Prop) (E : EX3) (σ3 : St3) (T : T3) (R : α → T3 → Prop) : Prop where
  rs : RepS K T H σ3 σ
  rh : RepH P w K T H
  q : ∀ d T' v H', R d T' → Step T H T' H' → RepH P w K T' H' → rel T' H' d v → Q v H'
  x : ∀ c fs T' d gs H', E c fs T' → Step T H T' H' → RepH P w K T' H' → H' d = some (.xd gs) → RepF K T' H' fs gs → W (.ref (He.ga K c)) (some d) σ H'
section
variable {α β γ δ : Type} {P : Program} {w : World} {K : PySem.W.Frag} {rel : T3 → Hp → α → β → Prop} {rel' : T3 → Hp → γ → δ → Prop} {W : WX} {σ : St} {H H' : Hp} {Q : β → Hp → Prop} {E : EX3} {σ3 : St3} {T T' : T3} {R : α → T3 → Prop}
theorem At.next (A : At P w K rel W σ H Q E σ3 T R) (s : Step T H T' H') (h : RepH P w K T' H') : At P w K rel W σ H' Q E σ3 T' R :=
  ⟨A.rs.step s, h, fun d T2 v H2 a b c e => A.q d T2 v H2 a (s.trans b) c e, fun c fs T2 d gs H2 a b e f g => A.x c fs T2 d gs H2 a (s.trans b) e f g⟩
/-- one part of it, then the rest -/
theorem At.sub (A : At P w K rel W σ H Q E σ3 T R) {Q' : δ → Hp → Prop} {R' : γ → T3 → Prop} (h : ∀ d T' v H', At P w K rel W σ H' Q E σ3 T' R → Step T H T' H' → R' d T' → rel' T' H' d v → Q' v H') : At P w K rel' W σ H Q' E σ3 T R' :=
  ⟨A.rs, A.rh, fun d T2 v H2 a b c e => h d T2 v H2 (A.next b c) b a e, A.x⟩
theorem At.fin (A : At P w K rel W σ H Q E σ3 T R) {d : α} {v : β} (h : R d T) (r : rel T H d v) : Q v H := A.q d T v H h (Step.refl _ _) A.rh r
end
def low {α β : Type} (P : Program) (w : World) (K : PySem.W.Frag) (rel : T3 → Hp → α → β → Prop) (W : WX) (t : Rd3 α) : St → Hp → (β → Hp → Prop) → Prop :=
  fun σ H Q => ∃ E σ3 T R, At P w K rel W σ H Q E σ3 T R ∧ t E σ3 T R
def relB : T3 → Hp → Bool → Bool → Prop := fun _ _ a b => a = b
def PE3 (X : Cx) (W : WX) (e : Expr) (t : TE3) : Prop := PE X e (low X.prog X.w X.K (Rep X.K) W t)
def PT3 (X : Cx) (W : WX) (e : Expr) (t : Rd3 Bool) : Prop := PT X e (low X.prog X.w X.K relB W t)
def PW3 (X : Cx) (W : WX) (e : Expr) (t : Rd3 Bool) : Prop := PW X e (low X.prog X.w X.K relB W t)
def PA3 (X : Cx) (W : WX) (es : List Expr) (t : Rd3 (List D)) : Prop := PA X es (low X.prog X.w X.K (RepL X.K) W t)
theorem PE.imp {X : Cx} {e : Expr} {t u : TE} (h : PE X e t) (i : ∀ σ H Q, u σ H Q → t σ H Q) : PE X e u := ⟨fun pins s σ H Q I hw => h.run pins s σ H Q I (i σ H Q hw)⟩
theorem PT.imp {X : Cx} {e : Expr} {t u : TT} (h : PT X e t) (i : ∀ σ H Q, u σ H Q → t σ H Q) : PT X e u := ⟨fun pins s σ H Q I hw => h.run pins s σ H Q I (i σ H Q hw)⟩
theorem PW.imp {X : Cx} {e : Expr} {t u : TT} (h : PW X e t) (i : ∀ σ H Q, u σ H Q → t σ H Q) : PW X e u := ⟨fun wh pins s σ H Q I hw => h.run wh pins s σ H Q I (i σ H Q hw)⟩
theorem PA.imp {X : Cx} {es : List Expr} {t u : TA} (h : PA X es t) (i : ∀ σ H Q, u σ H Q → t σ H Q) : PA X es u := ⟨fun pos pins s σ H Q I hw => h.run pos pins s σ H Q I (i σ H Q hw)⟩
theorem PS.imp {X : Cx} {st : Stmt} {t u : TS} (h : PS X st t) (i : ∀ D σ H, u D σ H → t D σ H) : PS X st u := ⟨fun pins s σ H D I hw => h.run pins s σ H D I (i D σ H hw)⟩
theorem PSs.imp {X : Cx} {st : List Stmt} {t u : TS} (h : PSs X st t) (i : ∀ D σ H, u D σ H → t D σ H) : PSs X st u := ⟨fun pins s σ H D I hw => h.run pins s σ H D I (i D σ H hw)⟩
/-- a branch: whnf stops here -/
structure Br (c : Bool) (a b : Prop) : Prop where
  tt : c = true → a
  ff : c = false → b
theorem Br.t {c : Bool} {a b : Prop} (h : c = true) (x : a) : Br c a b := ⟨fun _ => x, fun z => (by rw [h] at z; cases z)⟩
theorem Br.f {c : Bool} {a b : Prop} (h : c = false) (x : b) : Br c a b := ⟨fun z => (by rw [h] at z; cases z), fun _ => x⟩
end L3
namespace L3
open PySem PySem.Spec L2
open PyProof.Rows hiding St
section
variable {X : Cx} {W : WX}
/-! ### names, constants -/
def t3Var (i : Nat) : TE3 := fun _ σ T R => match σ[i]? with
  | some (some d) => R d T
  | _ => False
def t3C (d : D) : TE3 := fun _ _ T R => R d T
theorem pv3 (i : Nat) {x : Str} {pos : Pos} (hN : X.N[i]? = some x := by rfl) (hv : Vis X.env.scope x := by first | exact Or.inl rfl | exact Or.inr (Or.inl rfl) | exact Or.inr (Or.inr rfl)) (hd : (x == ("__debug__" : Str)) = false := by decide)
    (hcd : (x == ("__classdict__" : Str)) = false := by decide) : PE3 X W (.Name x pos) (t3Var i) := by
  refine PE.imp (pe_var hN hv hd hcd) fun σ H Q h => ?_
  obtain ⟨E, σ3, T, R, A, h⟩ := h
  unfold t3Var at h
  split at h
  · next d e =>
    obtain ⟨v, e1, r⟩ := A.rs.2 i d e
    exact ⟨v, e1, A.fin h r⟩
  · exact h.elim
theorem low_c {d : D} {v : V} (r : ∀ T H, Rep X.K T H d v) : ∀ σ H Q, low X.prog X.w X.K (Rep X.K) W (t3C d) σ H Q → tC v σ H Q := fun σ H Q h => by
  obtain ⟨E, σ3, T, R, A, h⟩ := h
  exact A.fin h (r _ _)
theorem pe3_int {i j pos} : PE3 X W (.Constant (.int i) j pos) (t3C (.int i)) := PE.imp pe_int (low_c fun _ _ => .int _)
theorem pe3_bl {b j pos} : PE3 X W (.Constant (.bool b) j pos) (t3C (.bl b)) := PE.imp pe_bl (low_c fun _ _ => .bl _)
theorem pe3_non {j pos} : PE3 X W (.Constant .none j pos) (t3C .non) := PE.imp pe_non (low_c fun _ _ => .non)
theorem pe3_str {x j pos} : PE3 X W (.Constant (.str x) j pos) (t3C (.str x)) := PE.imp pe_str (low_c fun _ _ => .str _)
/-- a constant of the module -/
theorem pe3_glob {x : Str} {d : D} {v : V} {u : Value} {pos : Pos} (hg : Gl X x) (hm : X.mg x = some u) (r : RelV v u) (q : ∀ T H, Rep X.K T H d v) (hd : (x == ("__debug__" : Str)) = false := by decide) : PE3 X W (.Name x pos) (t3C d) :=
  PE.imp (pe_glob hg hm r hd) (low_c q)
/-! ### two values -/
abbrev R23 := D → D → T3 → (D → T3 → Prop) → Prop
/-- what a value's rule hands on -/
def QC (X : Cx) (T : T3) (H : Hp) (R : D → T3 → Prop) (Q : VK) : Prop := ∀ d T' v H', R d T' → Step T H T' H' → RepH X.prog X.w X.K T' H' → Rep X.K T' H' d v → Q v H'
def QCB (X : Cx) (T : T3) (H : Hp) (R : Bool → T3 → Prop) (Q : Bool → Hp → Prop) : Prop := ∀ b T' H', R b T' → Step T H T' H' → RepH X.prog X.w X.K T' H' → Q b H'
def OpR3 (X : Cx) (f : Value → Value → Sem Value) (r3 : R23) : Prop :=
  OpR X f (fun x y H Q => ∃ d e T R, RepH X.prog X.w X.K T H ∧ Rep X.K T H d x ∧ Rep X.K T H e y ∧ QC X T H R Q ∧ r3 d e T R)
def t3Op (r : R23) (ta tb : TE3) : TE3 := fun E σ T R => ta E σ T fun x T1 => tb E σ T1 fun y T2 => r x y T2 R
theorem low_op {r : R23} {ta tb : TE3} : ∀ σ H Q, low X.prog X.w X.K (Rep X.K) W (t3Op r ta tb) σ H Q →
    tOp (fun x y H Q => ∃ d e T R, RepH X.prog X.w X.K T H ∧ Rep X.K T H d x ∧ Rep X.K T H e y ∧ QC X T H R Q ∧ r d e T R) (low X.prog X.w X.K (Rep X.K) W ta) (low X.prog X.w X.K (Rep X.K) W tb) σ H Q := fun σ H Q h => by
  obtain ⟨E, σ3, T, R, A, h⟩ := h
  refine ⟨E, σ3, T, _, A.sub fun d T1 v H1 A1 s1 h1 r1 => ?_, h⟩
  refine ⟨E, σ3, T1, _, A1.sub fun e T2 u H2 A2 s2 h2 r2 => ?_, h1⟩
  exact ⟨d, e, T2, R, A2.rh, r1.step s2, r2, A2.q, h2⟩
theorem pe3_op {op : Operator} {r : R23} {a b : Expr} {ta tb : TE3} {pos : Pos} (ho : OpR3 X (binaryOp op) r) (ha : PE3 X W a ta) (hb : PE3 X W b tb) : PE3 X W (.BinOp a op b pos) (t3Op r ta tb) := PE.imp (pe_op ho ha hb) low_op
theorem pe3_cmp {op : CmpOp} {r : R23} {a b : Expr} {ta tb : TE3} {pos : Pos} (ho : OpR3 X (compareOp op) r) (ha : PE3 X W a ta) (hb : PE3 X W b tb) (hm : behindInMarks op b = false) : PE3 X W (.Compare a [op] [b] pos) (t3Op r ta tb) := PE.imp (pe_cmpR ho ha hb hm) low_op
/-- as a test -/
def t3T (t : TE3) : Rd3 Bool := fun E σ T R => t E σ T fun d T1 => match d with
  | .bl b => R b T1
  | _ => False
theorem pt3_cmp {op : CmpOp} {r : R23} {a b : Expr} {ta tb : TE3} {pos : Pos} (ho : OpR3 X (compareOp op) r) (ha : PE3 X W a ta) (hb : PE3 X W b tb) (hm : behindInMarks op b = false) : PT3 X W (.Compare a [op] [b] pos) (t3T (t3Op r ta tb)) := by
  refine PT.imp (pt_cmpR ho ha hb hm) fun σ H Q h => ?_
  obtain ⟨E, σ3, T, R, A, h⟩ := h
  refine low_op (W := W) _ _ _ ⟨E, σ3, T, _, A.sub fun d T1 v H1 A1 s1 h1 r1 => ?_, h⟩
  split at h1
  · cases r1; exact ⟨_, rfl, A1.fin h1 rfl⟩
  · exact h1.elim
theorem pt3_val {e : Expr} {t : TE3} (h : PE3 X W e t) (he : ∀ whole, isTrue e X.env whole = (do let v ← whole; standAt e.pos; holding [v] (truthy v)) := by intro _; rfl) : PT3 X W e (t3T t) := by
  refine PT.imp (pt_val h he) fun σ H Q h => ?_
  obtain ⟨E, σ3, T, R, A, h⟩ := h
  refine ⟨E, σ3, T, _, A.sub fun d T1 v H1 A1 s1 h1 r1 => ?_, h⟩
  split at h1
  · cases r1; exact ⟨_, rfl, A1.fin h1 rfl⟩
  · exact h1.elim
/-- a < b < c -/
def t3Chain (r r' : R23) (ta tb tc : TE3) : TE3 := fun E σ T R => ta E σ T fun x T1 => tb E σ T1 fun y T2 => r x y T2 fun z T3 => match z with
  | .bl k => Br k (tc E σ T3 fun u T4 => r' y u T4 R) (R (.bl false) T3)
  | _ => False
theorem low_chain {r r' : R23} {ta tb tc : TE3} : ∀ σ H Q, low X.prog X.w X.K (Rep X.K) W (t3Chain r r' ta tb tc) σ H Q →
    tChain (fun x y H Q => ∃ d e T R, RepH X.prog X.w X.K T H ∧ Rep X.K T H d x ∧ Rep X.K T H e y ∧ QC X T H R Q ∧ r d e T R) (fun x y H Q => ∃ d e T R, RepH X.prog X.w X.K T H ∧ Rep X.K T H d x ∧ Rep X.K T H e y ∧ QC X T H R Q ∧ r' d e T R)
      (low X.prog X.w X.K (Rep X.K) W ta) (low X.prog X.w X.K (Rep X.K) W tb) (low X.prog X.w X.K (Rep X.K) W tc) σ H Q := fun σ H Q h => by
  obtain ⟨E, σ3, T, R, A, h⟩ := h
  refine ⟨E, σ3, T, _, A.sub fun d T1 v H1 A1 s1 h1 r1 => ?_, h⟩
  refine ⟨E, σ3, T1, _, A1.sub fun e T2 u H2 A2 s2 h2 r2 => ?_, h1⟩
  refine ⟨d, e, T2, _, A2.rh, r1.step s2, r2, (fun z T3 zv H3 h3 s3 rh3 r3 => ?_), h2⟩
  have A3 := A2.next s3 rh3
  split at h3
  · next k =>
    cases r3
    refine ⟨k, rfl, ?_⟩
    cases k with
    | true =>
      simp only [if_true]
      refine ⟨E, σ3, T3, _, A3.sub fun f T4 w4 H4 A4 s4 h4 r4 => ?_, h3.tt rfl⟩
      exact ⟨e, f, T4, _, A4.rh, (r2.step s3).step s4, r4, A4.q, h4⟩
    | false =>
      simp only [Bool.false_eq_true, if_false]
      exact A3.fin (h3.ff rfl) (.bl _)
  · exact h3.elim
theorem pe3_chain {op op' : CmpOp} {r r' : R23} {a b c : Expr} {ta tb tc : TE3} {pos : Pos} (ho : OpR3 X (compareOp op) r) (ho' : OpR3 X (compareOp op') r') (ha : PE3 X W a ta) (hb : PE3 X W b tb) (hc : PE3 X W c tc)
    (hm : lastMarks [op, op'] [b, c] = false := by with_unfolding_all rfl) : PE3 X W (.Compare a [op, op'] [b, c] pos) (t3Chain r r' ta tb tc) := PE.imp (pe_chain ho ho' ha hb hc hm) low_chain
theorem low_t {t : TE3} {u : TE} (l : ∀ σ H Q, low X.prog X.w X.K (Rep X.K) W t σ H Q → u σ H Q) : ∀ σ H Q, low X.prog X.w X.K relB W (t3T t) σ H Q → u σ H (fun x H' => ∃ k, x = .bl k ∧ Q k H') := fun σ H Q h => by
  obtain ⟨E, σ3, T, R, A, h⟩ := h
  refine l _ _ _ ⟨E, σ3, T, _, A.sub fun d T1 v H1 A1 s1 h1 r1 => ?_, h⟩
  split at h1
  · cases r1; exact ⟨_, rfl, A1.fin h1 rfl⟩
  · exact h1.elim
theorem pt3_chain {op op' : CmpOp} {r r' : R23} {a b c : Expr} {ta tb tc : TE3} {pos : Pos} (ho : OpR3 X (compareOp op) r) (ho' : OpR3 X (compareOp op') r') (ha : PE3 X W a ta) (hb : PE3 X W b tb) (hc : PE3 X W c tc)
    (hm : lastMarks [op, op'] [b, c] = false := by with_unfolding_all rfl) : PT3 X W (.Compare a [op, op'] [b, c] pos) (t3T (t3Chain r r' ta tb tc)) := PT.imp (pt_chain ho ho' ha hb hc hm) (low_t low_chain)
/-! ### and, or, not, if -/
def t3And (t u : Rd3 Bool) : Rd3 Bool := fun E σ T R => t E σ T fun c T1 => Br c (u E σ T1 R) (R false T1)
def t3Or (t u : Rd3 Bool) : Rd3 Bool := fun E σ T R => t E σ T fun c T1 => Br c (R true T1) (u E σ T1 R)
def t3Not (t : Rd3 Bool) : Rd3 Bool := fun E σ T R => t E σ T fun c T1 => R (!c) T1
theorem pw3_and1 {a : Expr} {ta : Rd3 Bool} {pos : Pos} (ha : PT3 X W a ta) : PW3 X W (.BoolOp .And [a] pos) ta := pw_and1 ha
theorem pw3_or1 {a : Expr} {ta : Rd3 Bool} {pos : Pos} (ha : PT3 X W a ta) : PW3 X W (.BoolOp .Or [a] pos) ta := pw_or1 ha
theorem pw3_and {a b : Expr} {rest : List Expr} {ta tb : Rd3 Bool} {pos : Pos} (ha : PT3 X W a ta) (hb : PW3 X W (.BoolOp .And (b :: rest) pos) tb) : PW3 X W (.BoolOp .And (a :: b :: rest) pos) (t3And ta tb) := by
  refine PW.imp (pw_and ha hb) fun σ H Q h => ?_
  obtain ⟨E, σ3, T, R, A, h⟩ := h
  refine ⟨E, σ3, T, _, A.sub fun d T1 v H1 A1 s1 h1 r1 => ?_, h⟩
  cases r1
  cases d with
  | true => simp only [if_true]; exact ⟨E, σ3, T1, R, A1, h1.tt rfl⟩
  | false => simp only [Bool.false_eq_true, if_false]; exact A1.fin (h1.ff rfl) rfl
theorem pw3_or {a b : Expr} {rest : List Expr} {ta tb : Rd3 Bool} {pos : Pos} (ha : PT3 X W a ta) (hb : PW3 X W (.BoolOp .Or (b :: rest) pos) tb) : PW3 X W (.BoolOp .Or (a :: b :: rest) pos) (t3Or ta tb) := by
  refine PW.imp (pw_or ha hb) fun σ H Q h => ?_
  obtain ⟨E, σ3, T, R, A, h⟩ := h
  refine ⟨E, σ3, T, _, A.sub fun d T1 v H1 A1 s1 h1 r1 => ?_, h⟩
  cases r1
  cases d with
  | true => simp only [if_true]; exact A1.fin (h1.tt rfl) rfl
  | false => simp only [Bool.false_eq_true, if_false]; exact ⟨E, σ3, T1, R, A1, h1.ff rfl⟩
theorem PW3.pt {e : Expr} {t : Rd3 Bool} (h : PW3 X W e t) : PT3 X W e t := PW.pt h
theorem pt3_not {a : Expr} {ta : Rd3 Bool} {pos : Pos} (ha : PT3 X W a ta) : PT3 X W (.UnaryOp .Not a pos) (t3Not ta) := by
  refine PT.imp (pt_not ha) fun σ H Q h => ?_
  obtain ⟨E, σ3, T, R, A, h⟩ := h
  refine ⟨E, σ3, T, _, A.sub fun d T1 v H1 A1 s1 h1 r1 => ?_, h⟩
  cases r1
  exact A1.fin h1 rfl
/-- as values (bools) -/
def t3AndV (ta tb : TE3) : TE3 := fun E σ T R => ta E σ T fun x T1 => match x with
  | .bl c => Br c (tb E σ T1 R) (R (.bl false) T1)
  | _ => False
def t3OrV (ta tb : TE3) : TE3 := fun E σ T R => ta E σ T fun x T1 => match x with
  | .bl c => Br c (R (.bl true) T1) (tb E σ T1 R)
  | _ => False
def t3NotV (ta : TE3) : TE3 := fun E σ T R => ta E σ T fun x T1 => match x with
  | .bl c => R (.bl (!c)) T1
  | _ => False
theorem pe3_one {op} {a : Expr} {t : TE3} {pos : Pos} (h : PE3 X W a t) : PE3 X W (.BoolOp op [a] pos) t := pe_one h
theorem pe3_and {a b : Expr} {rest : List Expr} {ta tb : TE3} {pos : Pos} (ha : PE3 X W a ta) (hb : PE3 X W (.BoolOp .And (b :: rest) pos) tb) : PE3 X W (.BoolOp .And (a :: b :: rest) pos) (t3AndV ta tb) := by
  refine PE.imp (pe_and ha hb) fun σ H Q h => ?_
  obtain ⟨E, σ3, T, R, A, h⟩ := h
  refine ⟨E, σ3, T, _, A.sub fun d T1 v H1 A1 s1 h1 r1 => ?_, h⟩
  split at h1
  · next c =>
    cases r1
    refine ⟨c, rfl, ?_⟩
    cases c with
    | true => simp only [if_true]; exact ⟨E, σ3, T1, R, A1, h1.tt rfl⟩
    | false => simp only [Bool.false_eq_true, if_false]; exact A1.fin (h1.ff rfl) (.bl _)
  · exact h1.elim
theorem pe3_or {a b : Expr} {rest : List Expr} {ta tb : TE3} {pos : Pos} (ha : PE3 X W a ta) (hb : PE3 X W (.BoolOp .Or (b :: rest) pos) tb) : PE3 X W (.BoolOp .Or (a :: b :: rest) pos) (t3OrV ta tb) := by
  refine PE.imp (pe_or ha hb) fun σ H Q h => ?_
  obtain ⟨E, σ3, T, R, A, h⟩ := h
  refine ⟨E, σ3, T, _, A.sub fun d T1 v H1 A1 s1 h1 r1 => ?_, h⟩
  split at h1
  · next c =>
    cases r1
    refine ⟨c, rfl, ?_⟩
    cases c with
    | true => simp only [if_true]; exact A1.fin (h1.tt rfl) (.bl _)
    | false => simp only [Bool.false_eq_true, if_false]; exact ⟨E, σ3, T1, R, A1, h1.ff rfl⟩
  · exact h1.elim
theorem pe3_not {a : Expr} {ta : TE3} {pos : Pos} (ha : PE3 X W a ta) : PE3 X W (.UnaryOp .Not a pos) (t3NotV ta) := by
  refine PE.imp (pe_not ha) fun σ H Q h => ?_
  obtain ⟨E, σ3, T, R, A, h⟩ := h
  refine ⟨E, σ3, T, _, A.sub fun d T1 v H1 A1 s1 h1 r1 => ?_, h⟩
  split at h1
  · next c => cases r1; exact ⟨c, rfl, A1.fin h1 (.bl _)⟩
  · exact h1.elim
def t3If (t : Rd3 Bool) (ta tb : TE3) : TE3 := fun E σ T R => t E σ T fun c T1 => Br c (ta E σ T1 R) (tb E σ T1 R)
theorem pe3_ifExp {c a b : Expr} {tc : Rd3 Bool} {ta tb : TE3} {pos : Pos} (hc : PT3 X W c tc) (ha : PE3 X W a ta) (hb : PE3 X W b tb) : PE3 X W (.IfExp c a b pos) (t3If tc ta tb) := by
  refine PE.imp (pe_ifExp hc ha hb) fun σ H Q h => ?_
  obtain ⟨E, σ3, T, R, A, h⟩ := h
  refine ⟨E, σ3, T, _, A.sub fun d T1 v H1 A1 s1 h1 r1 => ?_, h⟩
  cases r1
  cases d with
  | true => simp only [if_true]; exact ⟨E, σ3, T1, R, A1, h1.tt rfl⟩
  | false => simp only [Bool.false_eq_true, if_false]; exact ⟨E, σ3, T1, R, A1, h1.ff rfl⟩
/-! ### arguments, displays -/
def t3Nil : Rd3 (List D) := fun _ _ T R => R [] T
def t3Cons (ta : TE3) (tr : Rd3 (List D)) : Rd3 (List D) := fun E σ T R => ta E σ T fun x T1 => tr E σ T1 fun xs T2 => R (x :: xs) T2
theorem pa3_nil : PA3 X W [] t3Nil := PA.imp pa_nil fun σ H Q h => by
  obtain ⟨E, σ3, T, R, A, h⟩ := h
  exact A.fin h .nil
theorem low_cons {ta : TE3} {tr : Rd3 (List D)} : ∀ σ H Q, low X.prog X.w X.K (RepL X.K) W (t3Cons ta tr) σ H Q → tCons (low X.prog X.w X.K (Rep X.K) W ta) (low X.prog X.w X.K (RepL X.K) W tr) σ H Q := fun σ H Q h => by
  obtain ⟨E, σ3, T, R, A, h⟩ := h
  refine ⟨E, σ3, T, _, A.sub fun d T1 v H1 A1 s1 h1 r1 => ?_, h⟩
  refine ⟨E, σ3, T1, _, A1.sub fun e T2 u H2 A2 s2 h2 r2 => ?_, h1⟩
  exact A2.fin h2 (.cons (r1.step s2) r2)
theorem pa3_cons {e : Expr} {es : List Expr} {te : TE3} {t : Rd3 (List D)} (ha : PE3 X W e te) (hr : PA3 X W es t) (hs : starEach (e :: es) X.env = (false, eval e X.env) :: starEach es X.env := by rfl) : PA3 X W (e :: es) (t3Cons te t) :=
  PA.imp (pa_cons ha hr hs) low_cons
def t3Tup (t : Rd3 (List D)) : TE3 := fun E σ T R => t E σ T fun xs T1 => xs.length ≤ sizeLine ∧ R (.tup xs) T1
def t3Lst (t : Rd3 (List D)) : TE3 := fun E σ T R => t E σ T fun xs T1 => xs.length ≤ sizeLine ∧ ∀ p, T1 p = none → R (.ref p) (updT T1 p (.lst xs))
theorem pe3_tup {es : List Expr} {t : Rd3 (List D)} {x1} {pos : Pos} (h : PA3 X W es t) : PE3 X W (.Tuple es x1 pos) (t3Tup t) := by
  refine PE.imp (pe_tup h) fun σ H Q h => ?_
  obtain ⟨E, σ3, T, R, A, h⟩ := h
  refine ⟨E, σ3, T, _, A.sub fun ds T1 vs H1 A1 s1 h1 r1 => ?_, h⟩
  refine ⟨by rw [← r1.length]; exact h1.1, fun p hp => ?_⟩
  have s2 : Step T1 H1 T1 (L2.upd H1 p (.tup vs)) := Step.newU hp
  exact (A1.next s2 (A1.rh.newU hp)).fin h1.2 (.tup (.inl (.inl L2.upd_same)) (.inl (A1.rh.free hp)) (r1.step s2))
theorem new_lst {H : Hp} {T : T3} {p : Addr} {ds : List D} {vs : List V} (h : RepH X.prog X.w X.K T H) (hp : H p = none) (r : RepL X.K T H ds vs) : Step T H (updT T p (.lst ds)) (L2.upd H p (.lst vs)) ∧ RepH X.prog X.w X.K (updT T p (.lst ds)) (L2.upd H p (.lst vs)) := by
  have s2 : Step T H (updT T p (.lst ds)) (L2.upd H p (.lst vs)) := Step.new h hp
  exact ⟨s2, h.upd s2 ⟨vs, L2.upd_same, r.step s2⟩⟩
theorem pe3_lst {es : List Expr} {t : Rd3 (List D)} {pos : Pos} (h : PA3 X W es t) : PE3 X W (.List es pos) (t3Lst t) := by
  refine PE.imp (pe_lst h) fun σ H Q h => ?_
  obtain ⟨E, σ3, T, R, A, h⟩ := h
  refine ⟨E, σ3, T, _, A.sub fun ds T1 vs H1 A1 s1 h1 r1 => ?_, h⟩
  refine ⟨by rw [← r1.length]; exact h1.1, fun p hp => ?_⟩
  obtain ⟨s2, h2⟩ := new_lst A1.rh hp r1
  exact (A1.next s2 h2).fin (h1.2 p (A1.rh.free hp)) (.ref p)
end
end L3
namespace L3
open PySem PySem.Spec L2
open PyProof.Rows hiding St
/-! ### statements -/
structure AtS (P : Program) (w : World) (K : PySem.W.Frag) (W : WX) (D' : Ends) (σ : St) (H : Hp) (D3 : Ends3) (σ3 : St3) (T : T3) : Prop where
  rs : RepS K T H σ3 σ
  rh : RepH P w K T H
  nx : ∀ σ3' T' σ' H', D3.nx σ3' T' → Step T H T' H' → RepH P w K T' H' → RepS K T' H' σ3' σ' → D'.nx σ' H'
  bk : ∀ σ3' T' σ' H', D3.bk σ3' T' → Step T H T' H' → RepH P w K T' H' → RepS K T' H' σ3' σ' → D'.bk σ' H'
  ct : ∀ σ3' T' σ' H', D3.ct σ3' T' → Step T H T' H' → RepH P w K T' H' → RepS K T' H' σ3' σ' → D'.ct σ' H'
  rt : ∀ d T' v H', D3.rt d T' → Step T H T' H' → RepH P w K T' H' → Rep K T' H' d v → D'.rt v H'
  ex : ∀ c fs σ3' T' d gs σ' H', D3.ex c fs σ3' T' → Step T H T' H' → RepH P w K T' H' → RepS K T' H' σ3' σ' → H' d = some (.xd gs) → RepF K T' H' fs gs → W (.ref (He.ga K c)) (some d) σ' H'
def lowS (P : Program) (w : World) (K : PySem.W.Frag) (W : WX) (t : TS3) : TS := fun D' σ H => ∃ D3 σ3 T, AtS P w K W D' σ H D3 σ3 T ∧ t D3 σ3 T
def PS3 (X : Cx) (W : WX) (st : Stmt) (t : TS3) : Prop := PS X st (lowS X.prog X.w X.K W t)
def PSs3 (X : Cx) (W : WX) (st : List Stmt) (t : TS3) : Prop := PSs X st (lowS X.prog X.w X.K W t)
section
variable {P : Program} {w : World} {K : PySem.W.Frag} {W : WX} {D' : Ends} {σ σ' : St} {H H' : Hp} {D3 : Ends3} {σ3 σ3' : St3} {T T' : T3}
theorem AtS.next (A : AtS P w K W D' σ H D3 σ3 T) (s : Step T H T' H') (h : RepH P w K T' H') (r : RepS K T' H' σ3' σ') : AtS P w K W D' σ' H' D3 σ3' T' :=
  ⟨r, h, fun a b c d e f g i => A.nx a b c d e (s.trans f) g i, fun a b c d e f g i => A.bk a b c d e (s.trans f) g i, fun a b c d e f g i => A.ct a b c d e (s.trans f) g i,
    fun a b c d e f g i => A.rt a b c d e (s.trans f) g i, fun a b c d e f g i j k l m n => A.ex a b c d e f g i j (s.trans k) l m n⟩
/-- other ends for the next statement -/
theorem AtS.ends (A : AtS P w K W D' σ H D3 σ3 T) {N : St → Hp → Prop} {N3 : St3 → T3 → Prop} (h : ∀ σ3' T' σ' H', AtS P w K W D' σ' H' D3 σ3' T' → N3 σ3' T' → N σ' H') : AtS P w K W { D' with nx := N } σ H { D3 with nx := N3 } σ3 T :=
  ⟨A.rs, A.rh, fun a b c d e f g i => h a b c d (A.next f g i) e, A.bk, A.ct, A.rt, A.ex⟩
/-- an expression within the statement -/
theorem AtS.sub (A : AtS P w K W D' σ H D3 σ3 T) {α β : Type} {rel : T3 → Hp → α → β → Prop} {Q : β → Hp → Prop} {R : α → T3 → Prop} (h : ∀ d T' v H', AtS P w K W D' σ H' D3 σ3 T' → R d T' → rel T' H' d v → Q v H') :
    At P w K rel W σ H Q (fun c fs T' => D3.ex c fs σ3 T') σ3 T R :=
  ⟨A.rs, A.rh, fun d T' v H' a b c e => h d T' v H' (A.next b c (A.rs.step b)) a e, fun c fs T' d gs H' a b e f g => A.ex c fs σ3 T' d gs σ H' a b e (A.rs.step b) f g⟩
theorem AtS.fin (A : AtS P w K W D' σ H D3 σ3 T) (h : D3.nx σ3 T) : D'.nx σ H := A.nx _ _ _ _ h (Step.refl _ _) A.rh A.rs
end
section
variable {X : Cx} {W : WX}
def t3Next : TS3 := fun D σ T => D.nx σ T
def t3Seq (t u : TS3) : TS3 := fun D σ T => t { D with nx := u D } σ T
theorem pss3_nil : PSs3 X W [] t3Next := PSs.imp pss_nil fun D' σ H h => by
  obtain ⟨D3, σ3, T, A, h⟩ := h
  exact A.fin h
theorem pss3_cons {st : Stmt} {rest : List Stmt} {t u : TS3} (h1 : PS3 X W st t) (h2 : PSs3 X W rest u) : PSs3 X W (st :: rest) (t3Seq t u) := PSs.imp (pss_cons h1 h2) fun D' σ H h => by
  obtain ⟨D3, σ3, T, A, h⟩ := h
  exact ⟨_, σ3, T, A.ends fun σ3' T' σ' H' A' n => ⟨D3, σ3', T', A', n⟩, h⟩
theorem pss3_one {st : Stmt} {t : TS3} (h1 : PS3 X W st t) : PSs3 X W [st] t := pss_one h1
def t3Break : TS3 := fun D σ T => D.bk σ T
def t3Cont : TS3 := fun D σ T => D.ct σ T
theorem ps3_pass {pos : Pos} : PS3 X W (.Pass pos) t3Next := PS.imp ps_pass fun D' σ H h => by
  obtain ⟨D3, σ3, T, A, h⟩ := h
  exact A.fin h
theorem ps3_break {pos : Pos} : PS3 X W (.Break pos) t3Break := PS.imp ps_break fun D' σ H h => by
  obtain ⟨D3, σ3, T, A, h⟩ := h
  exact A.bk _ _ _ _ h (Step.refl _ _) A.rh A.rs
theorem ps3_continue {pos : Pos} : PS3 X W (.Continue pos) t3Cont := PS.imp ps_continue fun D' σ H h => by
  obtain ⟨D3, σ3, T, A, h⟩ := h
  exact A.ct _ _ _ _ h (Step.refl _ _) A.rh A.rs
def exE (D : Ends3) (σ : St3) : EX3 := fun c fs T => D.ex c fs σ T
def t3Drop (te : TE3) : TS3 := fun D σ T => te (exE D σ) σ T fun _ T1 => D.nx σ T1
theorem ps3_expr {e : Expr} {te : TE3} {pos : Pos} (he : PE3 X W e te) (hs : swapsWith e none pos.line X.env = pure false := by rfl) : PS3 X W (.Expr e pos) (t3Drop te) := PS.imp (ps_expr he hs) fun D' σ H h => by
  obtain ⟨D3, σ3, T, A, h⟩ := h
  exact ⟨_, σ3, T, _, A.sub fun d T1 v H1 A1 h1 r1 => A1.fin h1, h⟩
def t3Ret (te : TE3) : TS3 := fun D σ T => te (exE D σ) σ T D.rt
theorem ps3_ret {e : Expr} {te : TE3} {pos : Pos} (he : PE3 X W e te) : PS3 X W (.Return (some e) pos) (t3Ret te) := PS.imp (ps_ret he) fun D' σ H h => by
  obtain ⟨D3, σ3, T, A, h⟩ := h
  exact ⟨_, σ3, T, _, A.sub fun d T1 v H1 A1 h1 r1 => A1.rt _ _ _ _ h1 (Step.refl _ _) A1.rh r1, h⟩
def t3RetN : TS3 := fun D _ T => D.rt .non T
theorem ps3_retN {pos : Pos} : PS3 X W (.Return none pos) t3RetN := PS.imp ps_retN fun D' σ H h => by
  obtain ⟨D3, σ3, T, A, h⟩ := h
  exact A.rt _ _ _ _ h (Step.refl _ _) A.rh .non
def t3IfS (c : Rd3 Bool) (t u : TS3) : TS3 := fun D σ T => c (exE D σ) σ T fun b T1 => Br b (t D σ T1) (u D σ T1)
theorem ps3_if {c : Expr} {a b : List Stmt} {tc : Rd3 Bool} {t u : TS3} {pos : Pos} (hc : PT3 X W c tc) (ha : PSs3 X W a t) (hb : PSs3 X W b u) : PS3 X W (.If c a b pos) (t3IfS tc t u) := PS.imp (ps_if hc ha hb) fun D' σ H h => by
  obtain ⟨D3, σ3, T, A, h⟩ := h
  refine ⟨_, σ3, T, _, A.sub fun d T1 v H1 A1 h1 r1 => ?_, h⟩
  cases r1
  cases d with
  | true => simp only [if_true]; exact ⟨D3, σ3, T1, A1, h1.tt rfl⟩
  | false => simp only [Bool.false_eq_true, if_false]; exact ⟨D3, σ3, T1, A1, h1.ff rfl⟩
def t3Never : TS3 := fun _ _ _ => False
theorem ps3_never {st : Stmt} : PS3 X W st t3Never := PS.imp ps_never fun D' σ H h => by
  obtain ⟨D3, σ3, T, A, h⟩ := h
  exact h
theorem pss3_never {sts : List Stmt} : PSs3 X W sts t3Never := PSs.imp pss_never fun D' σ H h => by
  obtain ⟨D3, σ3, T, A, h⟩ := h
  exact h
/-! ### targets -/
abbrev TG3 := EX3 → D → St3 → T3 → (St3 → T3 → Prop) → Prop
abbrev TGs3 := EX3 → List D → St3 → T3 → (St3 → T3 → Prop) → Prop
/-- the target's state: what follows has other slots -/
structure AtG (P : Program) (w : World) (K : PySem.W.Frag) (W : WX) (σ : St) (H : Hp) (Q : St → Hp → Prop) (E : EX3) (σ3 : St3) (T : T3) (R : St3 → T3 → Prop) : Prop where
  rs : RepS K T H σ3 σ
  rh : RepH P w K T H
  q : ∀ σ3' T' σ' H', R σ3' T' → Step T H T' H' → RepH P w K T' H' → RepS K T' H' σ3' σ' → Q σ' H'
  x : ∀ c fs T' d gs σ' H', E c fs T' → Step T H T' H' → RepH P w K T' H' → H' d = some (.xd gs) → RepF K T' H' fs gs → W (.ref (He.ga K c)) (some d) σ' H'
end
section
variable {P : Program} {w : World} {K : PySem.W.Frag} {W : WX} {σ σ' : St} {H H' : Hp} {Q : St → Hp → Prop} {E : EX3} {σ3 σ3' : St3} {T T' : T3} {R : St3 → T3 → Prop}
theorem AtG.next (A : AtG P w K W σ H Q E σ3 T R) (s : Step T H T' H') (h : RepH P w K T' H') (r : RepS K T' H' σ3' σ') : AtG P w K W σ' H' Q E σ3' T' R :=
  ⟨r, h, fun a b c d e f g i => A.q a b c d e (s.trans f) g i, fun a b c d e f g i j k l m => A.x a b c d e f g i (s.trans j) k l m⟩
theorem AtG.sub (A : AtG P w K W σ H Q E σ3 T R) {α β : Type} {rel : T3 → Hp → α → β → Prop} {Q' : β → Hp → Prop} {R' : α → T3 → Prop} (h : ∀ d T' v H', AtG P w K W σ H' Q E σ3 T' R → Step T H T' H' → R' d T' → rel T' H' d v → Q' v H') :
    At P w K rel W σ H Q' E σ3 T R' :=
  ⟨A.rs, A.rh, fun d T' v H' a b c e => h d T' v H' (A.next b c (A.rs.step b)) b a e, fun c fs T' d gs H' a b e f g => A.x c fs T' d gs σ H' a b e f g⟩
theorem AtG.subG (A : AtG P w K W σ H Q E σ3 T R) {Q' : St → Hp → Prop} {R' : St3 → T3 → Prop} (h : ∀ σ3' T' σ' H', AtG P w K W σ' H' Q E σ3' T' R → Step T H T' H' → R' σ3' T' → Q' σ' H') : AtG P w K W σ H Q' E σ3 T R' :=
  ⟨A.rs, A.rh, fun a b c d e f g i => h a b c d (A.next f g i) f e, A.x⟩
theorem AtG.fin (A : AtG P w K W σ H Q E σ3 T R) (h : R σ3 T) : Q σ H := A.q _ _ _ _ h (Step.refl _ _) A.rh A.rs
end
/-- raising while targets are stored is not used: E must be empty there -/
def lowG (P : Program) (w : World) (K : PySem.W.Frag) (W : WX) (t : TG3) : TG := fun v σ H Q => ∃ E σ3 T R d, AtG P w K W σ H Q E σ3 T R ∧ Rep K T H d v ∧ t E d σ3 T R
def lowGs (P : Program) (w : World) (K : PySem.W.Frag) (W : WX) (t : TGs3) : TGs := fun vs σ H Q => ∃ E σ3 T R ds, AtG P w K W σ H Q E σ3 T R ∧ RepL K T H ds vs ∧ t E ds σ3 T R
def PG3 (X : Cx) (W : WX) (target : Expr) (t : TG3) : Prop := PG X target (lowG X.prog X.w X.K W t)
def PGs3 (X : Cx) (W : WX) (ts : List Expr) (t : TGs3) : Prop := PGs X ts (lowGs X.prog X.w X.K W t)
theorem PG.imp {X : Cx} {e : Expr} {t u : TG} (h : PG X e t) (i : ∀ v σ H Q, u v σ H Q → t v σ H Q) : PG X e u := ⟨fun pins s σ H v x Q I r hw => h.run pins s σ H v x Q I r (i v σ H Q hw)⟩
theorem PGs.imp {X : Cx} {es : List Expr} {t u : TGs} (h : PGs X es t) (i : ∀ v σ H Q, u v σ H Q → t v σ H Q) : PGs X es u := ⟨fun pins s σ H v x Q I r hw => h.run pins s σ H v x Q I r (i v σ H Q hw)⟩
section
variable {X : Cx} {W : WX}
def g3Name (i : Nat) : TG3 := fun _ d σ T Q => Q (σ.set i (some d)) T
theorem pg3_name {i : Nat} {x : Str} {pos : Pos} (hN : X.N.Nodup) (hi : X.N[i]? = some x) (hx : Loc X.env.scope x) (hf : X.fn x = true ∨ X.env.scope.names.lookup x = some .local := by first | exact .inl rfl | exact .inr rfl | assumption) : PG3 X W (.Name x pos) (g3Name i) :=
  PG.imp (pg_name hN hi hx hf) fun v σ H Q h => by
    obtain ⟨E, σ3, T, R, d, A, r, h⟩ := h
    exact (A.next (Step.refl _ _) A.rh (A.rs.set r)).fin h
def g3Nil : TGs3 := fun _ ds σ T Q => ds = [] ∧ Q σ T
def g3Cons (t : TG3) (u : TGs3) : TGs3 := fun E ds σ T Q => match ds with
  | d :: r => t E d σ T fun σ' T' => u E r σ' T' Q
  | [] => False
theorem pgs3_nil : PGs3 X W [] g3Nil := PGs.imp pgs_nil fun vs σ H Q h => by
  obtain ⟨E, σ3, T, R, ds, A, r, e, h⟩ := h
  subst e
  cases r
  exact ⟨rfl, A.fin h⟩
theorem pgs3_cons {e : Expr} {es : List Expr} {t : TG3} {u : TGs3} (h1 : PG3 X W e t) (h2 : PGs3 X W es u)
    (hs : (assignEach (e :: es) X.env).map (·.2) = assign e X.env :: (assignEach es X.env).map (·.2) := by rfl) : PGs3 X W (e :: es) (g3Cons t u) := PGs.imp (pgs_cons h1 h2 hs) fun vs σ H Q h => by
  obtain ⟨E, σ3, T, R, ds, A, r, h⟩ := h
  cases r with
  | nil => exact h.elim
  | cons a b => exact ⟨_, _, rfl, E, σ3, T, _, _, A.subG fun σ3' T' σ' H' A' s h' => ⟨E, σ3', T', R, _, A', b.step s, h'⟩, a, h⟩
/-- (a, b, ..) = a tuple -/
def g3Tup (n : Nat) (t : TGs3) : TG3 := fun E d σ T Q => match d with
  | .tup ds => ds.length = n ∧ t E ds σ T Q
  | _ => False
theorem pg3_tup {es : List Expr} {k : Nat} {t : TGs3} {n : Nat} {pos : Pos} (hc : X.calm = true) (h : PGs3 X W es t)
    (hn : (assignEach es X.env).length = n := by rfl) (hst : (assignEach es X.env).findIdx? (·.1) = none := by rfl) : PG3 X W (.Tuple es k pos) (g3Tup n t) := PG.imp (pg_tup hc h hn hst) fun v σ H Q h => by
  obtain ⟨E, σ3, T, R, d, A, r, h⟩ := h
  unfold g3Tup at h
  split at h
  · next ds =>
    cases r with
    | tup hs ht hr => exact ⟨_, _, rfl, hs, by rw [← hr.length]; exact h.1, E, σ3, T, R, ds, A, hr, h.2⟩
  · exact h.elim
/-- a list unpacked -/
def g3Lst (n : Nat) (t : TGs3) : TG3 := fun E d σ T Q => match d with
  | .ref p => ∃ ds, T p = some (.lst ds) ∧ ds.length = n ∧ t E ds σ T Q
  | _ => False
def t3Asg (te : TE3) (g : TG3) : TS3 := fun D σ T => te (exE D σ) σ T fun x T1 => g (fun _ _ _ => False) x σ T1 D.nx
theorem low_asg {te : TE3} {g : TG3} : ∀ D' σ H, lowS X.prog X.w X.K W (t3Asg te g) D' σ H → tAsg (low X.prog X.w X.K (Rep X.K) W te) (lowG X.prog X.w X.K W g) D' σ H := fun D' σ H h => by
  obtain ⟨D3, σ3, T, A, h⟩ := h
  exact ⟨_, σ3, T, _, A.sub fun d T1 v H1 A1 h1 r1 => ⟨_, σ3, T1, _, d, ⟨A1.rs, A1.rh, fun a b c e f g i j => A1.nx a b c e f g i j, fun _ _ _ _ _ _ _ z => z.elim⟩, r1, h1⟩, h⟩
theorem ps3_asg {tg e : Expr} {te : TE3} {g : TG3} {pos : Pos} (he : PE3 X W e te) (hg : PG3 X W tg g) (hs : swapsWithSole [tg] e pos.line X.env = pure false := by rfl) (hw : swappedStores [tg] e X.env = pure none := by rfl)
    (h1 : (assignEach [tg] X.env).map (·.2) = [assign tg X.env] := by rfl) : PS3 X W (.Assign [tg] e pos) (t3Asg te g) := PS.imp (ps_asg he hg hs hw h1) low_asg
theorem ps3_set {i : Nat} {x : Str} {e : Expr} {te : TE3} {pos pos' : Pos} (hN : X.N.Nodup) (hi : X.N[i]? = some x) (hx : Loc X.env.scope x) (he : PE3 X W e te) (hs : swapsWith e (some (.Name x pos')) pos.line X.env = pure false := by rfl) (hf : X.fn x = true ∨ X.env.scope.names.lookup x = some .local := by first | exact .inl rfl | exact .inr rfl | assumption) :
    PS3 X W (.Assign [.Name x pos'] e pos) (t3Asg te (g3Name i)) := PS.imp (ps_set hN hi hx he hs hf) fun D' σ H h => by
  obtain ⟨D3, σ3, T, A, h⟩ := h
  exact ⟨_, σ3, T, _, A.sub fun d T1 v H1 A1 h1 r1 => (A1.next (Step.refl _ _) A1.rh (A1.rs.set r1)).fin h1, h⟩
/-- a, b = x, y with plain local names -/
def t3Par (i j : Nat) (ta : Rd3 (List D)) : TS3 := fun D σ T => ta (exE D σ) σ T fun ds T1 => match ds with
  | [v, w] => D.nx ((σ.set i (some v)).set j (some w)) T1
  | _ => False
theorem ps3_par {i j : Nat} {x y : Str} {a b : Expr} {ta : Rd3 (List D)} {px py pt : Pos} {kt k2 pt2} {pos : Pos} (hc : X.calm = true) (hN : X.N.Nodup) (hi : X.N[i]? = some x) (hj : X.N[j]? = some y) (hij : i ≠ j)
    (hx : X.env.scope.names.lookup x = some .local) (hy : X.env.scope.names.lookup y = some .local) (ha : PA3 X W [a, b] ta)
    (hw : swappedStores [.Tuple [.Name x px, .Name y py] kt pt] (.Tuple [a, b] k2 pt2) X.env = pure (some [x, y]))
    (hs : swapsWithSole [.Tuple [.Name x px, .Name y py] kt pt] (.Tuple [a, b] k2 pt2) pos.line X.env = pure false := by rfl) :
    PS3 X W (.Assign [.Tuple [.Name x px, .Name y py] kt pt] (.Tuple [a, b] k2 pt2) pos) (t3Par i j ta) := PS.imp (ps_par hc hN hi hj hij hx hy ha hw hs) fun D' σ H h => by
  obtain ⟨D3, σ3, T, A, h⟩ := h
  refine ⟨_, σ3, T, _, A.sub fun ds T1 vs H1 A1 h1 r1 => ?_, h⟩
  split at h1
  · cases r1 with
    | cons a b =>
      cases b with
      | cons a' b' =>
        cases b'
        exact ⟨_, _, rfl, (A1.next (Step.refl _ _) A1.rh ((A1.rs.set a).set a')).fin h1⟩
  · exact h1.elim
/-- name op= e -/
def t3Aug (i : Nat) (te : TE3) (r : R23) : TS3 := fun D σ T => match σ[i]? with
  | some (some x) => te (exE D σ) σ T fun y T1 => r x y T1 fun z T2 => D.nx (σ.set i (some z)) T2
  | _ => False
theorem ps3_aug {i : Nat} {x : Str} {e : Expr} {te : TE3} {op : Operator} {r : R23} {pos pos' : Pos} (hN : X.N.Nodup) (hi : X.N[i]? = some x) (hx : Loc X.env.scope x) (he : PE3 X W e te) (ho : OpR3 X (inplaceOp op) r)
    (hf : X.fn x = true ∨ X.env.scope.names.lookup x = some .local := by first | exact .inl rfl | exact .inr rfl | assumption) : PS3 X W (.AugAssign (.Name x pos') op e pos) (t3Aug i te r) :=
  PS.imp (ps_aug (ti := fun x y H Q => ∃ d e T R, RepH X.prog X.w X.K T H ∧ Rep X.K T H d x ∧ Rep X.K T H e y ∧ QC X T H R Q ∧ r d e T R) hN hi hx he (fun pins s σ H x y v u Q I r1 r2 h => ho pins s σ H x y v u Q I r1 r2 h) hf) fun D' σ H h => by
    obtain ⟨D3, σ3, T, A, h⟩ := h
    unfold t3Aug at h
    split at h
    · next d e1 =>
      obtain ⟨v, e2, r0⟩ := A.rs.2 i d e1
      refine ⟨v, e2, _, σ3, T, _, ⟨A.rs, A.rh, (fun y T1 u H1 h1 s1 rh1 r1 => ?_), fun c fs T' d gs H' a b e f g => A.ex c fs σ3 T' d gs σ H' a b e (A.rs.step b) f g⟩, h⟩
      have A1 := A.next s1 rh1 (A.rs.step s1)
      refine ⟨d, y, T1, _, rh1, r0.step s1, r1, (fun z T2 zv H2 h2 s2 rh2 r2 => ?_), h1⟩
      exact (A1.next s2 rh2 ((A1.rs.step s2).set r2)).fin h2
    · exact h.elim
/-! ### calls -/
abbrev Sp3 := List D → T3 → (D → T3 → Prop) → EX3 → Prop
def lowSp (P : Program) (w : World) (K : PySem.W.Frag) (sp : Sp3) : Sp := fun vs H Q E => ∃ ds T R EE, RepL K T H ds vs ∧ RepH P w K T H ∧
  (∀ d T' v H', R d T' → Step T H T' H' → RepH P w K T' H' → Rep K T' H' d v → Q v H') ∧
  (∀ c fs T' d gs H', EE c fs T' → Step T H T' H' → RepH P w K T' H' → H' d = some (.xd gs) → RepF K T' H' fs gs → E (.ref (He.ga K c)) (some d) H') ∧ sp ds T R EE
end
/-- a def keeps a promise, by at most level k -/
def Fn3 (P : Program) (w : World) (K : PySem.W.Frag) (mg : Str → Option Value) (base : Heap) (k : Nat) (f : Addr) (fd : FuncData) (ps : List Str) (sp : Sp3) : Prop := FnOk P w K mg base (L2.CX P w) k f fd ps (lowSp P w K sp)
theorem Fn3.imp {P : Program} {w : World} {K : PySem.W.Frag} {mg : Str → Option Value} {base : Heap} {k : Nat} {f : Addr} {fd : FuncData} {ps : List Str} {sp sp' : Sp3} (F : Fn3 P w K mg base k f fd ps sp) (h : ∀ ds T R E, sp' ds T R E → sp ds T R E) :
    Fn3 P w K mg base k f fd ps sp' := FnOk.imp F fun vs H Q E ⟨ds, T, R, EE, a, b, c, d, e⟩ => ⟨ds, T, R, EE, a, b, c, d, h _ _ _ _ e⟩
section
variable {P : Program} {w : World} {K : PySem.W.Frag} {mg : Str → Option Value} {base : Heap} {x qual : Str} {params : Arguments} {body : List Stmt} {scope : Scope} {dvs : List V} {kws : List (Str × V)} {f : Addr} {fd : FuncData}
/-- what leaves a def -/
abbrev wE (E : XK) : WX := fun c d _ H => E c d H
/-- THE RULE for a def -/
theorem fn3_of {N ps : List Str} {k : Nat} {sp : Sp3} (F : FunD K x qual params body scope dvs kws f fd) (S : FnScope N ps scope) (len : ∀ ds T R E, sp ds T R E → ds.length = ps.length) (t : TS3)
    (hb : ∀ (cdv : Value) (A : Around) (outer : List Env) (s : Shared) (H : Hp) (E : XK), Room k (A.deeper (envOfC qual scope s.heap.objs.size f cdv)) →
      Takes (cxOf (L2.CX P w) P w K mg base N qual scope f cdv A outer s H E) (wE E) → PSs3 (cxOf (L2.CX P w) P w K mg base N qual scope f cdv A outer s H E) (wE E) body t)
    (hr : ∀ ds T R E, sp ds T R E → t { nx := fun _ T' => R .non T', rt := R, ex := fun c fs _ T' => E c fs T' } (start3 N ds) T) : Fn3 P w K mg base (k + 1) f fd ps (sp) := by
  refine F.ok S (fun vs H Q E h => ?_) (fun cdv A outer s H vs Q E hrm h => ⟨_, hb cdv A outer s H E hrm (takes_of rfl rfl rfl rfl), ?_⟩)
  · obtain ⟨ds, T, R, EE, a, _, _, _, e⟩ := h
    rw [← a.length]
    exact len _ _ _ _ e
  · obtain ⟨ds, T, R, EE, a, b, c, d, e⟩ := h
    refine ⟨_, _, T, ⟨RepS.start a, b, (fun σ3' T' σ' H' h1 h2 h3 h4 => c _ _ _ _ h1 h2 h3 .non), (fun _ _ _ _ z => False.elim z), (fun _ _ _ _ z => False.elim z), (fun d' T' v H' h1 h2 h3 h4 => c _ _ _ _ h1 h2 h3 h4), (fun c' fs σ3' T' d' gs σ' H' h1 h2 h3 h4 h5 h6 => d _ _ _ _ _ _ h1 h2 h3 h5 h6)⟩, hr _ _ _ _ e⟩
end
section
variable {X : Cx} {W : WX} {k : Nat} {f : Addr} {fd : FuncData} {ps : List Str} {sp : Sp3} {dvs : List V} {dds : List D} {ds : List Value} {x : Str} {p pos : Pos} {e : Expr} {es : List Expr} {t : Rd3 (List D)}
/-- a call: whnf stops here -/
structure Go (sp : Sp3) (ds : List D) (T : T3) (R : D → T3 → Prop) (E : EX3) : Prop where
  run : sp ds T R E
def t3Call (sp : Sp3) (dds : List D) (t : Rd3 (List D)) : TE3 := fun E σ T R => t E σ T fun ds T1 => Go sp (ds ++ dds) T1 R E
theorem low_call (hq : ∀ T H, RepL X.K T H dds dvs) : ∀ σ H Q, low X.prog X.w X.K (Rep X.K) W (t3Call sp dds t) σ H Q → tCallSD (lowSp X.prog X.w X.K sp) dvs (WE W) (low X.prog X.w X.K (RepL X.K) W t) σ H Q := fun σ H Q h => by
  obtain ⟨E, σ3, T, R, A, h⟩ := h
  refine ⟨E, σ3, T, _, A.sub fun ds T1 vs H1 A1 s1 h1 r1 => ?_, h⟩
  exact ⟨_, T1, R, E, r1.append (hq _ _), A1.rh, A1.q, A1.x, h1.run⟩
theorem pe3_call (F : Fn3 X.prog X.w X.K X.mg X.base k f fd ps sp) (tk : Takes X W) (hr : Room k X.A) (hg : Gl X x) (hm : X.mg x = some (.ref f)) (hk : PySem.W.keepIn X.K (.ref f) = true) (hb : Binds X.K fd ps ds) (hd : Vals dvs ds) (hq : ∀ T H, RepL X.K T H dds dvs)
    (ha : PA3 X W (e :: es) t) (hdb : (x == ("__debug__" : Str)) = false := by decide) (he : starEach (e :: es) X.env = (false, eval e X.env) :: starEach es X.env := by rfl) (hpl : (backTo pos (starEach es X.env)).any (·.1) = false := by rfl) :
    PE3 X W (.Call (.Name x p) (e :: es) [] pos) (t3Call sp dds t) := PE.imp (pe_callSD F hr hg hm hk hb hd (fun σ => passAt tk σ) ha hdb he hpl) (low_call hq)
end
end L3
namespace L3
open PySem PySem.Spec L2
open PyProof.Rows hiding St
/-! ### == of data -/
/-- what a list holds -/
def itemsOf (T : T3) (p : Addr) : Option (List D) := match T p with
  | some (.lst xs) => some xs
  | some (.rol xs) => some xs
  | _ => none
/-- data of depth below n -/
def okN (T : T3) : Nat → D → Bool
  | 0, _ => false
  | n + 1, d => match d with
    | .non => true
    | .bl _ => true
    | .int _ => true
    | .str _ => true
    | .tup ds => ds.all (okN T n)
    | .ref p => (match itemsOf T p with
      | some xs => xs.all (okN T n)
      | none => false)
    | .ob _ _ => false
    | .exc _ _ _ _ => false
    | .lam _ _ _ _ _ => false
def eqN (T : T3) : Nat → D → D → Bool
  | 0, _, _ => false
  | n + 1, d, e => match d, e with
    | .non, .non => true
    | .bl a, .bl b => a == b
    | .bl a, .int j => (if a then 1 else 0) == j
    | .int i, .bl b => i == (if b then 1 else 0)
    | .int i, .int j => i == j
    | .str a, .str b => a == b
    | .tup xs, .tup ys => xs.length == ys.length && (List.zipWith (eqN T n) xs ys).all id
    | .ref p, .ref q => (match itemsOf T p, itemsOf T q with
      | some xs, some ys => xs.length == ys.length && (List.zipWith (eqN T n) xs ys).all id
      | _, _ => false)
    | _, _ => false
theorem all_zip_self {α : Type} {f : α → α → Bool} : ∀ {xs : List α}, (∀ x ∈ xs, f x x = true) → (List.zipWith f xs xs).all id = true
  | [], _ => rfl
  | x :: xs, h => by
    rw [List.zipWith_cons_cons, List.all_cons]
    simp only [id, h x (List.mem_cons_self ..), Bool.true_and]
    exact all_zip_self fun y hy => h y (List.mem_cons_of_mem _ hy)
theorem eqN_self {T : T3} : ∀ {n : Nat} {d : D}, okN T n d = true → eqN T n d d = true
  | 0, _, h => by cases h
  | n + 1, d, h => by
    cases d with
    | non => rfl
    | bl b => simp [eqN]
    | int i => simp [eqN]
    | str x => simp [eqN]
    | tup ds =>
      have h' : ds.all (okN T n) = true := h
      show (ds.length == ds.length && (List.zipWith (eqN T n) ds ds).all id) = true
      rw [all_zip_self fun x hx => eqN_self (List.all_eq_true.mp h' x hx)]; simp
    | ref p =>
      have h' : (match itemsOf T p with
        | some xs => xs.all (okN T n)
        | none => false) = true := h
      show (match itemsOf T p, itemsOf T p with
        | some xs, some ys => xs.length == ys.length && (List.zipWith (eqN T n) xs ys).all id
        | _, _ => false) = true
      cases e : itemsOf T p with
      | none => rw [e] at h'; cases h'
      | some xs =>
        rw [e] at h'
        show (xs.length == xs.length && (List.zipWith (eqN T n) xs xs).all id) = true
        rw [all_zip_self fun x hx => eqN_self (List.all_eq_true.mp h' x hx)]; simp
    | ob c fs => cases h
    | exc _ _ _ _ => cases h
    | lam _ _ _ _ _ => cases h
section
variable {X : Cx} {pins : List (Addr × Obj)} {σ : St} {H : Hp} {s : Shared} {T : T3}
theorem items_sq (rh : RepH X.prog X.w X.K T H) {p : Addr} {xs : List D} (h : itemsOf T p = some xs) : ∃ vs, SqL X.K H p vs ∧ RepL X.K T H xs vs := by
  unfold itemsOf at h
  split at h
  · next e => cases h; obtain ⟨vs, a, r⟩ := rh p _ e; exact ⟨vs, SqL.of a, r⟩
  · next e => cases h; obtain ⟨vs, o, a, r⟩ := rh p _ e; exact ⟨vs, .inl (.inr ⟨o, a⟩), r⟩
  · cases h
theorem lst_tup (I : Inv X pins σ H s) {a : Addr} {xs ys : List V} (h1 : SqL X.K H a xs) (h2 : SqT X.K H a ys) : False := by
  obtain ⟨its, r, ⟨o, n, e, c, _, d⟩, _⟩ := I.list h1
  obtain ⟨its', r', ⟨o', e', c', n', d'⟩, _⟩ := I.tuple h2
  rw [e] at e'; cases e'
  rw [c] at c'
  injection c' with z
  exact absurd z (by decide)
theorem ok_ref {n : Nat} {l : Addr} (h : okN T (n + 1) (.ref l) = true) : ∃ xs, itemsOf T l = some xs ∧ xs.all (okN T n) = true := by
  have h' : (match itemsOf T l with
    | some xs => xs.all (okN T n)
    | none => false) = true := h
  cases e : itemsOf T l with
  | none => rw [e] at h'; cases h'
  | some xs => rw [e] at h'; exact ⟨xs, rfl, h'⟩
mutual
theorem rep_inj (I : Inv X pins σ H s) (rh : RepH X.prog X.w X.K T H) : ∀ (n m : Nat) (d e : D) (v : V), okN T n d = true → okN T m e = true → Rep X.K T H d v → Rep X.K T H e v → d = e
  | 0, _, _, _, _, h, _, _, _ => by cases h
  | _ + 1, 0, _, _, _, _, h, _, _ => by cases h
  | n + 1, m + 1, d, e, v, h1, h2, r1, r2 => by
    cases r1 with
    | non => cases r2; rfl
    | bl b => cases r2; rfl
    | int i => cases r2; rfl
    | str x => cases r2; rfl
    | ref a =>
      cases r2 with
      | ref _ => rfl
      | tup q t r =>
        obtain ⟨xs, e, _⟩ := ok_ref h1
        obtain ⟨vs, q2, _⟩ := items_sq rh e
        exact (lst_tup I q2 q).elim
      | ob _ _ _ => cases h2
      | exc _ _ _ => cases h2
      | lam _ _ _ => cases h2
    | tup q t r =>
      cases r2 with
      | ref a =>
        obtain ⟨xs, e, _⟩ := ok_ref h2
        obtain ⟨vs, q2, _⟩ := items_sq rh e
        exact (lst_tup I q2 q).elim
      | tup q' t' r' =>
        have e := I.tuple_inj q q'
        subst e
        exact congrArg D.tup (repL_inj I rh n m _ _ _ h1 h2 r r')
      | ob _ _ _ => cases h2
      | exc _ _ _ => cases h2
      | lam _ _ _ => cases h2
    | ob _ _ _ => cases h1
    | exc _ _ _ => cases h1
    | lam _ _ _ => cases h1
theorem repL_inj (I : Inv X pins σ H s) (rh : RepH X.prog X.w X.K T H) : ∀ (n m : Nat) (ds es : List D) (vs : List V), ds.all (okN T n) = true → es.all (okN T m) = true → RepL X.K T H ds vs → RepL X.K T H es vs → ds = es
  | n, m, [], es, vs, _, _, r1, r2 => by cases r1; cases r2; rfl
  | n, m, d :: ds, es, vs, h1, h2, r1, r2 => by
    cases r1 with
    | cons a b =>
      cases r2 with
      | cons a' b' =>
        rw [List.all_cons, Bool.and_eq_true] at h1 h2
        rw [rep_inj I rh n m _ _ _ h1.1 h2.1 a a', repL_inj I rh n m _ _ _ h1.2 h2.2 b b']
end
/-- a sequence's ends of the list rules -/
def pairF (f : D → D → Bool) (xs ys : List D) (j : Nat) : Bool := match xs[j]?, ys[j]? with
  | some x, some y => f x y
  | _, _ => true
theorem range_all (f : D → D → Bool) : ∀ (xs ys : List D), xs.length = ys.length → (List.range xs.length).all (pairF f xs ys) = (List.zipWith f xs ys).all id
  | [], [], _ => rfl
  | [], _ :: _, h => by cases h
  | _ :: _, [], h => by cases h
  | x :: xs, y :: ys, h => by
    rw [List.length_cons, List.range_succ_eq_map, List.all_cons, List.zipWith_cons_cons, List.all_cons, List.all_map]
    have ih := range_all f xs ys (by simpa using h)
    rw [← ih]
    rfl
theorem range_all_min (f : D → D → Bool) (xs ys : List D) : ((List.range (min xs.length ys.length)).all (pairF f xs ys) && xs.length == ys.length) = (xs.length == ys.length && (List.zipWith f xs ys).all id) := by
  by_cases e : xs.length = ys.length
  · rw [show min xs.length ys.length = xs.length by omega, range_all f xs ys e]
    simp [e]
  · have z : (xs.length == ys.length) = false := by simpa using e
    rw [z]; simp
theorem relV_ref {a : Addr} {u : Value} (r : RelV (.ref a) u) : u = .ref a := r
theorem eqAt_rep (I : Inv X pins σ H s) (rh : RepH X.prog X.w X.K T H) : ∀ (n : Nat) (A : Around) (d e : D) (v w : V) (a b : Value), okN T n d = true → okN T n e = true → Rep X.K T H d v → Rep X.K T H e w → RelV v a → RelV w b → A.units + n < cLine →
    SeqAt.EqAt A s a b (eqN T n d e)
  | 0, _, _, _, _, _, _, _, h, _, _, _, _, _, _ => by cases h
  | n + 1, A, d, e, v, w, a, b, h1, h2, r1, r2, q1, q2, hu => by
    have hu' : A.units < cLine := by omega
    have hui : A.in1.units + n < cLine := by show A.units + 1 + n < cLine; omega
    -- what a sequence is
    have seqs : ∀ {xs : List D} {l : Addr}, itemsOf T l = some xs → ∃ its : List Value, s.heap.IsList l its.toArray ∧ ∃ vs, Vals vs its ∧ RepL X.K T H xs vs ∧ SqL X.K H l vs := fun {xs l} e => by
      obtain ⟨vs, q, r⟩ := items_sq rh e
      obtain ⟨its, rv, pl, _⟩ := I.list q
      exact ⟨its, pl.isList, vs, rv, r, q⟩
    have each : ∀ {xs ys : List D} {vs ws : List V} {us zs : List Value}, xs.all (okN T n) = true → ys.all (okN T n) = true → RepL X.K T H xs vs → RepL X.K T H ys ws → Vals vs us → Vals ws zs → ∀ j (j1 : j < us.toArray.size) (j2 : j < zs.toArray.size),
        SeqAt.EqAt A.in1 s us.toArray[j] zs.toArray[j] (pairF (eqN T n) xs ys j) := fun {xs ys vs ws us zs} o1 o2 rx ry rv rw' j j1 j2 => by
      have k1 : j < us.length := by simpa using j1
      have k2 : j < zs.length := by simpa using j2
      have l1 : j < vs.length := by rw [rv.length]; exact k1
      have l2 : j < ws.length := by rw [rw'.length]; exact k2
      obtain ⟨x, ex, px⟩ := rx.getV (List.getElem?_eq_getElem l1)
      obtain ⟨y, ey, py⟩ := ry.getV (List.getElem?_eq_getElem l2)
      obtain ⟨u, eu, pu⟩ := rv.get (List.getElem?_eq_getElem l1)
      obtain ⟨z, ez, pz⟩ := rw'.get (List.getElem?_eq_getElem l2)
      have e1 : us.toArray[j] = u := by
        have := List.getElem?_eq_getElem k1
        rw [eu] at this
        simpa using (Option.some.inj this).symm
      have e2 : zs.toArray[j] = z := by
        have := List.getElem?_eq_getElem k2
        rw [ez] at this
        simpa using (Option.some.inj this).symm
      have e3 : pairF (eqN T n) xs ys j = eqN T n x y := by unfold pairF; rw [ex, ey]
      rw [e1, e2, e3]
      exact eqAt_rep I rh n A.in1 x y _ _ u z (List.all_eq_true.mp o1 x (List.mem_of_getElem? ex)) (List.all_eq_true.mp o2 y (List.mem_of_getElem? ey)) px py pu pz hui
    cases r1 with
    | non =>
      cases q1
      cases r2 with
      | non => cases q2; exact SeqAt.EqAt.same _
      | bl y => cases q2; exact SeqAt.EqAt.none_bool y
      | int y => obtain ⟨u, rfl⟩ := q2; exact SeqAt.EqAt.none_int y u
      | str y => obtain ⟨u, rfl⟩ := q2; exact SeqAt.EqAt.none_str y u
      | ref l => cases q2; obtain ⟨xs, e1, _⟩ := ok_ref h2; obtain ⟨its, hl, _⟩ := seqs e1; exact SeqAt.EqAt.none_list hl hu'
      | tup q t r => cases q2; obtain ⟨its, _, hl, _⟩ := I.tuple q; exact SeqAt.EqAt.none_tuple hl hu'
      | ob _ _ _ => cases h2
      | exc _ _ _ => cases h2
      | lam _ _ _ => cases h2
    | bl x =>
      cases q1
      cases r2 with
      | non => cases q2; exact SeqAt.EqAt.bool_none x
      | bl y => cases q2; exact SeqAt.EqAt.bool_bool x y
      | int y => obtain ⟨u, rfl⟩ := q2; exact SeqAt.EqAt.bool_int x y u
      | str y => obtain ⟨u, rfl⟩ := q2; exact SeqAt.EqAt.bool_str x y u
      | ref l => cases q2; obtain ⟨xs, e1, _⟩ := ok_ref h2; obtain ⟨its, hl, _⟩ := seqs e1; exact SeqAt.EqAt.bool_list x hl hu'
      | tup q t r => cases q2; obtain ⟨its, _, hl, _⟩ := I.tuple q; exact SeqAt.EqAt.bool_tuple x hl hu'
      | ob _ _ _ => cases h2
      | exc _ _ _ => cases h2
      | lam _ _ _ => cases h2
    | int x =>
      obtain ⟨t1, rfl⟩ := q1
      cases r2 with
      | non => cases q2; exact SeqAt.EqAt.int_none x t1
      | bl y => cases q2; exact SeqAt.EqAt.int_bool x t1 y
      | int y => obtain ⟨u, rfl⟩ := q2; exact SeqAt.EqAt.int_int x t1 y u
      | str y => obtain ⟨u, rfl⟩ := q2; exact SeqAt.EqAt.int_str x t1 y u
      | ref l => cases q2; obtain ⟨xs, e1, _⟩ := ok_ref h2; obtain ⟨its, hl, _⟩ := seqs e1; exact SeqAt.EqAt.int_list x t1 hl hu'
      | tup q t r => cases q2; obtain ⟨its, _, hl, _⟩ := I.tuple q; exact SeqAt.EqAt.int_tuple x t1 hl hu'
      | ob _ _ _ => cases h2
      | exc _ _ _ => cases h2
      | lam _ _ _ => cases h2
    | str x =>
      obtain ⟨t1, rfl⟩ := q1
      cases r2 with
      | non => cases q2; exact SeqAt.EqAt.str_none x t1
      | bl y => cases q2; exact SeqAt.EqAt.str_bool x t1 y
      | int y => obtain ⟨u, rfl⟩ := q2; exact SeqAt.EqAt.str_int x t1 y u
      | str y => obtain ⟨u, rfl⟩ := q2; exact SeqAt.EqAt.str_str x t1 y u
      | ref l => cases q2; obtain ⟨xs, e1, _⟩ := ok_ref h2; obtain ⟨its, hl, _⟩ := seqs e1; exact SeqAt.EqAt.str_list x t1 hl hu'
      | tup q t r => cases q2; obtain ⟨its, _, hl, _⟩ := I.tuple q; exact SeqAt.EqAt.str_tuple x t1 hl hu'
      | ob _ _ _ => cases h2
      | exc _ _ _ => cases h2
      | lam _ _ _ => cases h2
    | ref l =>
      cases q1
      obtain ⟨xs, e1, o1⟩ := ok_ref h1
      obtain ⟨its, hl, vs, rv, rx, sl⟩ := seqs e1
      cases r2 with
      | non => cases q2; exact SeqAt.EqAt.list_none hl hu'
      | bl y => cases q2; exact SeqAt.EqAt.list_bool y hl hu'
      | int y => obtain ⟨u, rfl⟩ := q2; exact SeqAt.EqAt.list_int y u hl hu'
      | str y => obtain ⟨u, rfl⟩ := q2; exact SeqAt.EqAt.list_str y u hl hu'
      | tup q t r => cases q2; obtain ⟨its', _, hl', _⟩ := I.tuple q; exact SeqAt.EqAt.list_tuple hl hl' hu'
      | ob _ _ _ => cases h2
      | exc _ _ _ => cases h2
      | lam _ _ _ => cases h2
      | ref l' =>
        cases q2
        obtain ⟨ys, e2, o2⟩ := ok_ref h2
        obtain ⟨its', hl', ws, rw', ry, sl'⟩ := seqs e2
        have e3 : eqN T (n + 1) (.ref l) (.ref l') = (xs.length == ys.length && (List.zipWith (eqN T n) xs ys).all id) := by
          show (match itemsOf T l, itemsOf T l' with
            | some xs, some ys => xs.length == ys.length && (List.zipWith (eqN T n) xs ys).all id
            | _, _ => false) = _
          rw [e1, e2]
        have n1 : its.toArray.size = xs.length := by rw [rx.length, rv.length]; simp
        have n2 : its'.toArray.size = ys.length := by rw [ry.length, rw'.length]; simp
        by_cases hll : l = l'
        · subst hll
          rw [eqN_self h1]
          exact SeqAt.EqAt.same _
        · rw [e3]
          by_cases hsz : xs.length = ys.length
          · rw [← range_all (eqN T n) xs ys hsz, ← n1]
            rw [show (its.toArray.size == ys.length) = true by rw [n1, hsz]; simp, Bool.true_and]
            exact SeqAt.EqAt.of_refs hll (SeqAt.RcAt.lists hl hl' (by rw [n1, n2, hsz]) hu' (each o1 o2 rx ry rv rw'))
          · rw [show (xs.length == ys.length) = false by simpa using hsz, Bool.false_and]
            exact SeqAt.EqAt.of_refs hll (SeqAt.RcAt.lists_lengths hl hl' (by rw [n1, n2]; simpa using hsz) hu')
    | tup q t r =>
      rename_i l vs xs
      cases q1
      obtain ⟨its, rv, hl, _⟩ := I.tuple q
      cases r2 with
      | non => cases q2; exact SeqAt.EqAt.tuple_none hl hu'
      | bl y => cases q2; exact SeqAt.EqAt.tuple_bool y hl hu'
      | int y => obtain ⟨u, rfl⟩ := q2; exact SeqAt.EqAt.tuple_int y u hl hu'
      | str y => obtain ⟨u, rfl⟩ := q2; exact SeqAt.EqAt.tuple_str y u hl hu'
      | ref l' => cases q2; obtain ⟨ys, e2, o2⟩ := ok_ref h2; obtain ⟨its', hl', _⟩ := seqs e2; exact SeqAt.EqAt.tuple_list hl hl' hu'
      | ob _ _ _ => cases h2
      | exc _ _ _ => cases h2
      | lam _ _ _ => cases h2
      | tup q' t' r' =>
        rename_i l' ws ys
        cases q2
        obtain ⟨its', rw', hl', _⟩ := I.tuple q'
        show SeqAt.EqAt A s (.ref l) (.ref l') (xs.length == ys.length && (List.zipWith (eqN T n) xs ys).all id)
        have n1 : its.toArray.size = xs.length := by rw [r.length, rv.length]; simp
        have n2 : its'.toArray.size = ys.length := by rw [r'.length, rw'.length]; simp
        by_cases hll : l = l'
        · subst hll
          have e := I.tuple_inj q q'
          subst e
          have e2 := repL_inj I rh n n _ _ _ (show xs.all (okN T n) = true from h1) (show ys.all (okN T n) = true from h2) r r'
          subst e2
          rw [all_zip_self fun x hx => eqN_self (List.all_eq_true.mp (show xs.all (okN T n) = true from h1) x hx)]
          simp only [beq_self_eq_true, Bool.true_and]
          exact SeqAt.EqAt.same _
        · rw [← range_all_min, ← n1, ← n2]
          exact SeqAt.EqAt.of_refs hll (SeqAt.RcAt.tuples hl hl' hu' (each h1 h2 r r' rv rw'))
    | ob _ _ _ => cases h1
    | exc _ _ _ => cases h1
    | lam _ _ _ => cases h1
theorem rcAt_rep (I : Inv X pins σ H s) (rh : RepH X.prog X.w X.K T H) : ∀ (n : Nat) (A : Around) (d e : D) (v w : V) (a b : Value), okN T n d = true → okN T n e = true → Rep X.K T H d v → Rep X.K T H e w → RelV v a → RelV w b → A.units + n < cLine →
    SeqAt.RcAt A s a b (eqN T n d e)
  | 0, _, _, _, _, _, _, _, h, _, _, _, _, _, _ => by cases h
  | n + 1, A, d, e, v, w, a, b, h1, h2, r1, r2, q1, q2, hu => by
    have hu' : A.units < cLine := by omega
    have hui : A.in1.units + n < cLine := by show A.units + 1 + n < cLine; omega
    -- what a sequence is
    have seqs : ∀ {xs : List D} {l : Addr}, itemsOf T l = some xs → ∃ its : List Value, s.heap.IsList l its.toArray ∧ ∃ vs, Vals vs its ∧ RepL X.K T H xs vs ∧ SqL X.K H l vs := fun {xs l} e => by
      obtain ⟨vs, q, r⟩ := items_sq rh e
      obtain ⟨its, rv, pl, _⟩ := I.list q
      exact ⟨its, pl.isList, vs, rv, r, q⟩
    have each : ∀ {xs ys : List D} {vs ws : List V} {us zs : List Value}, xs.all (okN T n) = true → ys.all (okN T n) = true → RepL X.K T H xs vs → RepL X.K T H ys ws → Vals vs us → Vals ws zs → ∀ j (j1 : j < us.toArray.size) (j2 : j < zs.toArray.size),
        SeqAt.EqAt A.in1 s us.toArray[j] zs.toArray[j] (pairF (eqN T n) xs ys j) := fun {xs ys vs ws us zs} o1 o2 rx ry rv rw' j j1 j2 => by
      have k1 : j < us.length := by simpa using j1
      have k2 : j < zs.length := by simpa using j2
      have l1 : j < vs.length := by rw [rv.length]; exact k1
      have l2 : j < ws.length := by rw [rw'.length]; exact k2
      obtain ⟨x, ex, px⟩ := rx.getV (List.getElem?_eq_getElem l1)
      obtain ⟨y, ey, py⟩ := ry.getV (List.getElem?_eq_getElem l2)
      obtain ⟨u, eu, pu⟩ := rv.get (List.getElem?_eq_getElem l1)
      obtain ⟨z, ez, pz⟩ := rw'.get (List.getElem?_eq_getElem l2)
      have e1 : us.toArray[j] = u := by
        have := List.getElem?_eq_getElem k1
        rw [eu] at this
        simpa using (Option.some.inj this).symm
      have e2 : zs.toArray[j] = z := by
        have := List.getElem?_eq_getElem k2
        rw [ez] at this
        simpa using (Option.some.inj this).symm
      have e3 : pairF (eqN T n) xs ys j = eqN T n x y := by unfold pairF; rw [ex, ey]
      rw [e1, e2, e3]
      exact eqAt_rep I rh n A.in1 x y _ _ u z (List.all_eq_true.mp o1 x (List.mem_of_getElem? ex)) (List.all_eq_true.mp o2 y (List.mem_of_getElem? ey)) px py pu pz hui
    cases r1 with
    | non =>
      cases q1
      cases r2 with
      | non => cases q2; exact SeqAt.RcAt.none_none
      | bl y => cases q2; exact SeqAt.RcAt.none_bool y
      | int y => obtain ⟨u, rfl⟩ := q2; exact SeqAt.RcAt.none_int y u
      | str y => obtain ⟨u, rfl⟩ := q2; exact SeqAt.RcAt.none_str y u
      | ref l => cases q2; obtain ⟨xs, e1, _⟩ := ok_ref h2; obtain ⟨its, hl, _⟩ := seqs e1; exact SeqAt.RcAt.none_list hl hu'
      | tup q t r => cases q2; obtain ⟨its, _, hl, _⟩ := I.tuple q; exact SeqAt.RcAt.none_tuple hl hu'
      | ob _ _ _ => cases h2
      | exc _ _ _ => cases h2
      | lam _ _ _ => cases h2
    | bl x =>
      cases q1
      cases r2 with
      | non => cases q2; exact SeqAt.RcAt.bool_none x
      | bl y => cases q2; exact SeqAt.RcAt.bool_bool x y
      | int y => obtain ⟨u, rfl⟩ := q2; exact SeqAt.RcAt.bool_int x y u
      | str y => obtain ⟨u, rfl⟩ := q2; exact SeqAt.RcAt.bool_str x y u
      | ref l => cases q2; obtain ⟨xs, e1, _⟩ := ok_ref h2; obtain ⟨its, hl, _⟩ := seqs e1; exact SeqAt.RcAt.bool_list x hl hu'
      | tup q t r => cases q2; obtain ⟨its, _, hl, _⟩ := I.tuple q; exact SeqAt.RcAt.bool_tuple x hl hu'
      | ob _ _ _ => cases h2
      | exc _ _ _ => cases h2
      | lam _ _ _ => cases h2
    | int x =>
      obtain ⟨t1, rfl⟩ := q1
      cases r2 with
      | non => cases q2; exact SeqAt.RcAt.int_none x t1
      | bl y => cases q2; exact SeqAt.RcAt.int_bool x t1 y
      | int y => obtain ⟨u, rfl⟩ := q2; exact SeqAt.RcAt.int_int x t1 y u
      | str y => obtain ⟨u, rfl⟩ := q2; exact SeqAt.RcAt.int_str x t1 y u
      | ref l => cases q2; obtain ⟨xs, e1, _⟩ := ok_ref h2; obtain ⟨its, hl, _⟩ := seqs e1; exact SeqAt.RcAt.int_list x t1 hl hu'
      | tup q t r => cases q2; obtain ⟨its, _, hl, _⟩ := I.tuple q; exact SeqAt.RcAt.int_tuple x t1 hl hu'
      | ob _ _ _ => cases h2
      | exc _ _ _ => cases h2
      | lam _ _ _ => cases h2
    | str x =>
      obtain ⟨t1, rfl⟩ := q1
      cases r2 with
      | non => cases q2; exact SeqAt.RcAt.str_none x t1
      | bl y => cases q2; exact SeqAt.RcAt.str_bool x t1 y
      | int y => obtain ⟨u, rfl⟩ := q2; exact SeqAt.RcAt.str_int x t1 y u
      | str y => obtain ⟨u, rfl⟩ := q2; exact SeqAt.RcAt.str_str x t1 y u
      | ref l => cases q2; obtain ⟨xs, e1, _⟩ := ok_ref h2; obtain ⟨its, hl, _⟩ := seqs e1; exact SeqAt.RcAt.str_list x t1 hl hu'
      | tup q t r => cases q2; obtain ⟨its, _, hl, _⟩ := I.tuple q; exact SeqAt.RcAt.str_tuple x t1 hl hu'
      | ob _ _ _ => cases h2
      | exc _ _ _ => cases h2
      | lam _ _ _ => cases h2
    | ref l =>
      cases q1
      obtain ⟨xs, e1, o1⟩ := ok_ref h1
      obtain ⟨its, hl, vs, rv, rx, sl⟩ := seqs e1
      cases r2 with
      | non => cases q2; exact SeqAt.RcAt.list_none hl hu'
      | bl y => cases q2; exact SeqAt.RcAt.list_bool y hl hu'
      | int y => obtain ⟨u, rfl⟩ := q2; exact SeqAt.RcAt.list_int y u hl hu'
      | str y => obtain ⟨u, rfl⟩ := q2; exact SeqAt.RcAt.list_str y u hl hu'
      | tup q t r => cases q2; obtain ⟨its', _, hl', _⟩ := I.tuple q; exact SeqAt.RcAt.list_tuple hl hl' hu'
      | ob _ _ _ => cases h2
      | exc _ _ _ => cases h2
      | lam _ _ _ => cases h2
      | ref l' =>
        cases q2
        obtain ⟨ys, e2, o2⟩ := ok_ref h2
        obtain ⟨its', hl', ws, rw', ry, sl'⟩ := seqs e2
        have e3 : eqN T (n + 1) (.ref l) (.ref l') = (xs.length == ys.length && (List.zipWith (eqN T n) xs ys).all id) := by
          show (match itemsOf T l, itemsOf T l' with
            | some xs, some ys => xs.length == ys.length && (List.zipWith (eqN T n) xs ys).all id
            | _, _ => false) = _
          rw [e1, e2]
        have n1 : its.toArray.size = xs.length := by rw [rx.length, rv.length]; simp
        have n2 : its'.toArray.size = ys.length := by rw [ry.length, rw'.length]; simp
        rw [e3]
        by_cases hsz : xs.length = ys.length
        · have e4 : (xs.length == ys.length && (List.zipWith (eqN T n) xs ys).all id) = (List.range its.toArray.size).all (pairF (eqN T n) xs ys) := by
            rw [n1, range_all (eqN T n) xs ys hsz, show (xs.length == ys.length) = true by simpa using hsz, Bool.true_and]
          rw [e4]
          exact SeqAt.RcAt.lists hl hl' (by rw [n1, n2, hsz]) hu' (each o1 o2 rx ry rv rw')
        · rw [show (xs.length == ys.length) = false by simpa using hsz, Bool.false_and]
          exact SeqAt.RcAt.lists_lengths hl hl' (by rw [n1, n2]; simpa using hsz) hu'
    | tup q t r =>
      rename_i l vs xs
      cases q1
      obtain ⟨its, rv, hl, _⟩ := I.tuple q
      cases r2 with
      | non => cases q2; exact SeqAt.RcAt.tuple_none hl hu'
      | bl y => cases q2; exact SeqAt.RcAt.tuple_bool y hl hu'
      | int y => obtain ⟨u, rfl⟩ := q2; exact SeqAt.RcAt.tuple_int y u hl hu'
      | str y => obtain ⟨u, rfl⟩ := q2; exact SeqAt.RcAt.tuple_str y u hl hu'
      | ref l' => cases q2; obtain ⟨ys, e2, o2⟩ := ok_ref h2; obtain ⟨its', hl', _⟩ := seqs e2; exact SeqAt.RcAt.tuple_list hl hl' hu'
      | ob _ _ _ => cases h2
      | exc _ _ _ => cases h2
      | lam _ _ _ => cases h2
      | tup q' t' r' =>
        rename_i l' ws ys
        cases q2
        obtain ⟨its', rw', hl', _⟩ := I.tuple q'
        have n1 : its.toArray.size = xs.length := by rw [r.length, rv.length]; simp
        have n2 : its'.toArray.size = ys.length := by rw [r'.length, rw'.length]; simp
        show SeqAt.RcAt A s (.ref l) (.ref l') ((xs.length == ys.length && (List.zipWith (eqN T n) xs ys).all id))
        rw [← range_all_min, ← n1, ← n2]
        exact SeqAt.RcAt.tuples hl hl' hu' (each h1 h2 r r' rv rw')
    | ob _ _ _ => cases h1
    | exc _ _ _ => cases h1
    | lam _ _ _ => cases h1
theorem rcNeAt_rep (I : Inv X pins σ H s) (rh : RepH X.prog X.w X.K T H) : ∀ (n : Nat) (A : Around) (d e : D) (v w : V) (a b : Value), okN T n d = true → okN T n e = true → Rep X.K T H d v → Rep X.K T H e w → RelV v a → RelV w b → A.units + n < cLine →
    SeqAt.RcNeAt A s a b (!eqN T n d e)
  | 0, _, _, _, _, _, _, _, h, _, _, _, _, _, _ => by cases h
  | n + 1, A, d, e, v, w, a, b, h1, h2, r1, r2, q1, q2, hu => by
    have hu' : A.units < cLine := by omega
    have hui : A.in1.units + n < cLine := by show A.units + 1 + n < cLine; omega
    -- what a sequence is
    have seqs : ∀ {xs : List D} {l : Addr}, itemsOf T l = some xs → ∃ its : List Value, s.heap.IsList l its.toArray ∧ ∃ vs, Vals vs its ∧ RepL X.K T H xs vs ∧ SqL X.K H l vs := fun {xs l} e => by
      obtain ⟨vs, q, r⟩ := items_sq rh e
      obtain ⟨its, rv, pl, _⟩ := I.list q
      exact ⟨its, pl.isList, vs, rv, r, q⟩
    have each : ∀ {xs ys : List D} {vs ws : List V} {us zs : List Value}, xs.all (okN T n) = true → ys.all (okN T n) = true → RepL X.K T H xs vs → RepL X.K T H ys ws → Vals vs us → Vals ws zs → ∀ j (j1 : j < us.toArray.size) (j2 : j < zs.toArray.size),
        SeqAt.EqAt A.in1 s us.toArray[j] zs.toArray[j] (pairF (eqN T n) xs ys j) := fun {xs ys vs ws us zs} o1 o2 rx ry rv rw' j j1 j2 => by
      have k1 : j < us.length := by simpa using j1
      have k2 : j < zs.length := by simpa using j2
      have l1 : j < vs.length := by rw [rv.length]; exact k1
      have l2 : j < ws.length := by rw [rw'.length]; exact k2
      obtain ⟨x, ex, px⟩ := rx.getV (List.getElem?_eq_getElem l1)
      obtain ⟨y, ey, py⟩ := ry.getV (List.getElem?_eq_getElem l2)
      obtain ⟨u, eu, pu⟩ := rv.get (List.getElem?_eq_getElem l1)
      obtain ⟨z, ez, pz⟩ := rw'.get (List.getElem?_eq_getElem l2)
      have e1 : us.toArray[j] = u := by
        have := List.getElem?_eq_getElem k1
        rw [eu] at this
        simpa using (Option.some.inj this).symm
      have e2 : zs.toArray[j] = z := by
        have := List.getElem?_eq_getElem k2
        rw [ez] at this
        simpa using (Option.some.inj this).symm
      have e3 : pairF (eqN T n) xs ys j = eqN T n x y := by unfold pairF; rw [ex, ey]
      rw [e1, e2, e3]
      exact eqAt_rep I rh n A.in1 x y _ _ u z (List.all_eq_true.mp o1 x (List.mem_of_getElem? ex)) (List.all_eq_true.mp o2 y (List.mem_of_getElem? ey)) px py pu pz hui
    cases r1 with
    | non =>
      cases q1
      cases r2 with
      | non => cases q2; exact SeqAt.RcNeAt.none_none
      | bl y => cases q2; exact SeqAt.RcNeAt.none_bool y
      | int y => obtain ⟨u, rfl⟩ := q2; exact SeqAt.RcNeAt.none_int y u
      | str y => obtain ⟨u, rfl⟩ := q2; exact SeqAt.RcNeAt.none_str y u
      | ref l => cases q2; obtain ⟨xs, e1, _⟩ := ok_ref h2; obtain ⟨its, hl, _⟩ := seqs e1; exact SeqAt.RcNeAt.none_list hl hu'
      | tup q t r => cases q2; obtain ⟨its, _, hl, _⟩ := I.tuple q; exact SeqAt.RcNeAt.none_tuple hl hu'
      | ob _ _ _ => cases h2
      | exc _ _ _ => cases h2
      | lam _ _ _ => cases h2
    | bl x =>
      cases q1
      cases r2 with
      | non => cases q2; exact SeqAt.RcNeAt.bool_none x
      | bl y => cases q2; exact SeqAt.RcNeAt.bool_bool x y
      | int y => obtain ⟨u, rfl⟩ := q2; exact SeqAt.RcNeAt.bool_int x y u
      | str y => obtain ⟨u, rfl⟩ := q2; exact SeqAt.RcNeAt.bool_str x y u
      | ref l => cases q2; obtain ⟨xs, e1, _⟩ := ok_ref h2; obtain ⟨its, hl, _⟩ := seqs e1; exact SeqAt.RcNeAt.bool_list x hl hu'
      | tup q t r => cases q2; obtain ⟨its, _, hl, _⟩ := I.tuple q; exact SeqAt.RcNeAt.bool_tuple x hl hu'
      | ob _ _ _ => cases h2
      | exc _ _ _ => cases h2
      | lam _ _ _ => cases h2
    | int x =>
      obtain ⟨t1, rfl⟩ := q1
      cases r2 with
      | non => cases q2; exact SeqAt.RcNeAt.int_none x t1
      | bl y => cases q2; exact SeqAt.RcNeAt.int_bool x t1 y
      | int y => obtain ⟨u, rfl⟩ := q2; exact SeqAt.RcNeAt.int_int x t1 y u
      | str y => obtain ⟨u, rfl⟩ := q2; exact SeqAt.RcNeAt.int_str x t1 y u
      | ref l => cases q2; obtain ⟨xs, e1, _⟩ := ok_ref h2; obtain ⟨its, hl, _⟩ := seqs e1; exact SeqAt.RcNeAt.int_list x t1 hl hu'
      | tup q t r => cases q2; obtain ⟨its, _, hl, _⟩ := I.tuple q; exact SeqAt.RcNeAt.int_tuple x t1 hl hu'
      | ob _ _ _ => cases h2
      | exc _ _ _ => cases h2
      | lam _ _ _ => cases h2
    | str x =>
      obtain ⟨t1, rfl⟩ := q1
      cases r2 with
      | non => cases q2; exact SeqAt.RcNeAt.str_none x t1
      | bl y => cases q2; exact SeqAt.RcNeAt.str_bool x t1 y
      | int y => obtain ⟨u, rfl⟩ := q2; exact SeqAt.RcNeAt.str_int x t1 y u
      | str y => obtain ⟨u, rfl⟩ := q2; exact SeqAt.RcNeAt.str_str x t1 y u
      | ref l => cases q2; obtain ⟨xs, e1, _⟩ := ok_ref h2; obtain ⟨its, hl, _⟩ := seqs e1; exact SeqAt.RcNeAt.str_list x t1 hl hu'
      | tup q t r => cases q2; obtain ⟨its, _, hl, _⟩ := I.tuple q; exact SeqAt.RcNeAt.str_tuple x t1 hl hu'
      | ob _ _ _ => cases h2
      | exc _ _ _ => cases h2
      | lam _ _ _ => cases h2
    | ref l =>
      cases q1
      obtain ⟨xs, e1, o1⟩ := ok_ref h1
      obtain ⟨its, hl, vs, rv, rx, sl⟩ := seqs e1
      cases r2 with
      | non => cases q2; exact SeqAt.RcNeAt.list_none hl hu'
      | bl y => cases q2; exact SeqAt.RcNeAt.list_bool y hl hu'
      | int y => obtain ⟨u, rfl⟩ := q2; exact SeqAt.RcNeAt.list_int y u hl hu'
      | str y => obtain ⟨u, rfl⟩ := q2; exact SeqAt.RcNeAt.list_str y u hl hu'
      | tup q t r => cases q2; obtain ⟨its', _, hl', _⟩ := I.tuple q; exact SeqAt.RcNeAt.list_tuple hl hl' hu'
      | ob _ _ _ => cases h2
      | exc _ _ _ => cases h2
      | lam _ _ _ => cases h2
      | ref l' =>
        cases q2
        obtain ⟨ys, e2, o2⟩ := ok_ref h2
        obtain ⟨its', hl', ws, rw', ry, sl'⟩ := seqs e2
        have e3 : eqN T (n + 1) (.ref l) (.ref l') = (xs.length == ys.length && (List.zipWith (eqN T n) xs ys).all id) := by
          show (match itemsOf T l, itemsOf T l' with
            | some xs, some ys => xs.length == ys.length && (List.zipWith (eqN T n) xs ys).all id
            | _, _ => false) = _
          rw [e1, e2]
        have n1 : its.toArray.size = xs.length := by rw [rx.length, rv.length]; simp
        have n2 : its'.toArray.size = ys.length := by rw [ry.length, rw'.length]; simp
        rw [e3]
        by_cases hsz : xs.length = ys.length
        · have e4 : (xs.length == ys.length && (List.zipWith (eqN T n) xs ys).all id) = (List.range its.toArray.size).all (pairF (eqN T n) xs ys) := by
            rw [n1, range_all (eqN T n) xs ys hsz, show (xs.length == ys.length) = true by simpa using hsz, Bool.true_and]
          rw [e4]
          exact SeqAt.RcNeAt.lists hl hl' (by rw [n1, n2, hsz]) hu' (each o1 o2 rx ry rv rw')
        · rw [show (xs.length == ys.length) = false by simpa using hsz, Bool.false_and]
          exact SeqAt.RcNeAt.lists_lengths hl hl' (by rw [n1, n2]; simpa using hsz) hu'
    | tup q t r =>
      rename_i l vs xs
      cases q1
      obtain ⟨its, rv, hl, _⟩ := I.tuple q
      cases r2 with
      | non => cases q2; exact SeqAt.RcNeAt.tuple_none hl hu'
      | bl y => cases q2; exact SeqAt.RcNeAt.tuple_bool y hl hu'
      | int y => obtain ⟨u, rfl⟩ := q2; exact SeqAt.RcNeAt.tuple_int y u hl hu'
      | str y => obtain ⟨u, rfl⟩ := q2; exact SeqAt.RcNeAt.tuple_str y u hl hu'
      | ref l' => cases q2; obtain ⟨ys, e2, o2⟩ := ok_ref h2; obtain ⟨its', hl', _⟩ := seqs e2; exact SeqAt.RcNeAt.tuple_list hl hl' hu'
      | ob _ _ _ => cases h2
      | exc _ _ _ => cases h2
      | lam _ _ _ => cases h2
      | tup q' t' r' =>
        rename_i l' ws ys
        cases q2
        obtain ⟨its', rw', hl', _⟩ := I.tuple q'
        have n1 : its.toArray.size = xs.length := by rw [r.length, rv.length]; simp
        have n2 : its'.toArray.size = ys.length := by rw [r'.length, rw'.length]; simp
        show SeqAt.RcNeAt A s (.ref l) (.ref l') (!(xs.length == ys.length && (List.zipWith (eqN T n) xs ys).all id))
        rw [← range_all_min, ← n1, ← n2]
        exact SeqAt.RcNeAt.tuples hl hl' hu' (each h1 h2 r r' rv rw')
    | ob _ _ _ => cases h1
    | exc _ _ _ => cases h1
    | lam _ _ _ => cases h1
end
end L3
namespace L3
open PySem PySem.Spec L2
open PyProof.Rows hiding St
section
variable {X : Cx} {W : WX}
theorem QC.fin {T : T3} {H : Hp} {R : D → T3 → Prop} {Q : VK} {d : D} {v : V} (q : QC X T H R Q) (rh : RepH X.prog X.w X.K T H) (h : R d T) (r : Rep X.K T H d v) : Q v H := q d T v H h (Step.refl _ _) rh r
theorem QC.lst {T : T3} {H : Hp} {R : D → T3 → Prop} {Q : VK} {ds : List D} {vs : List V} {p : Addr} (q : QC X T H R Q) (rh : RepH X.prog X.w X.K T H) (r : RepL X.K T H ds vs) (hp : H p = none) (h : ∀ p, T p = none → R (.ref p) (updT T p (.lst ds))) : Q (.ref p) (L2.upd H p (.lst vs)) := by
  obtain ⟨s2, h2⟩ := new_lst rh hp r
  exact q _ _ _ _ (h p (rh.free hp)) s2 h2 (.ref p)
theorem QC.tup {T : T3} {H : Hp} {R : D → T3 → Prop} {Q : VK} {ds : List D} {vs : List V} {p : Addr} (q : QC X T H R Q) (rh : RepH X.prog X.w X.K T H) (r : RepL X.K T H ds vs) (hp : H p = none) (h : R (.tup ds) T) : Q (.ref p) (L2.upd H p (.tup vs)) := by
  have s2 : Step T H T (L2.upd H p (.tup vs)) := Step.newU hp
  exact q _ _ _ _ h s2 (rh.newU hp) (.tup (.inl (.inl L2.upd_same)) (.inl (rh.free hp)) (r.step s2))
theorem sq_nil {K : PySem.W.Frag} {T : T3} {H : Hp} {vs : List V} (r : RepL K T H [] vs) : vs = [] := by cases r; rfl
/-! ### arithmetic -/
def intR (f : Int → Int → D) (C : Int → Int → Prop) : R23 := fun x y T R => match x, y with
  | .int i, .int j => C i j ∧ R (f i j) T
  | _, _ => False
theorem op3_int {f : Value → Value → Sem Value} {C : Int → Int → Prop} {g : Int → Int → V} {gd : Int → Int → D} (h : OpR X f (rI C g)) (q : ∀ T H i j, Rep X.K T H (gd i j) (g i j)) : OpR3 X f (intR gd C) := by
  intro pins s σ H x y v u Q I rx ry hh
  obtain ⟨d, e, T, R, rh, rd, re, qc, hr⟩ := hh
  unfold intR at hr
  split at hr
  · cases rd; cases re
    exact h pins s σ H _ _ v u Q I rx ry ⟨_, _, rfl, rfl, hr.1, qc.fin rh hr.2 (q _ _ _ _)⟩
  · exact hr.elim
def intR0 (f : Int → Int → D) : R23 := fun x y T R => match x, y with
  | .int i, .int j => R (f i j) T
  | _, _ => False
theorem op3_int0 {f : Value → Value → Sem Value} {g : Int → Int → V} {gd : Int → Int → D} (h : OpR X f (rI0 g)) (q : ∀ T H i j, Rep X.K T H (gd i j) (g i j)) : OpR3 X f (intR0 gd) := by
  intro pins s σ H x y v u Q I rx ry hh
  obtain ⟨d, e, T, R, rh, rd, re, qc, hr⟩ := hh
  unfold intR0 at hr
  split at hr
  · cases rd; cases re
    exact h pins s σ H _ _ v u Q I rx ry ⟨_, _, rfl, rfl, qc.fin rh hr (q _ _ _ _)⟩
  · exact hr.elim
theorem o3_sub : OpR3 X (binaryOp .Sub) (intR0 fun i j => .int (i - j)) := op3_int0 op_sub fun _ _ _ _ => .int _
theorem o3_fdiv : OpR3 X (binaryOp .FloorDiv) (intR (fun i j => .int (i / j)) CDivW) := op3_int op_fdivW fun _ _ _ _ => .int _
theorem o3_mod : OpR3 X (binaryOp .Mod) (intR (fun i j => .int (i % j)) fun _ j => 0 < j) := op3_int op_mod fun _ _ _ _ => .int _
theorem o3_pow : OpR3 X (binaryOp .Pow) (intR (fun i j => .int (i ^ j.toNat)) CPow) := op3_int op_pow fun _ _ _ _ => .int _
theorem o3_lt : OpR3 X (compareOp .Lt) (intR0 fun i j => .bl (decide (i < j))) := op3_int0 op_lt fun _ _ _ _ => .bl _
theorem o3_le : OpR3 X (compareOp .LtE) (intR0 fun i j => .bl (decide (i ≤ j))) := op3_int0 op_le fun _ _ _ _ => .bl _
theorem o3_gt : OpR3 X (compareOp .Gt) (intR0 fun i j => .bl (decide (j < i))) := op3_int0 op_gt fun _ _ _ _ => .bl _
theorem o3_ge : OpR3 X (compareOp .GtE) (intR0 fun i j => .bl (decide (j ≤ i))) := op3_int0 op_ge fun _ _ _ _ => .bl _
/-- + of ints, texts, tuples, lists -/
def addR : R23 := fun x y T R => match x, y with
  | .int i, .int j => R (.int (i + j)) T
  | .str a, .str b => a.length + b.length ≤ sizeLine ∧ R (.str (a ++ b)) T
  | .tup a, .tup b => a.length + b.length ≤ sizeLine ∧ R (.tup (a ++ b)) T
  | .ref p, .ref q => ∃ xs ys, T p = some (.lst xs) ∧ T q = some (.lst ys) ∧ xs.length + ys.length ≤ sizeLine ∧ ∀ r, T r = none → R (.ref r) (updT T r (.lst (xs ++ ys)))
  | _, _ => False
theorem o3_add : OpR3 X (binaryOp .Add) addR := by
  intro pins s σ H x y v u Q I rx ry hh
  obtain ⟨d, e, T, R, rh, rd, re, qc, hr⟩ := hh
  unfold addR at hr
  split at hr
  · cases rd; cases re
    exact op_add pins s σ H _ _ v u Q I rx ry ⟨_, _, rfl, rfl, qc.fin rh hr (.int _)⟩
  · cases rd; cases re
    exact op_add_str pins s σ H _ _ v u Q I rx ry ⟨_, _, rfl, rfl, hr.1, qc.fin rh hr.2 (.str _)⟩
  · next a b =>
    cases rd with
    | tup q1 t1 r1 =>
      cases re with
      | tup q2 t2 r2 =>
        refine op_catA pins s σ H _ _ v u Q I rx ry ⟨_, _, _, _, rfl, rfl, q1, q2, by rw [← r1.length, ← r2.length]; exact hr.1, fun z => ?_, fun _ z => ?_, fun _ _ p hp => ?_⟩
        · subst z
          have e0 : a = [] := by have := r1.length; simpa using this
          subst e0
          exact qc.fin rh hr.2 (.tup q2 t2 r2)
        · subst z
          have e0 : b = [] := by have := r2.length; simpa using this
          subst e0
          exact qc.fin rh hr.2 (.tup q1 t1 (by rw [List.append_nil]; exact r1))
        · exact qc.tup rh (r1.append r2) hp hr.2
  · cases rd; cases re
    obtain ⟨xs, ys, e1, e2, hz, h⟩ := hr
    obtain ⟨vs, h1, r1⟩ := rh _ _ e1
    obtain ⟨ws, h2, r2⟩ := rh _ _ e2
    exact op_cat pins s σ H _ _ v u Q I rx ry ⟨_, _, vs, ws, rfl, rfl, h1, h2, by rw [← r1.length, ← r2.length]; exact hz, fun p hp => qc.lst rh (r1.append r2) hp h⟩
  · exact hr.elim
theorem o3_iadd : OpR3 X (inplaceOp .Add) (intR0 fun i j => .int (i + j)) := op3_int0 iop_add fun _ _ _ _ => .int _
theorem o3_isub : OpR3 X (inplaceOp .Sub) (intR0 fun i j => .int (i - j)) := op3_int0 iop_sub fun _ _ _ _ => .int _
/-- * of ints; a list some times -/
def mulR : R23 := fun x y T R => match x, y with
  | .int i, .int j => CMulW i j ∧ R (.int (i * j)) T
  | .ref p, .int k => ∃ xs, T p = some (.lst xs) ∧ -(2 ^ 63) ≤ k ∧ k < 2 ^ 63 ∧ xs.length * k.toNat ≤ sizeLine ∧ ∀ r, T r = none → R (.ref r) (updT T r (.lst (List.replicate k.toNat xs).flatten))
  | _, _ => False
theorem RepL.flat {K : PySem.W.Frag} {T : T3} {H : Hp} {ds : List D} {vs : List V} (r : RepL K T H ds vs) : ∀ n : Nat, RepL K T H (List.replicate n ds).flatten (List.replicate n vs).flatten
  | 0 => .nil
  | n + 1 => by rw [List.replicate_succ, List.replicate_succ, List.flatten_cons, List.flatten_cons]; exact r.append (RepL.flat r n)
theorem o3_mul : OpR3 X (binaryOp .Mult) mulR := by
  intro pins s σ H x y v u Q I rx ry hh
  obtain ⟨d, e, T, R, rh, rd, re, qc, hr⟩ := hh
  unfold mulR at hr
  split at hr
  · cases rd; cases re
    exact op_mulW pins s σ H _ _ v u Q I rx ry ⟨_, _, rfl, rfl, hr.1, qc.fin rh hr.2 (.int _)⟩
  · cases rd; cases re
    obtain ⟨xs, e1, h1, h2, hz, h⟩ := hr
    obtain ⟨vs, g1, r1⟩ := rh _ _ e1
    exact op_rep pins s σ H _ _ v u Q I rx ry ⟨_, _, vs, rfl, rfl, g1, h1, h2, by rw [← r1.length]; exact hz, fun p hp => qc.lst rh (r1.flat _) hp h⟩
  · exact hr.elim
def negR : D → T3 → (D → T3 → Prop) → Prop := fun x T R => match x with
  | .int i => R (.int (-i)) T
  | _ => False
def t3Neg (ta : TE3) : TE3 := fun E σ T R => ta E σ T fun x T1 => negR x T1 R
theorem pe3_neg {a : Expr} {ta : TE3} {pos : Pos} (ha : PE3 X W a ta) : PE3 X W (.UnaryOp .USub a pos) (t3Neg ta) := PE.imp (pe_un un_neg ha) fun σ H Q h => by
  obtain ⟨E, σ3, T, R, A, h⟩ := h
  refine ⟨E, σ3, T, _, A.sub fun d T1 v H1 A1 s1 h1 r1 => ?_, h⟩
  unfold negR at h1
  split at h1
  · cases r1; exact ⟨_, rfl, A1.fin h1 (.int _)⟩
  · exact h1.elim
/-! ### ==, is, in -/
def eqR : R23 := fun x y T R => okN T 9 x = true ∧ okN T 9 y = true ∧ R (.bl (eqN T 9 x y)) T
def neR : R23 := fun x y T R => okN T 9 x = true ∧ okN T 9 y = true ∧ R (.bl (!eqN T 9 x y)) T
theorem o3_eq (hu : X.A.units + 64 < cLine) : OpR3 X (compareOp .Eq) eqR := by
  intro pins s σ H x y v u Q I rx ry hh
  obtain ⟨d, e, T, R, rh, rd, re, qc, o1, o2, hr⟩ := hh
  exact rcAt_rep I rh 9 X.A d e x y v u o1 o2 rd re rx ry (by omega) _ _ _ _ ⟨.bl _, H, I, rfl, qc.fin rh hr (.bl _)⟩
theorem o3_ne (hu : X.A.units + 64 < cLine) : OpR3 X (compareOp .NotEq) neR := by
  intro pins s σ H x y v u Q I rx ry hh
  obtain ⟨d, e, T, R, rh, rd, re, qc, o1, o2, hr⟩ := hh
  exact rcNeAt_rep I rh 9 X.A d e x y v u o1 o2 rd re rx ry (by omega) _ _ _ _ ⟨.bl _, H, I, rfl, qc.fin rh hr (.bl _)⟩
/-- is, is not: None; True, False -/
def isV : D → D → Option Bool
  | .non, .non => some true
  | .bl _, .non => some false
  | .int _, .non => some false
  | .str _, .non => some false
  | .ref _, .non => some false
  | .tup _, .non => some false
  | .ob _ _, .non => some false
  | .bl a, .bl b => some (decide (a = b))
  | _, _ => none
def isR (neg : Bool) : R23 := fun x y T R => match isV x y with
  | some b => R (.bl (if neg then !b else b)) T
  | none => False
theorem o3_is : OpR3 X (compareOp .Is) (isR false) := by
  intro pins s σ H x y v u Q I rx ry hh
  obtain ⟨d, e, T, R, rh, rd, re, qc, hr⟩ := hh
  unfold isR at hr
  cases rd <;> cases re <;> first | exact hr.elim | exact op_isN pins s σ H _ _ v u Q I rx ry ⟨rfl, qc.fin rh hr (.bl _)⟩ | exact op_is_bl pins s σ H _ _ v u Q I rx ry ⟨_, _, rfl, rfl, qc.fin rh hr (.bl _)⟩
theorem o3_isnot : OpR3 X (compareOp .IsNot) (isR true) := by
  intro pins s σ H x y v u Q I rx ry hh
  obtain ⟨d, e, T, R, rh, rd, re, qc, hr⟩ := hh
  unfold isR at hr
  cases rd <;> cases re <;> first | exact hr.elim | exact op_notN pins s σ H _ _ v u Q I rx ry ⟨rfl, qc.fin rh hr (.bl _)⟩ | exact op_isnot_bl pins s σ H _ _ v u Q I rx ry ⟨_, _, rfl, rfl, qc.fin rh hr (.bl _)⟩
/-- in, not in: a list, a tuple of data; a sign in a text -/
def seqOf (T : T3) : D → Option (List D)
  | .tup xs => some xs
  | .ref p => itemsOf T p
  | _ => none
def inN (T : T3) (x : D) (xs : List D) : Bool := xs.any fun y => eqN T 8 y x
def inR (neg : Bool) : R23 := fun x y T R => ∃ xs, seqOf T y = some xs ∧ okN T 8 x = true ∧ xs.all (okN T 8) = true ∧ R (.bl (if neg then !inN T x xs else inN T x xs)) T
open Classical in
theorem in_fn {pins : List (Addr × Obj)} {σ : St} {H : Hp} {s : Shared} {T : T3} {A : Around} {x : D} {vx : V} {u : Value} (I : Inv X pins σ H s) (rh : RepH X.prog X.w X.K T H) (ox : okN T 8 x = true) (rx : Rep X.K T H x vx) (ru : RelV vx u) (hu : A.units + 9 < cLine) :
    ∀ {xs : List D} {vs : List V} {us : List Value}, xs.all (okN T 8) = true → RepL X.K T H xs vs → Vals vs us → ∃ e : Value → Bool, (∀ w ∈ us, SeqAt.EqAt A.in1 s w u (e w)) ∧ us.any e = inN T x xs := fun {xs vs us} os rs rv => by
  have inj : ∀ {d d' : D} {w w' : V} {z : Value}, okN T 8 d = true → okN T 8 d' = true → Rep X.K T H d w → Rep X.K T H d' w' → RelV w z → RelV w' z → d = d' := fun {d d' w w' z} o o' r r' q q' => by
    have := q.inj q'
    subst this
    exact rep_inj I rh 8 8 d d' w o o' r r'
  have key : ∀ w : Value, ∀ d v, okN T 8 d = true → Rep X.K T H d v → RelV v w → decide (∃ d v, okN T 8 d = true ∧ Rep X.K T H d v ∧ RelV v w ∧ eqN T 8 d x = true) = eqN T 8 d x := fun w d v o r q => by
    cases e : eqN T 8 d x with
    | true => exact decide_eq_true ⟨d, v, o, r, q, e⟩
    | false =>
      refine decide_eq_false fun ⟨d', v', o', r', q', e'⟩ => ?_
      have := inj o o' r r' q q'
      subst this
      rw [e] at e'; cases e'
  refine ⟨fun w => decide (∃ d v, okN T 8 d = true ∧ Rep X.K T H d v ∧ RelV v w ∧ eqN T 8 d x = true), ?_, ?_⟩
  · induction xs generalizing vs us with
    | nil => cases rs; cases rv; intro w hw; cases hw
    | cons d xs ih =>
      cases rs with
      | cons a b =>
        cases rv with
        | cons q t =>
          rw [List.all_cons, Bool.and_eq_true] at os
          intro w hw
          rcases List.mem_cons.mp hw with e | hw
          · subst e
            dsimp only
            rw [key _ d _ os.1 a q]
            exact eqAt_rep I rh 8 A.in1 d x _ _ _ u os.1 ox a rx q ru (by show A.units + 1 + 8 < cLine; omega)
          · exact ih os.2 b t w hw
  · induction xs generalizing vs us with
    | nil => cases rs; cases rv; rfl
    | cons d xs ih =>
      cases rs with
      | cons a b =>
        cases rv with
        | cons q t =>
          rw [List.all_cons, Bool.and_eq_true] at os
          rw [List.any_cons, key _ d _ os.1 a q, ih os.2 b t]
          rfl
theorem o3_in (hu : X.A.units + 64 < cLine) : OpR3 X (compareOp .In) (inR false) := by
  intro pins s σ H x y v u Q I rx ry hh
  obtain ⟨d, e, T, R, rh, rd, re, qc, xs, es, ox, os, hr⟩ := hh
  cases re with
  | ref p =>
    obtain ⟨vs, q, rs⟩ := items_sq rh es
    cases ry
    obtain ⟨its, rv, pl, _⟩ := I.list q
    obtain ⟨f, h1, h2⟩ := in_fn (A := X.A) I rh ox rd rx (by omega) os rs rv
    refine SeqAt.in_listAt f pl.isList (fun w hw => h1 w (by simpa using hw)) ⟨.bl _, H, I, rfl, ?_⟩
    rw [show its.toArray.any f = its.any f by simp, h2]
    exact qc.fin rh hr (.bl _)
  | tup q t rs =>
    cases (show some _ = some xs from es)
    cases ry
    obtain ⟨its, rv, pl, _⟩ := I.tuple q
    obtain ⟨f, h1, h2⟩ := in_fn (A := X.A) I rh ox rd rx (by omega) os rs rv
    refine SeqAt.in_tupleAt f pl (fun w hw => h1 w (by simpa using hw)) ⟨.bl _, H, I, rfl, ?_⟩
    rw [show its.toArray.any f = its.any f by simp, h2]
    exact qc.fin rh hr (.bl _)
  | _ => cases es
theorem o3_notin (hu : X.A.units + 64 < cLine) : OpR3 X (compareOp .NotIn) (inR true) := by
  intro pins s σ H x y v u Q I rx ry hh
  obtain ⟨d, e, T, R, rh, rd, re, qc, xs, es, ox, os, hr⟩ := hh
  cases re with
  | ref p =>
    obtain ⟨vs, q, rs⟩ := items_sq rh es
    cases ry
    obtain ⟨its, rv, pl, _⟩ := I.list q
    obtain ⟨f, h1, h2⟩ := in_fn (A := X.A) I rh ox rd rx (by omega) os rs rv
    refine SeqAt.notIn_listAt f pl.isList (fun w hw => h1 w (by simpa using hw)) ⟨.bl _, H, I, rfl, ?_⟩
    rw [show its.toArray.any f = its.any f by simp, h2]
    exact qc.fin rh hr (.bl _)
  | tup q t rs =>
    cases (show some _ = some xs from es)
    cases ry
    obtain ⟨its, rv, pl, _⟩ := I.tuple q
    obtain ⟨f, h1, h2⟩ := in_fn (A := X.A) I rh ox rd rx (by omega) os rs rv
    refine SeqAt.notIn_tupleAt f pl (fun w hw => h1 w (by simpa using hw)) ⟨.bl _, H, I, rfl, ?_⟩
    rw [show its.toArray.any f = its.any f by simp, h2]
    exact qc.fin rh hr (.bl _)
  | _ => cases es
/-- a sign in a text -/
def inSR : R23 := fun x y T R => match y with
  | .str z => ∃ c : Nat, x = .str ⟨#[c]⟩ ∧ R (.bl (decide (c ∈ z.cps.toList))) T
  | _ => False
theorem o3_inS : OpR3 X (compareOp .In) inSR := by
  intro pins s σ H x y v u Q I rx ry hh
  obtain ⟨d, e, T, R, rh, rd, re, qc, hr⟩ := hh
  unfold inSR at hr
  split at hr
  · obtain ⟨c, rfl, hr⟩ := hr
    cases rd; cases re
    exact op_in_sign pins s σ H _ _ v u Q I rx ry ⟨c, _, rfl, rfl, qc.fin rh hr (.bl _)⟩
  · exact hr.elim
/-! ### built-in calls, by values -/
abbrev RL3 := List D → T3 → (D → T3 → Prop) → Prop
def CallR3 (X : Cx) (f : Value) (r3 : RL3) : Prop := CallR X f (fun xs H Q => ∃ ds T R, RepH X.prog X.w X.K T H ∧ RepL X.K T H ds xs ∧ QC X T H R Q ∧ r3 ds T R)
/-- whnf stops here -/
structure CB (r : RL3) (ds : List D) (T : T3) (R : D → T3 → Prop) : Prop where
  run : r ds T R
def t3CB (r : RL3) (t : Rd3 (List D)) : TE3 := fun E σ T R => t E σ T fun ds T1 => CB r ds T1 R
theorem low_cb {r : RL3} {t : Rd3 (List D)} : ∀ σ H Q, low X.prog X.w X.K (Rep X.K) W (t3CB r t) σ H Q → tCB (fun xs H Q => ∃ ds T R, RepH X.prog X.w X.K T H ∧ RepL X.K T H ds xs ∧ QC X T H R Q ∧ r ds T R) (low X.prog X.w X.K (RepL X.K) W t) σ H Q := fun σ H Q h => by
  obtain ⟨E, σ3, T, R, A, h⟩ := h
  exact ⟨E, σ3, T, _, A.sub fun ds T1 vs H1 A1 s1 h1 r1 => ⟨ds, T1, R, A1.rh, r1, A1.q, h1.run⟩, h⟩
theorem pe3_callB {id : String} {r : RL3} {x : Str} {e : Expr} {es : List Expr} {t : Rd3 (List D)} {p pos : Pos} (hc : CallR3 X (.builtin id) r) (hg : Gl X x) (hm : X.mg x = none) (hv : bootBuiltins x = some (.builtin id)) (ha : PA3 X W (e :: es) t)
    (hn : x ≠ "__name__" := by decide) (hdb : (x == ("__debug__" : Str)) = false := by decide) (he : starEach (e :: es) X.env = (false, eval e X.env) :: starEach es X.env := by rfl) (hpl : (backTo pos (starEach es X.env)).any (·.1) = false := by rfl) :
    PE3 X W (.Call (.Name x p) (e :: es) [] pos) (t3CB r t) := PE.imp (pe_callB hc hg hm hv ha hn hdb he hpl) low_cb
theorem pe3_callTy {n : String} {r : RL3} {x : Str} {e : Expr} {es : List Expr} {t : Rd3 (List D)} {p pos : Pos} (hc : CallR3 X (.type n) r) (hg : Gl X x) (hm : X.mg x = none) (hv : bootBuiltins x = some (.type n)) (ha : PA3 X W (e :: es) t)
    (hn : x ≠ "__name__" := by decide) (hdb : (x == ("__debug__" : Str)) = false := by decide) (he : starEach (e :: es) X.env = (false, eval e X.env) :: starEach es X.env := by rfl) (hpl : (backTo pos (starEach es X.env)).any (·.1) = false := by rfl) :
    PE3 X W (.Call (.Name x p) (e :: es) [] pos) (t3CB r t) := PE.imp (pe_callTy hc hg hm hv ha hn hdb he hpl) low_cb
/-- len -/
def lenR : RL3 := fun ds T R => match ds with
  | [.str z] => z.length ≤ sizeLine ∧ R (.int z.length) T
  | [.tup xs] => R (.int xs.length) T
  | [.ref p] => ∃ xs, itemsOf T p = some xs ∧ R (.int xs.length) T
  | _ => False
theorem c3_len : CallR3 X (.builtin "len") lenR := by
  intro pins s σ H xs us Q I r hh
  obtain ⟨ds, T, R, rh, rl, qc, hr⟩ := hh
  unfold lenR at hr
  split at hr
  · obtain ⟨v, rfl, q⟩ := rl.one
    cases q
    exact call_len_str pins s σ H _ us Q I r ⟨_, rfl, hr.1, qc.fin rh hr.2 (.int _)⟩
  · obtain ⟨v, rfl, q⟩ := rl.one
    cases q with
    | tup q t rs => exact call_len_seq pins s σ H _ us Q I r ⟨_, _, rfl, .inr q, by rw [← rs.length]; exact qc.fin rh hr (.int _)⟩
  · obtain ⟨v, rfl, q⟩ := rl.one
    cases q
    obtain ⟨xs, e, hr⟩ := hr
    obtain ⟨vs, q, rs⟩ := items_sq rh e
    exact call_len_seq pins s σ H _ us Q I r ⟨_, _, rfl, .inl q, by rw [← rs.length]; exact qc.fin rh hr (.int _)⟩
  · exact hr.elim
theorem repL_ints {K : PySem.W.Frag} {T : T3} {H : Hp} : ∀ {ns : List Int} {vs : List V}, RepL K T H (ns.map D.int) vs → vs = ns.map V.int
  | [], _, r => by cases r; rfl
  | n :: ns, _, r => by cases r with | cons a b => cases a; rw [repL_ints b]; rfl
theorem repL_bls {K : PySem.W.Frag} {T : T3} {H : Hp} : ∀ {ns : List Bool} {vs : List V}, RepL K T H (ns.map D.bl) vs → vs = ns.map V.bl
  | [], _, r => by cases r; rfl
  | n :: ns, _, r => by cases r with | cons a b => cases a; rw [repL_bls b]; rfl
theorem repL_strs {K : PySem.W.Frag} {T : T3} {H : Hp} : ∀ {ns : List Str} {vs : List V}, RepL K T H (ns.map D.str) vs → vs = ns.map V.str
  | [], _, r => by cases r; rfl
  | n :: ns, _, r => by cases r with | cons a b => cases a; rw [repL_strs b]; rfl
theorem strs_repL {K : PySem.W.Frag} {T : T3} {H : Hp} : ∀ (ns : List Str), RepL K T H (ns.map D.str) (ns.map V.str)
  | [] => .nil
  | n :: ns => .cons (.str n) (strs_repL ns)
def sumR : RL3 := fun ds T R => match ds with
  | [.ref p] => ∃ ns : List Int, itemsOf T p = some (ns.map .int) ∧ R (.int ns.sum) T
  | _ => False
theorem c3_sum (hc : X.calm = true) : CallR3 X (.builtin "sum") sumR := by
  intro pins s σ H xs us Q I r hh
  obtain ⟨ds, T, R, rh, rl, qc, hr⟩ := hh
  unfold sumR at hr
  split at hr
  · obtain ⟨v, rfl, q⟩ := rl.one
    cases q
    obtain ⟨ns, e, hr⟩ := hr
    obtain ⟨vs, q, rs⟩ := items_sq rh e
    have := repL_ints rs
    subst this
    exact cr_sum hc pins s σ H _ us Q I r ⟨_, ns, rfl, q, qc.fin rh hr (.int _)⟩
  · exact hr.elim
def allR (all : Bool) : RL3 := fun ds T R => match ds with
  | [.ref p] => ∃ bs : List Bool, itemsOf T p = some (bs.map .bl) ∧ R (.bl (if all then bs.all id else bs.any id)) T
  | _ => False
theorem c3_all (hc : X.calm = true) : CallR3 X (.builtin "all") (allR true) := by
  intro pins s σ H xs us Q I r hh
  obtain ⟨ds, T, R, rh, rl, qc, hr⟩ := hh
  unfold allR at hr
  split at hr
  · obtain ⟨v, rfl, q⟩ := rl.one
    cases q
    obtain ⟨ns, e, hr⟩ := hr
    obtain ⟨vs, q, rs⟩ := items_sq rh e
    have := repL_bls rs
    subst this
    exact cr_all hc pins s σ H _ us Q I r ⟨_, ns, rfl, q, qc.fin rh hr (.bl _)⟩
  · exact hr.elim
theorem c3_any (hc : X.calm = true) : CallR3 X (.builtin "any") (allR false) := by
  intro pins s σ H xs us Q I r hh
  obtain ⟨ds, T, R, rh, rl, qc, hr⟩ := hh
  unfold allR at hr
  split at hr
  · obtain ⟨v, rfl, q⟩ := rl.one
    cases q
    obtain ⟨ns, e, hr⟩ := hr
    obtain ⟨vs, q, rs⟩ := items_sq rh e
    have := repL_bls rs
    subst this
    exact cr_any hc pins s σ H _ us Q I r ⟨_, ns, rfl, q, qc.fin rh hr (.bl _)⟩
  · exact hr.elim
/-- tuple(xs), list(xs), int(n) -/
def tupleR : RL3 := fun ds T R => match ds with
  | [.tup xs] => R (.tup xs) T
  | [.ref p] => ∃ xs, itemsOf T p = some xs ∧ R (.tup xs) T
  | _ => False
theorem c3_tuple : CallR3 X (.type "tuple") tupleR := by
  intro pins s σ H xs us Q I r hh
  obtain ⟨ds, T, R, rh, rl, qc, hr⟩ := hh
  unfold tupleR at hr
  split at hr
  · obtain ⟨v, rfl, q⟩ := rl.one
    cases q with
    | tup q t rs => exact call_tuple_of pins s σ H _ us Q I r ⟨_, _, rfl, .inr ⟨q, qc.fin rh hr (.tup q t rs)⟩⟩
  · obtain ⟨v, rfl, q⟩ := rl.one
    cases q
    obtain ⟨xs, e, hr⟩ := hr
    obtain ⟨vs, q, rs⟩ := items_sq rh e
    exact call_tuple_of pins s σ H _ us Q I r ⟨_, _, rfl, .inl ⟨q, fun l hl => qc.tup rh rs hl hr⟩⟩
  · exact hr.elim
def listR : RL3 := fun ds T R => match ds with
  | [d] => ∃ xs, seqOf T d = some xs ∧ ∀ r, T r = none → R (.ref r) (updT T r (.lst xs))
  | _ => False
theorem c3_list : CallR3 X (.type "list") listR := by
  intro pins s σ H xs us Q I r hh
  obtain ⟨ds, T, R, rh, rl, qc, hr⟩ := hh
  unfold listR at hr
  split at hr
  · obtain ⟨v, rfl, q⟩ := rl.one
    obtain ⟨xs, e, hr⟩ := hr
    cases q with
    | tup q t rs =>
      cases (show some _ = some xs from e)
      exact call_list_of pins s σ H _ us Q I r ⟨_, _, rfl, .inr q, fun l hl => qc.lst rh rs hl hr⟩
    | ref p =>
      obtain ⟨vs, q, rs⟩ := items_sq rh e
      exact call_list_of pins s σ H _ us Q I r ⟨_, _, rfl, .inl q, fun l hl => qc.lst rh rs hl hr⟩
    | _ => cases e
  · exact hr.elim
def intCR : RL3 := fun ds T R => match ds with
  | [.int i] => R (.int i) T
  | [.bl b] => R (.int (if b then 1 else 0)) T
  | _ => False
theorem c3_int : CallR3 X (.type "int") intCR := by
  intro pins s σ H xs us Q I r hh
  obtain ⟨ds, T, R, rh, rl, qc, hr⟩ := hh
  unfold intCR at hr
  split at hr
  · obtain ⟨v, rfl, q⟩ := rl.one
    cases q
    exact call_int1 pins s σ H _ us Q I r (.inl ⟨_, rfl, qc.fin rh hr (.int _)⟩)
  · obtain ⟨v, rfl, q⟩ := rl.one
    cases q
    exact call_int1 pins s σ H _ us Q I r (.inr ⟨_, rfl, qc.fin rh hr (.int _)⟩)
  · exact hr.elim
end
end L3
namespace L3
open PySem PySem.Spec L2
open PyProof.Rows hiding St
/-! ### items, slices -/
section
variable {X : Cx} {W : WX}
theorem RepL.atI {K : PySem.W.Frag} {T : T3} {H : Hp} {ds : List D} {vs : List V} {i : Int} {d : D} (r : RepL K T H ds vs) (e : atI ds i = some d) : ∃ v, L2.atI vs i = some v ∧ Rep K T H d v := by
  unfold L2.atI at e ⊢
  rw [r.length] at e
  cases q : ixN vs.length i with
  | none => rw [q] at e; cases e
  | some j => rw [q] at e; exact r.get e
def ixR : R23 := fun x y T R => match y with
  | .int i => ∃ xs d, seqOf T x = some xs ∧ atI xs i = some d ∧ R d T
  | _ => False
theorem i3_seq : IxR X (fun x y H Q => ∃ d e T R, RepH X.prog X.w X.K T H ∧ Rep X.K T H d x ∧ Rep X.K T H e y ∧ QC X T H R Q ∧ ixR d e T R) := by
  intro value slice pins s σ H x y v u Q I rx ry hh hs
  obtain ⟨d, e, T, R, rh, rd, re, qc, hr⟩ := hh
  unfold ixR at hr
  split at hr
  · obtain ⟨xs, z, e1, e2, h⟩ := hr
    cases re
    cases rd with
    | tup q t r =>
      cases (show some _ = some xs from e1)
      obtain ⟨zv, e3, rz⟩ := r.atI e2
      exact ix_tup value slice pins s σ H _ _ v u Q I rx ry ⟨_, _, _, zv, rfl, rfl, q, e3, qc.fin rh h rz⟩ hs
    | ref p =>
      obtain ⟨vs, q, r⟩ := items_sq rh e1
      obtain ⟨zv, e3, rz⟩ := r.atI e2
      exact ix_list value slice pins s σ H _ _ v u Q I rx ry ⟨_, _, _, zv, rfl, rfl, q, e3, qc.fin rh h rz⟩ hs
    | _ => cases e1
  · exact hr.elim
theorem pe3_ix {a b : Expr} {ta tb : TE3} {pos : Pos} (ha : PE3 X W a ta) (hb : PE3 X W b tb) (hs : PlainIx b := by exact fun _ _ => rfl) : PE3 X W (.Subscript a b pos) (t3Op ixR ta tb) := PE.imp (pe_ix i3_seq ha hb hs) low_op
/-- a sign of a text -/
def ixSR : R23 := fun x y T R => match x, y with
  | .str z, .int i => z.length ≤ sizeLine ∧ ∃ c, atI z.cps.toList i = some c ∧ R (.str ⟨#[c]⟩) T
  | _, _ => False
theorem i3_str : IxR X (fun x y H Q => ∃ d e T R, RepH X.prog X.w X.K T H ∧ Rep X.K T H d x ∧ Rep X.K T H e y ∧ QC X T H R Q ∧ ixSR d e T R) := by
  intro value slice pins s σ H x y v u Q I rx ry hh hs
  obtain ⟨d, e, T, R, rh, rd, re, qc, hr⟩ := hh
  unfold ixSR at hr
  split at hr
  · obtain ⟨hz, c, e2, h⟩ := hr
    cases re; cases rd
    exact ix_str value slice pins s σ H _ _ v u Q I rx ry ⟨_, _, c, rfl, rfl, hz, e2, qc.fin rh h (.str _)⟩ hs
  · exact hr.elim
theorem pe3_ixS {a b : Expr} {ta tb : TE3} {pos : Pos} (ha : PE3 X W a ta) (hb : PE3 X W b tb) (hs : PlainIx b := by exact fun _ _ => rfl) : PE3 X W (.Subscript a b pos) (t3Op ixSR ta tb) := PE.imp (pe_ix i3_str ha hb hs) low_op
/-- a part of a slice -/
def relO : T3 → Hp → Option Int → Option Int → Prop := fun _ _ a b => a = b
def PO3 (X : Cx) (W : WX) (e : Option Expr) (t : Rd3 (Option Int)) : Prop := PO X e (low X.prog X.w X.K relO W t)
theorem PO.imp {X : Cx} {e : Option Expr} {t u : TO} (h : PO X e t) (i : ∀ σ H Q, u σ H Q → t σ H Q) : PO X e u := ⟨fun pins s σ H Q I hw => h.run pins s σ H Q I (i σ H Q hw)⟩
def t3NoPart : Rd3 (Option Int) := fun _ _ T R => R none T
def t3Part (te : TE3) : Rd3 (Option Int) := fun E σ T R => te E σ T fun d T1 => match d with
  | .int i => R (some i) T1
  | _ => False
theorem po3_none : PO3 X W none t3NoPart := PO.imp po_none fun σ H Q h => by
  obtain ⟨E, σ3, T, R, A, h⟩ := h
  exact A.fin h rfl
theorem po3_some {e : Expr} {te : TE3} (he : PE3 X W e te) : PO3 X W (some e) (t3Part te) := PO.imp (po_some he) fun σ H Q h => by
  obtain ⟨E, σ3, T, R, A, h⟩ := h
  refine ⟨E, σ3, T, _, A.sub fun d T1 v H1 A1 s1 h1 r1 => ?_, h⟩
  split at h1
  · cases r1; exact ⟨_, rfl, A1.fin h1 rfl⟩
  · exact h1.elim
def cutL {α : Type} (xs : List α) (lo hi : Option Int) : List α := (xs.drop (HT.sIx xs.length 0 lo)).take (HT.sIx xs.length xs.length hi - HT.sIx xs.length 0 lo)
theorem RepL.cut {K : PySem.W.Frag} {T : T3} {H : Hp} {ds : List D} {vs : List V} (lo hi : Option Int) (r : RepL K T H ds vs) : RepL K T H (cutL ds lo hi) (cutV vs lo hi) := by
  unfold cutL cutV
  rw [r.length]
  exact (r.drop _).take _
def slR : D → Option Int → Option Int → T3 → (D → T3 → Prop) → Prop := fun x lo hi T R => match x with
  | .str z => z.length ≤ sizeLine ∧ R (.str (cutS z lo hi)) T
  | .tup xs => R (.tup (cutL xs lo hi)) T
  | .ref p => ∃ xs, itemsOf T p = some xs ∧ ∀ r, T r = none → R (.ref r) (updT T r (.lst (cutL xs lo hi)))
  | _ => False
theorem s3_any : SlR X (fun x lo hi H Q => ∃ d T R, RepH X.prog X.w X.K T H ∧ Rep X.K T H d x ∧ QC X T H R Q ∧ slR d lo hi T R) := by
  intro pins s σ H x v vl vu lo hi sl Q I rx hs pl pu hh
  obtain ⟨d, T, R, rh, rd, qc, hr⟩ := hh
  unfold slR at hr
  split at hr
  · cases rd
    exact sl_str pins s σ H _ v vl vu lo hi sl Q I rx hs pl pu ⟨_, rfl, hr.1, qc.fin rh hr.2 (.str _)⟩
  · next xs =>
    cases rd with
    | tup q t r =>
      refine sl_tupA pins s σ H _ v vl vu lo hi sl Q I rx hs pl pu ⟨_, _, rfl, q, fun e => ?_, fun _ p hp => qc.tup rh (r.cut lo hi) hp hr⟩
      refine qc.fin rh hr (.tup q t ?_)
      have e2 : cutL xs lo hi = xs := by
        unfold cutL
        rw [r.length, e.1, e.2, List.drop_zero, Nat.sub_zero, ← r.length, List.take_length]
      rw [e2]
      exact r
  · cases rd
    obtain ⟨xs, e, h⟩ := hr
    obtain ⟨vs, q, r⟩ := items_sq rh e
    exact sl_list pins s σ H _ v vl vu lo hi sl Q I rx hs pl pu ⟨_, vs, rfl, q, fun p hp => qc.lst rh (r.cut lo hi) hp h⟩
  · exact hr.elim
def t3Sl (te : TE3) (tl th : Rd3 (Option Int)) : TE3 := fun E σ T R => te E σ T fun x T1 => tl E σ T1 fun l T2 => th E σ T2 fun u T3 => slR x l u T3 R
theorem pe3_slice {e : Expr} {lo hi : Option Expr} {te : TE3} {tl th : Rd3 (Option Int)} {pos p2 : Pos} (he : PE3 X W e te) (hl : PO3 X W lo tl) (hu : PO3 X W hi th) : PE3 X W (.Subscript e (.Slice lo hi none p2) pos) (t3Sl te tl th) := PE.imp (pe_slice s3_any he hl hu) fun σ H Q h => by
  obtain ⟨E, σ3, T, R, A, h⟩ := h
  refine ⟨E, σ3, T, _, A.sub fun d T1 v H1 A1 s1 h1 r1 => ?_, h⟩
  refine ⟨E, σ3, T1, _, A1.sub fun a T2 b H2 A2 s2 h2 r2 => ?_, h1⟩
  refine ⟨E, σ3, T2, _, A2.sub fun a' T3 b' H3 A3 s3 h3 r3 => ?_, h2⟩
  cases r2; cases r3
  exact ⟨d, T3, R, A3.rh, (r1.step s2).step s3, A3.q, h3⟩
/-! ### methods of built-in types -/
abbrev RM3 := D → List D → T3 → (D → T3 → Prop) → Prop
def MtR3 (X : Cx) (id : String) (r3 : RM3) : Prop := MtR X id (fun x xs H Q => ∃ d ds T R, RepH X.prog X.w X.K T H ∧ Rep X.K T H d x ∧ RepL X.K T H ds xs ∧ QC X T H R Q ∧ r3 d ds T R)
/-- what kind of thing it is -/
def tyD (T : T3) : D → String
  | .non => "NoneType"
  | .bl _ => "bool"
  | .int _ => "int"
  | .str _ => "str"
  | .tup _ => "tuple"
  | .ref p => (match T p with
    | some (.lst _) => "list"
    | some (.rol _) => "list"
    | some (.dct _) => "dict"
    | _ => "")
  | .ob _ _ => ""
  | .exc _ _ _ _ => ""
  | .lam _ _ _ _ _ => ""
def t3BM (n : String) (r : RM3) (to : TE3) (t : Rd3 (List D)) : TE3 := fun E σ T R => to E σ T fun x T1 => (n = "str" ∨ n = "list") ∧ tyD T1 x = n ∧ t E σ T1 fun ds T2 => r x ds T2 R
theorem tyV_of {P : Program} {w : World} {K : PySem.W.Frag} {T : T3} {H : Hp} {d : D} {v : V} {n : String} (rh : RepH P w K T H) (r : Rep K T H d v) (hn : n = "str" ∨ n = "list") (e : tyD T d = n) : tyV K n v H := by
  have k : ∀ a, (match T a with
    | some (.lst _) => "list"
    | some (.rol _) => "list"
    | some (.dct _) => "dict"
    | _ => "") = n → n = "list" ∧ ∃ vs, SqL K H a vs := fun a e => by
    split at e
    · next xs q => obtain ⟨vs, h, _⟩ := rh a _ q; exact ⟨e.symm, vs, SqL.of h⟩
    · next xs q => obtain ⟨vs, o, h, _⟩ := rh a _ q; exact ⟨e.symm, vs, .inl (.inr ⟨o, h⟩)⟩
    · rcases hn with z | z
      · exact absurd (e.trans z) (by decide)
      · exact absurd (e.trans z) (by decide)
    · rcases hn with z | z
      · exact absurd (e.trans z) (by decide)
      · exact absurd (e.trans z) (by decide)
  have no : ∀ m : String, m ≠ "str" → m ≠ "list" → m = n → False := fun m h1 h2 h3 => by
    rcases hn with z | z
    · exact h1 (h3.trans z)
    · exact h2 (h3.trans z)
  cases r with
  | str x => exact (show "str" = n from e).symm
  | ref a => exact .inl (k a e)
  | non => exact (no "NoneType" (by decide) (by decide) e).elim
  | bl b => exact (no "bool" (by decide) (by decide) e).elim
  | int b => exact (no "int" (by decide) (by decide) e).elim
  | tup _ _ _ => exact (no "tuple" (by decide) (by decide) e).elim
  | ob _ _ _ => exact (no "" (by decide) (by decide) e).elim
  | exc _ _ _ => exact (no "" (by decide) (by decide) e).elim
  | lam _ _ _ => exact (no "" (by decide) (by decide) e).elim
theorem pe3_bm {o e : Expr} {es : List Expr} {to : TE3} {t : Rd3 (List D)} {name : Str} {apos cpos : Pos} {n id : String} {r : RM3} (pa : PlainAttrs n) (slot : Slot n name id) (hty : typeOf (.builtin id) = pure (.type "method_descriptor")) (hm : MtR3 X id r) (ho : PE3 X W o to) (ha : PA3 X W (e :: es) t)
    (hbase : attributeBase o name X.env (eval o X.env) = eval o X.env := by rfl)
    (hfew : ((backTo cpos (starEach (e :: es) X.env)).all (fun x => !x.1) && (backToKw cpos (keywordEach [] X.env)).all (fun x => x.1.isSome)
      && decide ((e :: es).length + ([] : List Keyword).length + (if ([] : List Keyword).isEmpty then 0 else 1) < 30)) = true := by rfl)
    (hline : (apos.endLine == cpos.line) = true := by rfl) (hs : starEach (e :: es) X.env = (false, eval e X.env) :: starEach es X.env := by rfl) (hplain : (backTo cpos (starEach es X.env)).any (·.1) = false := by rfl) :
    PE3 X W (.Call (.Attribute o name apos) (e :: es) [] cpos) (t3BM n r to t) := PE.imp (pe_bm pa slot hty hm ho ha hbase hfew hline hs hplain) fun σ H Q h => by
  obtain ⟨E, σ3, T, R, A, h⟩ := h
  refine ⟨E, σ3, T, _, A.sub fun d T1 v H1 A1 s1 h1 r1 => ?_, h⟩
  obtain ⟨hn, ht, h2⟩ := h1
  refine ⟨tyV_of A1.rh r1 hn ht, E, σ3, T1, _, A1.sub fun ds T2 vs H2 A2 s2 h2 r2 => ?_, h2⟩
  exact ⟨d, ds, T2, R, A2.rh, r1.step s2, r2, A2.q, h2⟩
theorem pe3_bm0 {o : Expr} {to : TE3} {name : Str} {apos cpos : Pos} {n id : String} {r : RM3} (pa : PlainAttrs n) (slot : Slot n name id) (hty : typeOf (.builtin id) = pure (.type "method_descriptor")) (hm : MtR3 X id r) (ho : PE3 X W o to)
    (hbase : attributeBase o name X.env (eval o X.env) = eval o X.env := by rfl) (hline : (apos.endLine == cpos.line) = true := by rfl) : PE3 X W (.Call (.Attribute o name apos) [] [] cpos) (t3BM n r to t3Nil) := PE.imp (pe_bm0 pa slot hty hm ho hbase hline) fun σ H Q h => by
  obtain ⟨E, σ3, T, R, A, h⟩ := h
  refine ⟨E, σ3, T, _, A.sub fun d T1 v H1 A1 s1 h1 r1 => ?_, h⟩
  obtain ⟨hn, ht, h2⟩ := h1
  exact ⟨tyV_of A1.rh r1 hn ht, d, [], T1, R, A1.rh, r1, .nil, A1.q, h2⟩
/-- a list's store -/
theorem QC.put {T : T3} {H : Hp} {R : D → T3 → Prop} {Q : VK} {ds : List D} {vs : List V} {p : Addr} {u : O} {d : D} {v : V} (q : QC X T H R Q) (rh : RepH X.prog X.w X.K T H) (e : T p = some u) (r : RepL X.K T H ds vs) (rd : Rep X.K T H d v) (h : R d (updT T p (.lst ds))) : Q v (L2.upd H p (.lst vs)) := by
  have s2 : Step T H (updT T p (.lst ds)) (L2.upd H p (.lst vs)) := Step.write e
  exact q _ _ _ _ h s2 (rh.upd s2 ⟨vs, L2.upd_same, r.step s2⟩) (rd.step s2)
def appendR : RM3 := fun x ds T R => match x, ds with
  | .ref p, [d] => ∃ xs, T p = some (.lst xs) ∧ xs.length < sizeLine ∧ R .non (updT T p (.lst (xs ++ [d])))
  | _, _ => False
theorem m3_append : MtR3 X "list.append" appendR := by
  intro pins s σ H x xs v us Q I rx rv hh
  obtain ⟨d, ds, T, R, rh, rd, rl, qc, hr⟩ := hh
  unfold appendR at hr
  split at hr
  · obtain ⟨ys, e, hz, h⟩ := hr
    cases rd
    obtain ⟨z, rfl, rz⟩ := rl.one
    obtain ⟨vs, g, r⟩ := rh _ _ e
    exact mt_append pins s σ H _ _ v us Q I rx rv ⟨_, vs, z, rfl, rfl, g, by rw [← r.length]; exact hz, qc.put rh e (r.append (.cons rz .nil)) .non h⟩
  · exact hr.elim
def extendR : RM3 := fun x ds T R => match x, ds with
  | .ref p, [.ref q] => ∃ xs ys, T p = some (.lst xs) ∧ T q = some (.lst ys) ∧ xs.length + ys.length ≤ sizeLine ∧ R .non (updT T p (.lst (xs ++ ys)))
  | _, _ => False
theorem m3_extend : MtR3 X "list.extend" extendR := by
  intro pins s σ H x xs v us Q I rx rv hh
  obtain ⟨d, ds, T, R, rh, rd, rl, qc, hr⟩ := hh
  unfold extendR at hr
  split at hr
  · obtain ⟨ys, zs, e, e', hz, h⟩ := hr
    cases rd
    obtain ⟨z, rfl, rz⟩ := rl.one
    cases rz
    obtain ⟨vs, g, r⟩ := rh _ _ e
    obtain ⟨ws, g', r'⟩ := rh _ _ e'
    exact mt_extend pins s σ H _ _ v us Q I rx rv ⟨_, _, vs, ws, rfl, rfl, g, g', by rw [← r.length, ← r'.length]; exact hz, qc.put rh e (r.append r') .non h⟩
  · exact hr.elim
def popR : RM3 := fun x ds T R => match x, ds with
  | .ref p, [] => ∃ xs d, T p = some (.lst (xs ++ [d])) ∧ R d (updT T p (.lst xs))
  | _, _ => False
theorem m3_pop : MtR3 X "list.pop" popR := by
  intro pins s σ H x xs v us Q I rx rv hh
  obtain ⟨d, ds, T, R, rh, rd, rl, qc, hr⟩ := hh
  unfold popR at hr
  split at hr
  · obtain ⟨ys, z, e, h⟩ := hr
    cases rd
    cases rl
    obtain ⟨vs, g, r⟩ := rh _ _ e
    have hl := r.length
    simp only [List.length_append, List.length_cons, List.length_nil] at hl
    have e1 : (ys ++ [z])[vs.length - 1]? = some z := by rw [← hl]; simp
    obtain ⟨zv, e2, rz⟩ := r.get e1
    have r2 := r.take ys.length
    rw [List.take_left' rfl] at r2
    refine mt_pop pins s σ H _ _ v us Q I rx rv ⟨_, vs, zv, rfl, rfl, g, e2, ?_⟩
    rw [show vs.dropLast = vs.take ys.length by rw [List.dropLast_eq_take]; congr 1; omega]
    exact qc.put rh e r2 rz h
  · exact hr.elim
theorem RepL.erase {K : PySem.W.Frag} {T : T3} {H : Hp} {ds : List D} {vs : List V} (k : Nat) (r : RepL K T H ds vs) : RepL K T H (ds.eraseIdx k) (vs.eraseIdx k) := by
  rw [List.eraseIdx_eq_take_drop_succ, List.eraseIdx_eq_take_drop_succ]
  exact (r.take _).append (r.drop _)
/-- xs.pop(k), 0 ≤ k -/
def popAtR : RM3 := fun x ds T R => match x, ds with
  | .ref p, [.int i] => ∃ xs d, T p = some (.lst xs) ∧ 0 ≤ i ∧ i < 2 ^ 62 ∧ xs[i.toNat]? = some d ∧ R d (updT T p (.lst (xs.eraseIdx i.toNat)))
  | _, _ => False
theorem m3_popAt : MtR3 X "list.pop" popAtR := by
  intro pins s σ H x xs v us Q I rx rv hh
  obtain ⟨d, ds, T, R, rh, rd, rl, qc, hr⟩ := hh
  unfold popAtR at hr
  split at hr
  · obtain ⟨ys, z, e, h0, h1, hz, h⟩ := hr
    cases rd
    obtain ⟨iv, rfl, ri⟩ := rl.one
    cases ri
    obtain ⟨vs, g, r⟩ := rh _ _ e
    obtain ⟨zv, e2, rz⟩ := r.get hz
    rename_i i
    have hk : ixN vs.length i = some i.toNat := by
      unfold ixN
      have := (List.getElem?_eq_some_iff.mp e2).1
      rw [if_pos h0, if_pos (by omega)]
    exact mt_popAt pins s σ H _ _ v us Q I rx rv ⟨_, vs, _, _, zv, rfl, rfl, g, by omega, by omega, (ixN_seq hk).1, e2, qc.put rh e (r.erase _) rz h⟩
  · exact hr.elim
end
end L3
namespace L3
open PySem PySem.Spec L2
open PyProof.Rows hiding St
/-! ### instances -/
def insOf (T : T3) : D → Option (Str × List (Str × D))
  | .ob c fs => some (c, fs)
  | .ref p => (match T p with
    | some (.ins c fs) => some (c, fs)
    | _ => none)
  | _ => none
theorem insOf_ref {T : T3} {p : Addr} {c : Str} {fs : List (Str × D)} (h : T p = some (.ins c fs)) : insOf T (.ref p) = some (c, fs) := by
  show (match T p with
    | some (.ins c fs) => some (c, fs)
    | _ => none) = _
  rw [h]
/-- f is a plain field of the class -/
structure FldOk (K : PySem.W.Frag) (c f : Str) : Prop where
  cls : Cls K (He.ga K c)
  no : NoAttr K (He.ga K c) f
section
variable {X : Cx} {W : WX}
theorem ins_at {T : T3} {H : Hp} {d : D} {v : V} {c : Str} {fs : List (Str × D)} (rh : RepH X.prog X.w X.K T H) (r : Rep X.K T H d v) (e : insOf T d = some (c, fs)) : ∃ a dx gs, v = .ref a ∧ H a = some (.ins (He.ga X.K c) dx gs) ∧ RepF X.K T H fs gs := by
  cases r with
  | ob t h rf => cases (show some _ = some (c, fs) from e); exact ⟨_, _, _, rfl, h, rf⟩
  | ref a =>
    have e' : (match T a with
      | some (.ins c fs) => some (c, fs)
      | _ => none) = some (c, fs) := e
    split at e'
    · next q => cases e'; obtain ⟨dx, gs, h, rf⟩ := rh a _ q; exact ⟨a, dx, gs, rfl, h, rf⟩
    · cases e'
  | _ => cases e
/-- x has d at f -/
structure Fld (K : PySem.W.Frag) (T : T3) (x : D) (f : Str) (d : D) : Prop where
  ex : ∃ c fs, insOf T x = some (c, fs) ∧ FldOk K c f ∧ fs.lookup f = some d
def t3Fld (K : PySem.W.Frag) (f : Str) (ta : TE3) : TE3 := fun E σ T R => ta E σ T fun x T1 => ∃ d, Fld K T1 x f d ∧ R d T1
theorem pe3_fld {e : Expr} {f : Str} {ta : TE3} {pos : Pos} (he : PE3 X W e ta) (hb : attributeBase e f X.env (eval e X.env) = eval e X.env := by rfl) : PE3 X W (.Attribute e f pos) (t3Fld X.K f ta) := PE.imp (pe_fld he hb) fun σ H Q h => by
  obtain ⟨E, σ3, T, R, A, h⟩ := h
  refine ⟨E, σ3, T, _, A.sub fun x T1 v H1 A1 s1 h1 r1 => ?_, h⟩
  obtain ⟨d, ⟨c, fs, e1, ok, e2⟩, hR⟩ := h1
  obtain ⟨a, dx, gs, rfl, g, rf⟩ := ins_at A1.rh r1 e1
  obtain ⟨dv, e3, rd⟩ := rf.lookup e2
  exact ⟨a, _, dx, gs, dv, rfl, g, ok.cls, ok.no, e3, A1.fin hR rd⟩
/-- a constant of the class -/
structure Cst (K : PySem.W.Frag) (T : T3) (x : D) (f : Str) (d : D) : Prop where
  ex : ∃ c fs v u, insOf T x = some (c, fs) ∧ Cls K (He.ga K c) ∧ Con K (He.ga K c) f v u ∧ fs.lookup f = none ∧ ∀ T H, Rep K T H d v
def t3Con (K : PySem.W.Frag) (f : Str) (ta : TE3) : TE3 := fun E σ T R => ta E σ T fun x T1 => ∃ d, Cst K T1 x f d ∧ R d T1
theorem pe3_con {e : Expr} {f : Str} {ta : TE3} {pos : Pos} (he : PE3 X W e ta) (hb : attributeBase e f X.env (eval e X.env) = eval e X.env := by rfl) : PE3 X W (.Attribute e f pos) (t3Con X.K f ta) := PE.imp (pe_con he hb) fun σ H Q h => by
  obtain ⟨E, σ3, T, R, A, h⟩ := h
  refine ⟨E, σ3, T, _, A.sub fun x T1 v H1 A1 s1 h1 r1 => ?_, h⟩
  obtain ⟨d, ⟨c, fs, v, u, e1, cl, cn, e2, rd⟩, hR⟩ := h1
  obtain ⟨a, dx, gs, rfl, g, rf⟩ := ins_at A1.rh r1 e1
  exact ⟨a, _, dx, gs, v, u, rfl, g, cl, cn, rf.lookup_none e2, A1.fin hR (rd _ _)⟩
theorem RepF.keys {K : PySem.W.Frag} {T : T3} {H : Hp} {fs : List (Str × D)} {gs : List (Str × V)} (r : RepF K T H fs gs) : fs.length = gs.length := r.length
/-- o.f = e -/
def s3Fld (K : PySem.W.Frag) (ta tv : TE3) (f : Str) : TS3 := fun D σ T => tv (exE D σ) σ T fun y T1 => ta (exE D σ) σ T1 fun x T2 => match x with
  | .ref p => ∃ c fs, T2 p = some (.ins c fs) ∧ FldOk K c f ∧ fs.length < 1000 ∧ D.nx σ (updT T2 p (.ins c (putD f y fs)))
  | _ => False
theorem ps3_fld {o value : Expr} {f : Str} {ta tv : TE3} {pos pos' : Pos} (ha : PE3 X W o ta) (hv : PE3 X W value tv) (hs : swapsWith value (some (.Attribute o f pos')) pos.line X.env = pure false := by rfl) : PS3 X W (.Assign [.Attribute o f pos'] value pos) (s3Fld X.K ta tv f) := PS.imp (ps_fld ha hv hs) fun D' σ H h => by
  obtain ⟨D3, σ3, T, A, h⟩ := h
  refine ⟨_, σ3, T, _, A.sub fun y T1 yv H1 A1 h1 r1 => ?_, h⟩
  refine ⟨_, σ3, T1, _, ⟨A1.rs, A1.rh, (fun x T2 xv H2 h2 s2 rh2 r2 => ?_), fun c fs T' d gs H' a b e f g => A1.ex c fs σ3 T' d gs σ H' a b e (A1.rs.step b) f g⟩, h1⟩
  have A2 := A1.next s2 rh2 (A1.rs.step s2)
  split at h2
  · obtain ⟨c, fs, e, ok, hz, hn⟩ := h2
    cases r2
    rename_i p
    obtain ⟨dx, gs, g, rf⟩ := rh2 p _ e
    refine ⟨p, _, dx, gs, rfl, g, ok.cls, ok.no, by rw [← rf.length]; exact hz, ?_⟩
    have s3 : Step T2 H2 (updT T2 p (.ins c (putD f y fs))) (L2.upd H2 p (.ins (He.ga X.K c) dx (putF f yv gs))) := Step.write e
    exact (A2.next s3 (rh2.upd s3 ⟨dx, _, L2.upd_same, (rf.put (r1.step s2)).step s3⟩) (A2.rs.step s3)).fin hn
  · exact h2.elim
/-- o.f op= e (ints) -/
def s3FldAug (K : PySem.W.Frag) (ta tv : TE3) (r : R23) (f : Str) : TS3 := fun D σ T => ta (exE D σ) σ T fun x T1 => match x with
  | .ref p => ∃ c fs d, T1 p = some (.ins c fs) ∧ FldOk K c f ∧ fs.lookup f = some d ∧ tv (exE D σ) σ T1 fun y T2 => r d y T2 fun z T3 => ∃ c' fs', T3 p = some (.ins c' fs') ∧ FldOk K c' f ∧ fs'.length < 1000 ∧ D.nx σ (updT T3 p (.ins c' (putD f z fs')))
  | _ => False
/-! ### methods of own classes -/
/-- the class has the method m: the def at f keeps sp -/
structure MethOk (K : PySem.W.Frag) (c m : Str) (f : Addr) : Prop where
  cls : Cls K (He.ga K c)
  meth : Meth K (He.ga K c) m f
end
section
variable {X : Cx} {EX : XK} {k : Nat} {f : Addr} {fd : FuncData} {ps : List Str} {sp : Sp3} {dvs : List V} {dds : List D} {ds : List Value} {c x m : Str} {p pos apos : Pos} {o e : Expr} {es : List Expr} {ta : TE3} {t : Rd3 (List D)}
/-- o.m(..) of an instance of the class c -/
def t3Meth (c m : Str) (sp : Sp3) (dds : List D) (ta : TE3) (t : Rd3 (List D)) : TE3 := fun E σ T R => ta E σ T fun x T1 => ∃ fs, insOf T1 x = some (c, fs) ∧ fs.lookup m = none ∧ t E σ T1 fun ds T2 => Go sp (x :: (ds ++ dds)) T2 R E
theorem low_meth (hq : ∀ T H, RepL X.K T H dds dvs) : ∀ σ H Q, low X.prog X.w X.K (Rep X.K) (wE EX) (t3Meth c m sp dds ta t) σ H Q → tMeth (He.ga X.K c) m (lowSp X.prog X.w X.K sp) dvs EX (low X.prog X.w X.K (Rep X.K) (wE EX) ta) (low X.prog X.w X.K (RepL X.K) (wE EX) t) σ H Q := fun σ H Q h => by
  obtain ⟨E, σ3, T, R, A, h⟩ := h
  refine ⟨E, σ3, T, _, A.sub fun x T1 v H1 A1 s1 h1 r1 => ?_, h⟩
  obtain ⟨fs, e1, e2, h2⟩ := h1
  obtain ⟨a, dx, gs, rfl, g, rf⟩ := ins_at A1.rh r1 e1
  refine ⟨a, dx, gs, rfl, g, rf.lookup_none e2, E, σ3, T1, _, A1.sub fun ds T2 vs H2 A2 s2 h3 r2 => ?_, h2⟩
  exact ⟨_, T2, R, E, .cons (r1.step s2) (r2.append (hq _ _)), A2.rh, A2.q, A2.x, h3.run⟩
theorem pe3_meth {pl : Sem Bool} (he : PE3 X (wE EX) o ta) (hm : MethOk X.K c m f) (F : Fn3 X.prog X.w X.K X.mg X.base k f fd ps sp) (tk : Takes X (wE EX)) (hr : Room k X.A) (hb : Binds X.K fd ps ds) (hd : Vals dvs ds) (hq : ∀ T H, RepL X.K T H dds dvs) (ha : PA3 X (wE EX) (e :: es) t)
    (hst : starEach (e :: es) X.env = (false, eval e X.env) :: starEach es X.env := by rfl) (hpl : (backTo pos (starEach es X.env)).any (·.1) = false := by rfl)
    (ht : eval (.Call (.Attribute o m apos) (e :: es) [] pos) X.env = (do
      let ov ← eval o X.env
      standAt apos.atName
      let (f, first) ← holding [ov] (getMethod ov m pl)
      callWith pos f first (backTo pos (starEach (e :: es) X.env)) (backToKw pos (keywordEach [] X.env))) := by rfl) :
    PE3 X (wE EX) (.Call (.Attribute o m apos) (e :: es) [] pos) (t3Meth c m sp dds ta t) := PE.imp (pe_meth he hm.cls hm.meth F hr hb hd (passes_call tk fun _ _ _ _ h => h) ha hst hpl ht) (low_meth hq)
theorem pe3_meth0 {pl : Sem Bool} (he : PE3 X (wE EX) o ta) (hm : MethOk X.K c m f) (F : Fn3 X.prog X.w X.K X.mg X.base k f fd ps sp) (tk : Takes X (wE EX)) (hr : Room k X.A) (hb : Binds X.K fd ps ds) (hd : Vals dvs ds) (hq : ∀ T H, RepL X.K T H dds dvs)
    (ht : eval (.Call (.Attribute o m apos) [] [] pos) X.env = (do
      let ov ← eval o X.env
      standAt apos.atName
      let (f, first) ← holding [ov] (getMethod ov m pl)
      callWith pos f first (backTo pos (starEach [] X.env)) (backToKw pos (keywordEach [] X.env))) := by rfl) :
    PE3 X (wE EX) (.Call (.Attribute o m apos) [] [] pos) (t3Meth c m sp dds ta t3Nil) := PE.imp (pe_meth0 he hm.cls hm.meth F hr hb hd (passes_call tk fun _ _ _ _ h => h) ht) fun σ H Q h => by
  obtain ⟨E, σ3, T, R, A, h⟩ := h
  refine ⟨E, σ3, T, _, A.sub fun x T1 v H1 A1 s1 h1 r1 => ?_, h⟩
  obtain ⟨fs, e1, e2, h2⟩ := h1
  obtain ⟨a, dx, gs, rfl, g, rf⟩ := ins_at A1.rh r1 e1
  exact ⟨a, dx, gs, rfl, g, rf.lookup_none e2, _, T1, R, E, .cons r1 (hq _ _), A1.rh, A1.q, A1.x, h2.run⟩
/-- a property of an own class whose getter raises nothing -/
structure PropOk (K : PySem.W.Frag) (c f : Str) (p g : Addr) : Prop where
  cls : Cls K (He.ga K c)
  prop : PropOf K (He.ga K c) f p g
abbrev noE : EX3 := fun _ _ _ => False
def t3Prop (c : Str) (sp : Sp3) (dds : List D) (ta : TE3) : TE3 := fun E σ T R => ta E σ T fun x T1 => ∃ fs, insOf T1 x = some (c, fs) ∧ Go sp (x :: dds) T1 R noE
theorem pe3_prop {g pa : Addr} {fn : Str} {W : WX} (he : PE3 X W o ta) (hp : PropOk X.K c fn pa g) (F : Fn3 X.prog X.w X.K X.mg X.base k g fd ps sp) (hr : Room (k + 1) X.A) (hb : Binds X.K fd ps ds) (hd : Vals dvs ds) (hq : ∀ T H, RepL X.K T H dds dvs)
    (hab : attributeBase o fn X.env (eval o X.env) = eval o X.env := by rfl) : PE3 X W (.Attribute o fn pos) (t3Prop c sp dds ta) := PE.imp (pe_prop (E := E0) he hp.cls hp.prop F hr hb hd passL hab) fun σ H Q h => by
  obtain ⟨E, σ3, T, R, A, h⟩ := h
  refine ⟨E, σ3, T, _, A.sub fun x T1 v H1 A1 s1 h1 r1 => ?_, h⟩
  obtain ⟨fs, e1, h2⟩ := h1
  obtain ⟨a, dx, gs, rfl, g, rf⟩ := ins_at A1.rh r1 e1
  exact ⟨a, dx, gs, rfl, g, _, T1, R, noE, .cons r1 (hq _ _), A1.rh, A1.q, fun _ _ _ _ _ _ z => z.elim, h2.run⟩
/-! ### new instances -/
def t3Make (c : Str) (sp : Sp3) (dds : List D) (t : Rd3 (List D)) : TE3 := fun E σ T R => t E σ T fun ds T1 => ∀ p, T1 p = none → Go sp (.ref p :: (ds ++ dds)) (updT T1 p (.ins c [])) (fun v T2 => v = .non ∧ R (.ref p) T2) E
theorem low_make (hq : ∀ T H, RepL X.K T H dds dvs) : ∀ σ H Q, low X.prog X.w X.K (Rep X.K) (wE EX) (t3Make c sp dds t) σ H Q → tMake (He.ga X.K c) (lowSp X.prog X.w X.K sp) dvs EX (low X.prog X.w X.K (RepL X.K) (wE EX) t) σ H Q := fun σ H Q h => by
  obtain ⟨E, σ3, T, R, A, h⟩ := h
  refine ⟨E, σ3, T, _, A.sub fun ds T1 vs H1 A1 s1 h1 r1 => ?_, h⟩
  intro x dx hx hdx ne
  have s0 : Step T1 H1 T1 (L2.upd H1 dx (.own x)) := Step.newU hdx
  have rh0 := A1.rh.newU (o' := .own x) hdx
  have hx0 : L2.upd H1 dx (.own x) x = none := by rw [L2.upd_ne (Ne.symm ne)]; exact hx
  have s2 : Step T1 (L2.upd H1 dx (.own x)) (updT T1 x (.ins c [])) (L2.upd (L2.upd H1 dx (.own x)) x (.ins (He.ga X.K c) dx [])) := Step.new rh0 hx0
  have rh2 := rh0.upd s2 ⟨dx, [], L2.upd_same, .nil⟩
  have A2 := A1.next (s0.trans s2) rh2
  refine ⟨_, _, _, E, .cons (.ref x) ((r1.step (s0.trans s2)).append (hq _ _)), rh2, (fun d T' v H' h2 s3 rh3 r3 => ?_), A2.x, (h1 x (A1.rh.free hx)).run⟩
  obtain ⟨e, h2⟩ := h2
  subst e
  cases r3
  exact ⟨rfl, (A2.next s3 rh3).fin h2 (.ref x)⟩
/-- what is forgotten is data from then on -/
theorem forget_rep {K : PySem.W.Frag} {T : T3} {H : Hp} {p : Addr} {o : O} (hp : T p = none) : (∀ {d : D} {v : V}, Rep K (updT T p o) H d v → Rep K T H d v) ∧ (∀ {ds : List D} {vs : List V}, RepL K (updT T p o) H ds vs → RepL K T H ds vs) ∧ (∀ {ds : List (Str × D)} {vs : List (Str × V)}, RepF K (updT T p o) H ds vs → RepF K T H ds vs) := by
  have st : Step (updT T p o) H T H := fun a u e1 e2 => by
    by_cases h : a = p
    · subst h; exact ⟨hp, e2⟩
    · rw [updT_ne h] at e1; exact ⟨e1, e2⟩
  exact ⟨fun r => r.step st, fun r => r.step st, fun r => r.step st⟩
/-- an instance that never changes is made: it is data -/
def t3MakeF (c : Str) (sp : Sp3) (dds : List D) (t : Rd3 (List D)) : TE3 := fun E σ T R => t E σ T fun ds T1 => ∀ p, T1 p = none → Go sp (.ref p :: (ds ++ dds)) (updT T1 p (.ins c [])) (fun v T2 => ∃ fs, v = .non ∧ T2 = updT T1 p (.ins c fs) ∧ R (.ob c fs) T1) (fun c fs T2 => ∃ o, T2 = updT T1 p o ∧ E c fs T1)
theorem low_makeF (hq : ∀ T H, RepL X.K T H dds dvs) : ∀ σ H Q, low X.prog X.w X.K (Rep X.K) (wE EX) (t3MakeF c sp dds t) σ H Q → tMake (He.ga X.K c) (lowSp X.prog X.w X.K sp) dvs EX (low X.prog X.w X.K (RepL X.K) (wE EX) t) σ H Q := fun σ H Q h => by
  obtain ⟨E, σ3, T, R, A, h⟩ := h
  refine ⟨E, σ3, T, _, A.sub fun ds T1 vs H1 A1 s1 h1 r1 => ?_, h⟩
  intro x dx hx hdx ne
  have s0 : Step T1 H1 T1 (L2.upd H1 dx (.own x)) := Step.newU hdx
  have rh0 := A1.rh.newU (o' := .own x) hdx
  have hx0 : L2.upd H1 dx (.own x) x = none := by rw [L2.upd_ne (Ne.symm ne)]; exact hx
  have s2 : Step T1 (L2.upd H1 dx (.own x)) (updT T1 x (.ins c [])) (L2.upd (L2.upd H1 dx (.own x)) x (.ins (He.ga X.K c) dx [])) := Step.new rh0 hx0
  have rh2 := rh0.upd s2 ⟨dx, [], L2.upd_same, .nil⟩
  have fx := A1.rh.free hx
  -- what stood untracked ahead of the call stands untracked behind it, also in T1
  have back : ∀ {T' : T3} {H' : Hp}, Step (updT T1 x (.ins c [])) (L2.upd (L2.upd H1 dx (.own x)) x (.ins (He.ga X.K c) dx [])) T' H' → Step T1 H1 T1 H' := fun {T' H'} s3 a u e1 e2 => by
    have hne : a ≠ x := ne_of_none e2 hx
    have hne2 : a ≠ dx := ne_of_none e2 hdx
    exact ⟨e1, (s3 a u (by rw [updT_ne hne]; exact e1) (by rw [L2.upd_ne hne, L2.upd_ne hne2]; exact e2)).2⟩
  refine ⟨_, _, _, _, .cons (.ref x) ((r1.step (s0.trans s2)).append (hq _ _)), rh2, (fun d T' v H' h2 s3 rh3 r3 => ?_), (fun c' fs T' d gs H' h2 s3 rh3 e4 r4 => ?_), (h1 x fx).run⟩
  · obtain ⟨fs, e, e2, h2⟩ := h2
    subst e e2
    cases r3
    refine ⟨rfl, ?_⟩
    obtain ⟨dx', gs, g, rf⟩ := rh3 x _ updT_same
    have rh4 : RepH X.prog X.w X.K T1 H' := fun b u q => by
      have hb : b ≠ x := fun z => by rw [z, fx] at q; cases q
      have := rh3 b u (by rw [updT_ne hb]; exact q)
      have st : Step (updT T1 x (.ins c fs)) H' T1 H' := fun a u e1 e2 => by
        by_cases h : a = x
        · subst h; exact ⟨fx, e2⟩
        · rw [updT_ne h] at e1; exact ⟨e1, e2⟩
      exact this.step st fun _ z => z
    exact (A1.next (back s3) rh4).fin h2 (.ob fx g ((forget_rep fx).2.2 rf))
  · obtain ⟨o, e, h2⟩ := h2
    subst e
    have rh4 : RepH X.prog X.w X.K T1 H' := fun b u q => by
      have hb : b ≠ x := fun z => by rw [z, fx] at q; cases q
      have := rh3 b u (by rw [updT_ne hb]; exact q)
      have st : Step (updT T1 x o) H' T1 H' := fun a u e1 e2 => by
        by_cases h : a = x
        · subst h; exact ⟨fx, e2⟩
        · rw [updT_ne h] at e1; exact ⟨e1, e2⟩
      exact this.step st fun _ z => z
    exact A1.x c' fs T1 d gs H' h2 (back s3) rh4 e4 ((forget_rep fx).2.2 r4)
theorem pe3_make {f : Addr} (M : Mk X.K (He.ga X.K c) f) (F : Fn3 X.prog X.w X.K X.mg X.base k f fd ps sp) (tk : Takes X (wE EX)) (hr : Room (k + 1) X.A) (hg : Gl X x) (hm : X.mg x = some (.ref (He.ga X.K c))) (hb : Binds X.K fd ps ds) (hd : Vals dvs ds) (hq : ∀ T H, RepL X.K T H dds dvs)
    (ha : PA3 X (wE EX) (e :: es) t) (hdb : (x == ("__debug__" : Str)) = false := by decide) (he : starEach (e :: es) X.env = (false, eval e X.env) :: starEach es X.env := by rfl) (hpl : (backTo pos (starEach es X.env)).any (·.1) = false := by rfl) :
    PE3 X (wE EX) (.Call (.Name x p) (e :: es) [] pos) (t3Make c sp dds t) := PE.imp (pe_make M F hr hg hm hb hd (passes_call tk fun _ _ _ _ h => h) ha hdb he hpl) (low_make hq)
theorem pe3_makeF {f : Addr} (M : Mk X.K (He.ga X.K c) f) (F : Fn3 X.prog X.w X.K X.mg X.base k f fd ps sp) (tk : Takes X (wE EX)) (hr : Room (k + 1) X.A) (hg : Gl X x) (hm : X.mg x = some (.ref (He.ga X.K c))) (hb : Binds X.K fd ps ds) (hd : Vals dvs ds) (hq : ∀ T H, RepL X.K T H dds dvs)
    (ha : PA3 X (wE EX) (e :: es) t) (hdb : (x == ("__debug__" : Str)) = false := by decide) (he : starEach (e :: es) X.env = (false, eval e X.env) :: starEach es X.env := by rfl) (hpl : (backTo pos (starEach es X.env)).any (·.1) = false := by rfl) :
    PE3 X (wE EX) (.Call (.Name x p) (e :: es) [] pos) (t3MakeF c sp dds t) := PE.imp (pe_make M F hr hg hm hb hd (passes_call tk fun _ _ _ _ h => h) ha hdb he hpl) (low_makeF hq)
end
end L3
namespace L3
open PySem PySem.Spec L2
open PyProof.Rows hiding St
/-! ### what is walked: items that stand still -/
structure Wk (P : Program) (w : World) (K : PySem.W.Frag) (J : It) (xs : List D) (G : T3 → Prop) (T0 : T3) (H0 : Hp) : Prop where
  go : ∀ i T H, RepH P w K T H → Step T0 H0 T H → G T → i < xs.length → J.go i H
  yld : ∀ i T H d v H', RepH P w K T H → Step T0 H0 T H → G T → xs[i]? = some d → J.yld i H v H' → Step T H T H' ∧ RepH P w K T H' ∧ Rep K T H' d v
  stop : ∀ i T H, RepH P w K T H → Step T0 H0 T H → G T → xs.length ≤ i → J.stop i H
abbrev RI3 := EX3 → St3 → T3 → (List D → (T3 → Prop) → T3 → Prop) → Prop
/-- the iterable's state -/
structure AtI (P : Program) (w : World) (K : PySem.W.Frag) (W : WX) (σ : St) (H : Hp) (Q : It → Hp → Prop) (E : EX3) (σ3 : St3) (T : T3) (R : List D → (T3 → Prop) → T3 → Prop) : Prop where
  rs : RepS K T H σ3 σ
  rh : RepH P w K T H
  q : ∀ xs G T' J H', R xs G T' → Step T H T' H' → RepH P w K T' H' → Wk P w K J xs G T' H' → Q J H'
  x : ∀ c fs T' d gs H', E c fs T' → Step T H T' H' → RepH P w K T' H' → H' d = some (.xd gs) → RepF K T' H' fs gs → W (.ref (He.ga K c)) (some d) σ H'
theorem AtI.sub {P : Program} {w : World} {K : PySem.W.Frag} {W : WX} {σ : St} {H : Hp} {Q : It → Hp → Prop} {E : EX3} {σ3 : St3} {T : T3} {R : List D → (T3 → Prop) → T3 → Prop} (A : AtI P w K W σ H Q E σ3 T R) {α β : Type} {rel : T3 → Hp → α → β → Prop} {Q' : β → Hp → Prop} {R' : α → T3 → Prop}
    (h : ∀ d T' v H', AtI P w K W σ H' Q E σ3 T' R → R' d T' → rel T' H' d v → Q' v H') : At P w K rel W σ H Q' E σ3 T R' :=
  ⟨A.rs, A.rh, fun d T' v H' a b c e => h d T' v H' ⟨A.rs.step b, c, fun xs G T2 J H2 a1 b1 c1 d1 => A.q xs G T2 J H2 a1 (b.trans b1) c1 d1, fun c2 fs T2 d2 gs H2 a1 b1 e1 f1 g1 => A.x c2 fs T2 d2 gs H2 a1 (b.trans b1) e1 f1 g1⟩ a e, A.x⟩
theorem AtI.fin {P : Program} {w : World} {K : PySem.W.Frag} {W : WX} {σ : St} {H : Hp} {Q : It → Hp → Prop} {E : EX3} {σ3 : St3} {T : T3} {R : List D → (T3 → Prop) → T3 → Prop} (A : AtI P w K W σ H Q E σ3 T R) {xs : List D} {G : T3 → Prop} {J : It} (h : R xs G T) (k : Wk P w K J xs G T H) : Q J H := A.q _ _ _ _ _ h (Step.refl _ _) A.rh k
def lowI (P : Program) (w : World) (K : PySem.W.Frag) (W : WX) (t : RI3) : TI := fun σ H Q => ∃ E σ3 T R, AtI P w K W σ H Q E σ3 T R ∧ t E σ3 T R
def PI3 (X : Cx) (W : WX) (tg iter : Expr) (t : RI3) : Prop := PI X tg iter (lowI X.prog X.w X.K W t)
theorem PI.imp {X : Cx} {tg e : Expr} {t u : TI} (h : PI X tg e t) (i : ∀ σ H Q, u σ H Q → t σ H Q) : PI X tg e u := ⟨fun pins s σ H Q I hw => h.run pins s σ H Q I (i σ H Q hw)⟩
section
variable {P : Program} {w : World} {K : PySem.W.Frag}
theorem Wk.list {p : Addr} {xs : List D} {T0 : T3} {H0 : Hp} : Wk P w K (Itl K p) xs (fun T => itemsOf T p = some xs) T0 H0 := by
  have sq : ∀ {T : T3} {H : Hp} {xs : List D}, RepH P w K T H → itemsOf T p = some xs → ∃ vs, SqL K H p vs ∧ RepL K T H xs vs := fun {T H xs} rh h => by
    unfold itemsOf at h
    split at h
    · next e => cases h; obtain ⟨vs, a, r⟩ := rh p _ e; exact ⟨vs, SqL.of a, r⟩
    · next e => cases h; obtain ⟨vs, o, a, r⟩ := rh p _ e; exact ⟨vs, .inl (.inr ⟨o, a⟩), r⟩
    · cases h
  refine ⟨fun i T H rh _ g hi => ?_, fun i T H d v H' rh _ g e y => ?_, fun i T H rh _ g hi => ?_⟩
  · obtain ⟨vs, q, r⟩ := sq rh g
    obtain ⟨v, e, _⟩ := r.get (List.getElem?_eq_getElem hi)
    exact ⟨vs, v, q, e⟩
  · obtain ⟨rfl, y⟩ := y
    obtain ⟨vs, q, r⟩ := sq rh g
    obtain ⟨v', e', rv⟩ := r.get e
    have := y vs q
    rw [e'] at this; cases this
    exact ⟨Step.refl _ _, rh, rv⟩
  · obtain ⟨vs, q, r⟩ := sq rh g
    exact ⟨vs, q, by rw [← r.length]; exact hi⟩
theorem Wk.tup {a : Addr} {vs : List V} {xs : List D} {T0 : T3} {H0 : Hp} (q : SqT K H0 a vs) (t : T0 a = none ∨ ∀ H', SqT K H' a vs) (r : RepL K T0 H0 xs vs) : Wk P w K (Itt K a) xs (fun _ => True) T0 H0 where
  go := fun i T H _ s _ hi => by
    obtain ⟨v, e, _⟩ := r.get (List.getElem?_eq_getElem hi)
    exact ⟨vs, v, (sqT_step s q t).1, e⟩
  yld := fun i T H d v H' rh s _ e y => by
    obtain ⟨rfl, y⟩ := y
    obtain ⟨v', e', rv⟩ := r.get e
    have := y vs (sqT_step s q t).1
    rw [e'] at this; cases this
    exact ⟨Step.refl _ _, rh, rv.step s⟩
  stop := fun i T H _ s _ hi => ⟨vs, (sqT_step s q t).1, by rw [← r.length]; exact hi⟩
def rangeD (lo : Int) (n : Nat) : List D := (List.range n).map fun (k : Nat) => D.int (lo + (k : Int))
theorem Wk.rng {lo : Int} {n : Nat} {T0 : T3} {H0 : Hp} : Wk P w K (Itr lo n) (rangeD lo n) (fun _ => True) T0 H0 where
  go := fun i T H _ s _ hi => by
    show i < n
    simpa [rangeD] using hi
  yld := fun i T H d v H' rh s _ e y => by
    obtain ⟨rfl, rfl⟩ := y
    unfold rangeD at e
    rw [List.getElem?_map] at e
    cases q : (List.range n)[i]? with
    | none => rw [q] at e; cases e
    | some k =>
      rw [q] at e
      have hk : k = i := by
        obtain ⟨h1, h2⟩ := List.getElem?_eq_some_iff.mp q
        simpa using h2.symm
      subst hk
      cases e
      exact ⟨Step.refl _ _, rh, .int _⟩
  stop := fun i T H _ s _ hi => by
    show n ≤ i
    simpa [rangeD] using hi
end
section
variable {X : Cx} {W : WX} {tg : Expr}
def i3Seq (te : TE3) : RI3 := fun E σ T R => te E σ T fun x T1 => match x with
  | .tup xs => R xs (fun _ => True) T1
  | .ref p => ∃ xs, itemsOf T1 p = some xs ∧ R xs (fun T => itemsOf T p = some xs) T1
  | _ => False
/-- a list (the reading takes lists alone) -/
def i3Lst (te : TE3) : RI3 := fun E σ T R => te E σ T fun x T1 => match x with
  | .ref p => ∃ xs, itemsOf T1 p = some xs ∧ R xs (fun T => itemsOf T p = some xs) T1
  | _ => False
theorem pi3_list {l : Expr} {tl : TE3} (hl : PE3 X W l tl) : PI3 X W tg l (i3Lst tl) := PI.imp (pi_list hl) fun σ H Q h => by
  obtain ⟨E, σ3, T, R, A, h⟩ := h
  refine ⟨E, σ3, T, _, A.sub fun x T1 v H1 A1 h1 r1 => ?_, h⟩
  split at h1
  · obtain ⟨xs, e, h2⟩ := h1
    cases r1
    obtain ⟨vs, q, r⟩ := items_sq A1.rh e
    exact ⟨_, rfl, ⟨vs, q⟩, A1.fin h2 Wk.list⟩
  · exact h1.elim
def i3Tup (te : TE3) : RI3 := fun E σ T R => te E σ T fun x T1 => match x with
  | .tup xs => R xs (fun _ => True) T1
  | _ => False
theorem pi3_tup {l : Expr} {tl : TE3} (hl : PE3 X W l tl) : PI3 X W tg l (i3Tup tl) := PI.imp (pi_tup hl) fun σ H Q h => by
  obtain ⟨E, σ3, T, R, A, h⟩ := h
  refine ⟨E, σ3, T, _, A.sub fun x T1 v H1 A1 h1 r1 => ?_, h⟩
  split at h1
  · cases r1 with
    | tup q t r => exact ⟨_, rfl, ⟨_, q⟩, A1.fin h1 (Wk.tup q t r)⟩
  · exact h1.elim
def i3Rng1 (ta : Rd3 (List D)) : RI3 := fun E σ T R => ta E σ T fun ds T1 => match ds with
  | [.int j] => -(2 ^ 62) ≤ j ∧ j < 2 ^ 62 ∧ R (rangeD 0 j.toNat) (fun _ => True) T1
  | _ => False
theorem pi3_range1 {a : Expr} {ta : Rd3 (List D)} {p pos : Pos} (hg : Gl X "range") (hm : X.mg "range" = none) (ha : PA3 X W [a] ta) (hs : starEach [a] X.env = [(false, eval a X.env)] := by rfl) : PI3 X W tg (.Call (.Name "range" p) [a] [] pos) (i3Rng1 ta) := PI.imp (pi_range1 hg hm ha hs) fun σ H Q h => by
  obtain ⟨E, σ3, T, R, A, h⟩ := h
  refine ⟨E, σ3, T, _, A.sub fun x T1 v H1 A1 h1 r1 => ?_, h⟩
  split at h1
  · obtain ⟨v, rfl, q⟩ := r1.one
    cases q
    exact ⟨_, rfl, h1.1, h1.2.1, A1.fin h1.2.2 Wk.rng⟩
  · exact h1.elim
def i3Rng2 (ta : Rd3 (List D)) : RI3 := fun E σ T R => ta E σ T fun ds T1 => match ds with
  | [.int i, .int j] => (-(2 ^ 62) ≤ i ∧ i < 2 ^ 62 ∧ -(2 ^ 62) ≤ j ∧ j < 2 ^ 62) ∧ R (rangeD i (j - i).toNat) (fun _ => True) T1
  | _ => False
theorem pi3_range2 {a b : Expr} {ta : Rd3 (List D)} {p pos : Pos} (hg : Gl X "range") (hm : X.mg "range" = none) (ha : PA3 X W [a, b] ta) (hs : starEach [a, b] X.env = [(false, eval a X.env), (false, eval b X.env)] := by rfl) (hs2 : starEach [b] X.env = [(false, eval b X.env)] := by rfl) :
    PI3 X W tg (.Call (.Name "range" p) [a, b] [] pos) (i3Rng2 ta) := PI.imp (pi_range2 hg hm ha hs hs2) fun σ H Q h => by
  obtain ⟨E, σ3, T, R, A, h⟩ := h
  refine ⟨E, σ3, T, _, A.sub fun x T1 v H1 A1 h1 r1 => ?_, h⟩
  split at h1
  · cases r1 with
    | cons a b =>
      cases a
      cases b with
      | cons a b => cases a; cases b; exact ⟨_, _, rfl, h1.1, A1.fin h1.2 Wk.rng⟩
  · exact h1.elim
/-! ### for -/
def loop3 (g : TG3) (tb : TS3) (G : T3 → Prop) (D' : Ends3) : List D → St3 → T3 → Prop
  | [], σ, T => G T ∧ D'.nx σ T
  | x :: xs, σ, T => G T ∧ g noE x σ T fun σ2 T2 => tb { D' with nx := loop3 g tb G D' xs, ct := loop3 g tb G D' xs, bk := D'.nx } σ2 T2
theorem loop3_nil {g : TG3} {tb : TS3} {G : T3 → Prop} {D' : Ends3} {σ : St3} {T : T3} (h : G T) (k : D'.nx σ T) : loop3 g tb G D' [] σ T := ⟨h, k⟩
theorem loop3_cons {g : TG3} {tb : TS3} {G : T3 → Prop} {D' : Ends3} {x : D} {xs : List D} {σ : St3} {T : T3} (h : G T) (k : g noE x σ T fun σ2 T2 => tb { D' with nx := loop3 g tb G D' xs, ct := loop3 g tb G D' xs, bk := D'.nx } σ2 T2) : loop3 g tb G D' (x :: xs) σ T := ⟨h, k⟩
def t3For (wi : RI3) (g : TG3) (tb : TS3) : TS3 := fun D' σ T => wi (exE D' σ) σ T fun xs G T1 => loop3 g tb G D' xs σ T1
theorem ps3_for {iter : Expr} {body : List Stmt} {wi : RI3} {g : TG3} {tb : TS3} {pos : Pos} (hp : PassesOwn (model X.prog X.w) X.A X.env X.xe) (hc : X.calm = true) (hi : PI3 X W tg iter wi) (hg : PG3 X W tg g) (hb : PSs3 X W body tb)
    (hs : ∀ x, foldedSetIterable iter X.env x = pure x := by intro _; rfl) : PS3 X W (.For tg iter body [] pos) (t3For wi g tb) := PS.imp (ps_for hp hc hi hg hb hs) fun D' σ H h => by
  obtain ⟨D3, σ3, T, A, h⟩ := h
  refine ⟨_, σ3, T, _, ⟨A.rs, A.rh, (fun xs G T1 J H1 h1 s1 rh1 wk => ?_), fun c fs T' d gs H' a b e f g => A.ex c fs σ3 T' d gs σ H' a b e (A.rs.step b) f g⟩, h⟩
  have A1 := A.next s1 rh1 (A.rs.step s1)
  refine ⟨fun i m σ H => ∃ σ3 T, AtS X.prog X.w X.K W D' σ H D3 σ3 T ∧ Step T1 H1 T H ∧ loop3 g tb G D3 (xs.drop i) σ3 T ∧ i ≤ xs.length ∧ m = xs.length - i, ⟨_, σ3, T1, A1, Step.refl _ _, h1, Nat.zero_le _, rfl⟩, ?_⟩
  rintro i m σ2 H2 ⟨σ32, T2, A2, s2, h2, hi, rfl⟩
  cases e : xs.drop i with
  | nil =>
    rw [e] at h2
    have hl : xs.length ≤ i := List.drop_eq_nil_iff.mp e
    exact .inl ⟨wk.stop i T2 H2 A2.rh s2 h2.1 hl, A2.fin h2.2⟩
  | cons x r =>
    rw [e] at h2
    have hx : xs[i]? = some x := by
      have := congrArg List.head? e
      rw [List.head?_drop] at this
      exact this
    have hlt : i < xs.length := (List.getElem?_eq_some_iff.mp hx).1
    have er : xs.drop (i + 1) = r := by rw [← List.drop_drop, e]; rfl
    refine .inr ⟨wk.go i T2 H2 A2.rh s2 h2.1 hlt, fun σ' H' => ∃ σ3' T', AtS X.prog X.w X.K W D' σ' H' D3 σ3' T' ∧ Step T1 H1 T' H' ∧ loop3 g tb G D3 r σ3' T', fun σ' H' ⟨σ3', T', a, b, c⟩ => ⟨_, by omega, σ3', T', a, b, by rw [er]; exact c, hlt, rfl⟩, fun v H3 y => ?_⟩
    obtain ⟨s3, rh3, rv⟩ := wk.yld i T2 H2 x v H3 A2.rh s2 h2.1 hx y
    have A3 := A2.next s3 rh3 (A2.rs.step s3)
    refine ⟨_, σ32, T2, _, x, ⟨A3.rs, A3.rh, (fun σ3' T' σ' H' h4 s4 rh4 rs4 => ?_), fun _ _ _ _ _ _ _ z => z.elim⟩, rv, h2.2⟩
    have A4 := A3.next s4 rh4 rs4
    have s5 : Step T1 H1 T' H' := (s2.trans s3).trans s4
    exact ⟨{ D3 with nx := loop3 g tb G D3 r, ct := loop3 g tb G D3 r, bk := D3.nx }, σ3', T', ⟨A4.rs, A4.rh, fun a b c d e f g i => ⟨a, b, A4.next f g i, s5.trans f, e⟩, fun a b c d e f g i => A4.nx a b c d e f g i, fun a b c d e f g i => ⟨a, b, A4.next f g i, s5.trans f, e⟩, A4.rt, A4.ex⟩, h4⟩
/-! ### while -/
def whl3 (tc : Rd3 Bool) (tb : TS3) (D' : Ends3) : Nat → St3 → T3 → Prop
  | 0, _, _ => False
  | n + 1, σ, T => tc (exE D' σ) σ T fun b T1 => Br b (tb { D' with nx := whl3 tc tb D' n, ct := whl3 tc tb D' n, bk := D'.nx } σ T1) (D'.nx σ T1)
def t3While (tc : Rd3 Bool) (tb : TS3) : TS3 := fun D' σ T => ∃ n, whl3 tc tb D' n σ T
theorem ps3_while {c : Expr} {body : List Stmt} {tc : Rd3 Bool} {tb : TS3} {pos : Pos} (hp : PassesOwn (model X.prog X.w) X.A X.env X.xe) (hc : PT3 X W c tc) (hb : PSs3 X W body tb) : PS3 X W (.While c body [] pos) (t3While tc tb) := PS.imp (ps_while hp hc hb) fun D' σ H h => by
  obtain ⟨D3, σ3, T, A, n, h⟩ := h
  refine ⟨fun m σ H => ∃ σ3 T, AtS X.prog X.w X.K W D' σ H D3 σ3 T ∧ whl3 tc tb D3 m σ3 T, ⟨n, σ3, T, A, h⟩, ?_⟩
  rintro m σ2 H2 ⟨σ32, T2, A2, h2⟩
  cases m with
  | zero => exact h2.elim
  | succ m =>
    refine ⟨_, σ32, T2, _, A2.sub fun b T3 v H3 A3 h3 r3 => ?_, h2⟩
    cases r3
    cases b with
    | false => simp only [Bool.false_eq_true, if_false]; exact A3.fin (h3.ff rfl)
    | true =>
      simp only [if_true]
      refine ⟨fun σ' H' => ∃ σ3' T', AtS X.prog X.w X.K W D' σ' H' D3 σ3' T' ∧ whl3 tc tb D3 m σ3' T', fun σ' H' ⟨σ3', T', a, b⟩ => ⟨m, by omega, σ3', T', a, b⟩, ?_⟩
      exact ⟨{ D3 with nx := whl3 tc tb D3 m, ct := whl3 tc tb D3 m, bk := D3.nx }, σ32, T3, ⟨A3.rs, A3.rh, fun a b c d e f g i => ⟨a, b, A3.next f g i, e⟩, fun a b c d e f g i => A3.nx a b c d e f g i, fun a b c d e f g i => ⟨a, b, A3.next f g i, e⟩, A3.rt, A3.ex⟩, h3.tt rfl⟩
/-! ### comprehensions -/
def wipe3 (σ : St3) : List Nat → St3
  | [] => σ
  | v :: vs => (wipe3 σ vs).set v none
theorem RepS.wipe {K : PySem.W.Frag} {T : T3} {H : Hp} {σ3 : St3} {σ : St} (h : RepS K T H σ3 σ) : ∀ vs, RepS K T H (wipe3 σ3 vs) (L2.wipe σ vs)
  | [] => h
  | v :: vs => (RepS.wipe h vs).unset
theorem wipe_set {σ : St} {i : Nat} {x : Option V} : ∀ {vs : List Nat}, i ∈ vs → L2.wipe (σ.set i x) vs = L2.wipe σ vs
  | v :: vs, h => by
    unfold L2.wipe
    by_cases hi : i ∈ vs
    · rw [wipe_set hi]
    · have e : i = v := by
        rcases List.mem_cons.mp h with h | h
        · exact h
        · exact absurd h hi
      subst e
      have : ∀ {us : List Nat}, i ∉ us → L2.wipe (σ.set i x) us = (L2.wipe σ us).set i x := fun {us} => by
        induction us with
        | nil => intro _; rfl
        | cons u us ih =>
          intro hu
          unfold L2.wipe
          rw [ih (fun z => hu (List.mem_cons_of_mem _ z)), List.set_comm _ _ (fun z => hu (by rw [z]; exact List.mem_cons_self ..))]
      rw [this hi, List.set_set]
/-- a target of a comprehension: it stores slots of vs alone -/
structure GC (P : Program) (w : World) (K : PySem.W.Frag) (g : TG) (g3 : TG3) (vs : List Nat) : Prop where
  mono : ∀ v σ H (Q Q' : St → Hp → Prop), (∀ σ' H', Q σ' H' → Q' σ' H') → g v σ H Q → g v σ H Q'
  run : ∀ {E : EX3} {σ3 : St3} {T : T3} {R : St3 → T3 → Prop} {d : D} {v : V} {σ : St} {H : Hp}, RepS K T H σ3 σ → RepH P w K T H → Rep K T H d v → g3 E d σ3 T R → g v σ H fun σ' H' => ∃ σ3' T', L2.wipe σ' vs = L2.wipe σ vs ∧ RepS K T' H' σ3' σ' ∧ RepH P w K T' H' ∧ Step T H T' H' ∧ R σ3' T'
structure GCs (P : Program) (w : World) (K : PySem.W.Frag) (g : TGs) (g3 : TGs3) (vs : List Nat) : Prop where
  mono : ∀ us σ H (Q Q' : St → Hp → Prop), (∀ σ' H', Q σ' H' → Q' σ' H') → g us σ H Q → g us σ H Q'
  run : ∀ {E : EX3} {σ3 : St3} {T : T3} {R : St3 → T3 → Prop} {ds : List D} {us : List V} {σ : St} {H : Hp}, RepS K T H σ3 σ → RepH P w K T H → RepL K T H ds us → g3 E ds σ3 T R → g us σ H fun σ' H' => ∃ σ3' T', L2.wipe σ' vs = L2.wipe σ vs ∧ RepS K T' H' σ3' σ' ∧ RepH P w K T' H' ∧ Step T H T' H' ∧ R σ3' T'
theorem GC.name {P : Program} {w : World} {K : PySem.W.Frag} {i : Nat} {vs : List Nat} (h : i ∈ vs) : GC P w K (gName i) (g3Name i) vs :=
  ⟨fun v σ H Q Q' k q => k _ _ q, fun rs rh r h3 => ⟨_, _, wipe_set h, rs.set r, rh, Step.refl _ _, h3⟩⟩
theorem GCs.nil {P : Program} {w : World} {K : PySem.W.Frag} {vs : List Nat} : GCs P w K gNil g3Nil vs :=
  ⟨fun v σ H Q Q' k q => ⟨q.1, k _ _ q.2⟩, fun rs rh r h3 => by
    obtain ⟨e, h3⟩ := h3
    subst e
    cases r
    exact ⟨rfl, _, _, rfl, rs, rh, Step.refl _ _, h3⟩⟩
theorem GCs.cons {P : Program} {w : World} {K : PySem.W.Frag} {g : TG} {g3 : TG3} {u : TGs} {u3 : TGs3} {vs : List Nat} (a : GC P w K g g3 vs) (b : GCs P w K u u3 vs) : GCs P w K (gCons g u) (g3Cons g3 u3) vs :=
  ⟨fun us σ H Q Q' k ⟨v, r, e, q⟩ => ⟨v, r, e, a.mono _ _ _ _ _ (fun σ' H' q' => b.mono _ _ _ _ _ k q') q⟩, fun rs rh r h3 => by
    cases r with
    | nil => exact h3.elim
    | cons r1 r2 =>
      refine ⟨_, _, rfl, a.mono _ _ _ _ _ (fun σ' H' ⟨σ3', T', e, rs', rh', s, h4⟩ => ?_) (a.run rs rh r1 h3)⟩
      refine b.mono _ _ _ _ _ (fun σ2 H2 ⟨σ32, T2, e2, rs2, rh2, s2, h5⟩ => ?_) (b.run rs' rh' (r2.step s) h4)
      exact ⟨σ32, T2, e2.trans e, rs2, rh2, s.trans s2, h5⟩⟩
theorem GC.tup {P : Program} {w : World} {K : PySem.W.Frag} {n : Nat} {u : TGs} {u3 : TGs3} {vs : List Nat} (b : GCs P w K u u3 vs) : GC P w K (gTup K n u) (g3Tup n u3) vs :=
  ⟨fun v σ H Q Q' k ⟨a, xs, e, q, l, h⟩ => ⟨a, xs, e, q, l, b.mono _ _ _ _ _ k h⟩, fun rs rh r h3 => by
    unfold g3Tup at h3
    split at h3
    · cases r with
      | tup q t rl => exact ⟨_, _, rfl, q, by rw [← rl.length]; exact h3.1, b.run rs rh rl h3.2⟩
    · exact h3.elim⟩
def comp3 (g : TG3) (tt : Rd3 Bool) (te : TE3) (σ : St3) (G : T3 → Prop) (p : Addr) (R : D → T3 → Prop) : List D → T3 → Prop
  | [], T => G T ∧ R (.ref p) T
  | x :: xs, T => G T ∧ g noE x σ T fun σ2 T2 => tt noE σ2 T2 fun b T3 => Br b (te noE σ2 T3 fun y T4 => ∃ acc, T4 p = some (.lst acc) ∧ acc.length < sizeLine ∧ comp3 g tt te σ G p R xs (updT T4 p (.lst (acc ++ [y])))) (comp3 g tt te σ G p R xs T3)
theorem comp3_nil {g : TG3} {tt : Rd3 Bool} {te : TE3} {σ : St3} {G : T3 → Prop} {p : Addr} {R : D → T3 → Prop} {T : T3} (h : G T) (k : R (.ref p) T) : comp3 g tt te σ G p R [] T := ⟨h, k⟩
theorem comp3_cons {g : TG3} {tt : Rd3 Bool} {te : TE3} {σ : St3} {G : T3 → Prop} {p : Addr} {R : D → T3 → Prop} {x : D} {xs : List D} {T : T3} (h : G T)
    (k : g noE x σ T fun σ2 T2 => tt noE σ2 T2 fun b T3 => Br b (te noE σ2 T3 fun y T4 => ∃ acc, T4 p = some (.lst acc) ∧ acc.length < sizeLine ∧ comp3 g tt te σ G p R xs (updT T4 p (.lst (acc ++ [y])))) (comp3 g tt te σ G p R xs T3)) : comp3 g tt te σ G p R (x :: xs) T := ⟨h, k⟩
def t3Lc (wi : RI3) (g : TG3) (tt : Rd3 Bool) (te : TE3) (vs : List Nat) : TE3 := fun E σ T R => wi E σ T fun xs G T1 => ∀ p, T1 p = none → comp3 g tt te (wipe3 σ vs) G p R xs (updT T1 p (.lst []))
def t3Yes : Rd3 Bool := fun _ _ T R => R true T
def PTs3 (X : Cx) (W : WX) (ifs : List Expr) (t : Rd3 Bool) : Prop := PTs X ifs (low X.prog X.w X.K relB W t)
theorem pts3_nil : PTs3 X W [] t3Yes := ⟨fun pins s σ H Q I h => by
  obtain ⟨E, σ3, T, R, A, h⟩ := h
  exact pts_nil.run pins s σ H Q I (A.fin h rfl)⟩
theorem pts3_one {c : Expr} {t : Rd3 Bool} (h : PT3 X W c t) : PTs3 X W [c] t := pts_one h
abbrev W0 : WX := wE E0
theorem low_lc {wi : RI3} {g3 : TG3} {g : TG} {tt : Rd3 Bool} {te : TE3} {vs : List Nat} (gc : GC X.prog X.w X.K g g3 vs) : ∀ σ H Q, low X.prog X.w X.K (Rep X.K) W (t3Lc wi g3 tt te vs) σ H Q → tLc (lowI X.prog X.w X.K W wi) g (low X.prog X.w X.K relB W0 tt) (low X.prog X.w X.K (Rep X.K) W0 te) vs σ H Q := fun σ H Q h => by
  obtain ⟨E, σ3, T, R, A, h⟩ := h
  refine ⟨E, σ3, T, _, ⟨A.rs, A.rh, (fun xs G T1 J H1 h1 s1 rh1 wk => ?_), A.x⟩, h⟩
  have A1 := A.next s1 rh1
  intro p hp
  obtain ⟨s2, rh2⟩ := new_lst (vs := []) (ds := []) rh1 hp .nil
  have A2 := A1.next s2 rh2
  refine ⟨fun i m H => ∃ T, At X.prog X.w X.K (Rep X.K) W σ H Q E σ3 T R ∧ Step T1 H1 T H ∧ comp3 g3 tt te (wipe3 σ3 vs) G p R (xs.drop i) T ∧ i ≤ xs.length ∧ m = xs.length - i, ⟨_, _, A2, s2, h1 p (rh1.free hp), Nat.zero_le _, rfl⟩, ?_⟩
  rintro i m H2 ⟨T2, A3, s3, h2, hi, rfl⟩
  cases e : xs.drop i with
  | nil =>
    rw [e] at h2
    exact .inl ⟨wk.stop i T2 H2 A3.rh s3 h2.1 (List.drop_eq_nil_iff.mp e), A3.fin h2.2 (.ref p)⟩
  | cons x r =>
    rw [e] at h2
    have hx : xs[i]? = some x := by
      have := congrArg List.head? e
      rw [List.head?_drop] at this
      exact this
    have hlt : i < xs.length := (List.getElem?_eq_some_iff.mp hx).1
    have er : xs.drop (i + 1) = r := by rw [← List.drop_drop, e]; rfl
    refine .inr ⟨wk.go i T2 H2 A3.rh s3 h2.1 hlt, fun H' => ∃ T', At X.prog X.w X.K (Rep X.K) W σ H' Q E σ3 T' R ∧ Step T1 H1 T' H' ∧ comp3 g3 tt te (wipe3 σ3 vs) G p R r T', fun H' ⟨T', a, b, c⟩ => ⟨_, by omega, T', a, b, by rw [er]; exact c, hlt, rfl⟩, fun v H3 y => ?_⟩
    obtain ⟨s4, rh4, rv⟩ := wk.yld i T2 H2 x v H3 A3.rh s3 h2.1 hx y
    have A4 := A3.next s4 rh4
    refine gc.mono _ _ _ _ _ (fun σ' H4 ⟨σ3', T4, ew, rs', rh', s5, h5⟩ => ⟨?_, ?_⟩) (gc.run (A4.rs.wipe vs) rh4 rv h2.2)
    · rw [ew]
      have wipe_wipe : ∀ us : List Nat, (∀ u ∈ us, u ∈ vs) → L2.wipe (L2.wipe σ us) vs = L2.wipe σ vs := fun us => by
        induction us with
        | nil => intro _; rfl
        | cons u us ih =>
          intro hu
          show L2.wipe ((L2.wipe σ us).set u none) vs = _
          rw [wipe_set (hu u (List.mem_cons_self ..)), ih fun z hz => hu z (List.mem_cons_of_mem _ hz)]
      exact wipe_wipe vs fun _ h => h
    · have A5 := A4.next s5 rh'
      have s6 : Step T1 H1 T4 H4 := (s3.trans s4).trans s5
      refine ⟨noE, σ3', T4, _, ⟨rs', rh', (fun b T5 c H5 h6 s7 rh7 r7 => ?_), fun _ _ _ _ _ _ z => z.elim⟩, h5⟩
      cases r7
      have A6 := A5.next s7 rh7
      cases b with
      | false =>
        simp only [Bool.false_eq_true, if_false]
        exact ⟨T5, A6, s6.trans s7, h6.ff rfl⟩
      | true =>
        simp only [if_true]
        refine ⟨noE, σ3', T5, _, ⟨rs'.step s7, rh7, (fun y T6 z H6 h8 s8 rh8 r8 => ?_), fun _ _ _ _ _ _ z => z.elim⟩, h6.tt rfl⟩
        obtain ⟨acc, ea, hz, h9⟩ := h8
        obtain ⟨ws, gw, rw'⟩ := rh8 p _ ea
        have A7 := A6.next s8 rh8
        have s9 : Step T6 H6 (updT T6 p (.lst (acc ++ [y]))) (L2.upd H6 p (.lst (ws ++ [z]))) := Step.write ea
        have rh9 := rh8.upd s9 ⟨_, L2.upd_same, (rw'.append (.cons r8 .nil)).step s9⟩
        exact ⟨ws, gw, by rw [← rw'.length]; exact hz, _, A7.next s9 rh9, ((s6.trans s7).trans s8).trans s9, h9⟩
theorem pe3_lc {elt iter : Expr} {ifs : List Expr} {scope : Scope} {own : List (Str × Nat)} {pos : Pos} {wi : RI3} {g : TG} {g3 : TG3} {tt : Rd3 Bool} {te : TE3} (hc : X.calm = true) (hN : X.N.Nodup) (hi : PI3 X W tg iter wi) (ok : BlkOk X.N X.env.scope scope own) (gc : GC X.prog X.w X.K g g3 (own.map (·.2)))
    (hg : ∀ (s : Shared) (H : Hp) (C : Addr) (cl : List (Str × Addr)) (fp : List Addr), PG (X.blk s H scope (compEnvC scope cl C X.env) fp) tg g) (ht : ∀ (s : Shared) (H : Hp) (C : Addr) (cl : List (Str × Addr)) (fp : List Addr), PTs3 (X.blk s H scope (compEnvC scope cl C X.env) fp) W0 ifs tt)
    (he : ∀ (s : Shared) (H : Hp) (C : Addr) (cl : List (Str × Addr)) (fp : List Addr), PE3 (X.blk s H scope (compEnvC scope cl C X.env) fp) W0 elt te) (hs : ∀ x, foldedSetIterable iter X.env x = pure x := by intro _; rfl) :
    PE3 X W (.ListComp elt [⟨tg, iter, ifs, 0⟩] scope pos) (t3Lc wi g3 tt te (own.map (·.2))) := PE.imp (pe_lc (tt := low X.prog X.w X.K relB W0 tt) (te := low X.prog X.w X.K (Rep X.K) W0 te) hc hN hi ok hg ht he hs) (low_lc gc)
theorem ps3_setLc {i : Nat} {y : Str} {py : Pos} {elt iter : Expr} {ifs : List Expr} {scope : Scope} {own : List (Str × Nat)} {pos spos : Pos} {wi : RI3} {g : TG} {g3 : TG3} {tt : Rd3 Bool} {te : TE3} (hc : X.calm = true) (hN : X.N.Nodup) (hy : X.N[i]? = some y) (hyl : X.env.scope.names.lookup y = some .local)
    (hsw : swapsWith (.ListComp elt [⟨tg, iter, ifs, 0⟩] scope pos) (some (.Name y py)) spos.line X.env = pure true) (hi : PI3 X W tg iter wi) (ok : BlkOk X.N X.env.scope scope own) (gc : GC X.prog X.w X.K g g3 (own.map (·.2)))
    (hg : ∀ (s : Shared) (H : Hp) (C : Addr) (cl : List (Str × Addr)) (fp : List Addr), PG (X.blk s H scope (compEnvC scope cl C X.env) fp) tg g) (ht : ∀ (s : Shared) (H : Hp) (C : Addr) (cl : List (Str × Addr)) (fp : List Addr), PTs3 (X.blk s H scope (compEnvC scope cl C X.env) fp) W0 ifs tt)
    (he : ∀ (s : Shared) (H : Hp) (C : Addr) (cl : List (Str × Addr)) (fp : List Addr), PE3 (X.blk s H scope (compEnvC scope cl C X.env) fp) W0 elt te) (hs : ∀ x, foldedSetIterable iter X.env x = pure x := by intro _; rfl) :
    PS3 X W (.Assign [.Name y py] (.ListComp elt [⟨tg, iter, ifs, 0⟩] scope pos) spos) (t3Asg (t3Lc wi g3 tt te (own.map (·.2))) (g3Name i)) := PS.imp (ps_setLc (tt := low X.prog X.w X.K relB W0 tt) (te := low X.prog X.w X.K (Rep X.K) W0 te) hc hN hy hyl hsw hi ok hg ht he hs) fun D' σ H h => by
  obtain ⟨D3, σ3, T, A, h⟩ := h
  refine low_lc (W := W) gc σ H _ ⟨_, σ3, T, _, A.sub fun d T1 v H1 A1 h1 r1 => ?_, h⟩
  exact (A1.next (Step.refl _ _) A1.rh (A1.rs.set r1)).fin h1
end
end L3
namespace L3
open PySem PySem.Spec L2
open PyProof.Rows hiding St
/-! ### isinstance -/
def tyNames : List String := ["NoneType", "bool", "int", "str", "tuple", "list", "dict"]
def clNames : List String := ["bool", "int", "str", "tuple", "list", "dict"]
def isB (tn ty : String) : Bool := ty == tn || (ty == "bool" && tn == "int")
theorem kitB_all : ∀ ty ∈ tyNames, ∀ tn ∈ clNames, kitB ty tn = some (isB tn ty) := by decide +kernel
theorem kitAny_ty {K : PySem.W.Frag} {ty : String} (hty : ty ∈ tyNames) : ∀ {tys : List String}, (∀ t ∈ tys, t ∈ clNames) → PySem.W.kitAny K (.type ty) (tys.map Value.type) = some (tys.any fun t => isB t ty)
  | [], _ => rfl
  | t :: tys, h => by
    have h1 := kitB_all ty hty t (h t (List.mem_cons_self ..))
    have h2 := kitAny_ty (K := K) hty (tys := tys) fun u hu => h u (List.mem_cons_of_mem _ hu)
    refine kitAny_cons (kit_ty h1) (fun e => ?_) (fun e => ?_)
    · rw [h2, List.any_cons, e, Bool.false_or]
    · rw [List.any_cons, e, Bool.true_or]
/-- what is known of an instance's class for isinstance -/
structure InsTy (K : PySem.W.Frag) (c : Str) : Prop where
  cls : Cls K (He.ga K c)
  ha : PySem.W.findIn K (.ref (He.ga K c)) "__class__" = some (some (.builtin "object.__class__"))
  hn : PySem.W.specialIn K (.builtin "object.__class__") "__get__" = some (some (.builtin "getset_descriptor.__get__"))
  htk : PySem.W.takesIn K (.builtin "object.__class__") = some true
  hm : PySem.W.mroIn K (He.ga K c) (.type "object") = some true
/-- an own class is no built-in one -/
structure NotB (K : PySem.W.Frag) (c : Str) : Prop where
  ty : InsTy K c
  no : ∀ tn ∈ clNames, PySem.W.kitOne K (.ref (He.ga K c)) (.type tn) = some false
theorem kitAny_no {K : PySem.W.Frag} {t : Value} : ∀ {tys : List String}, (∀ u ∈ tys, PySem.W.kitOne K t (.type u) = some false) → PySem.W.kitAny K t (tys.map Value.type) = some false
  | [], _ => rfl
  | u :: tys, h => kitAny_cons (h u (List.mem_cons_self ..)) (fun _ => kitAny_no fun v hv => h v (List.mem_cons_of_mem _ hv)) fun e => (by cases e)
def isiR (K : PySem.W.Frag) (tys : List String) : D → T3 → (D → T3 → Prop) → Prop := fun x T R => match x with
  | .non => R (.bl (tys.any fun t => isB t "NoneType")) T
  | .bl _ => R (.bl (tys.any fun t => isB t "bool")) T
  | .int _ => R (.bl (tys.any fun t => isB t "int")) T
  | .str _ => R (.bl (tys.any fun t => isB t "str")) T
  | .tup _ => R (.bl (tys.any fun t => isB t "tuple")) T
  | .ob c _ => NotB K c ∧ R (.bl false) T
  | .exc _ _ _ _ => False
  | .lam _ _ _ _ _ => False
  | .ref p => (∃ xs, itemsOf T p = some xs ∧ R (.bl (tys.any fun t => isB t "list")) T) ∨ (∃ kvs, T p = some (.dct kvs) ∧ (kvs.all fun q => (keyOf q.1).isSome) = true ∧ R (.bl (tys.any fun t => isB t "dict")) T) ∨ (∃ c fs, T p = some (.ins c fs) ∧ NotB K c ∧ R (.bl false) T)
section
variable {X : Cx} {W : WX}
theorem key_ref {K : PySem.W.Frag} {T : T3} {H : Hp} {d : D} {a : Addr} (r : Rep K T H d (.ref a)) : keyOf d = none := by
  cases r <;> rfl
theorem dk_of {T : T3} {H : Hp} {p : Addr} {kvs : List (D × D)} (r : DR X.prog X.w X.K T H p kvs) (h : (kvs.all fun q => (keyOf q.1).isSome) = true) : ∃ kv : List (Key × V), H p = some (.dK kv) ∧ Paired (fun (p : D × D) (q : Key × V) => keyOf p.1 = some q.1 ∧ Rep X.K T H p.2 q.2) kvs kv := by
  rcases r with r | ⟨xs, ne, e, _, _, _, r⟩
  · exact r
  · exfalso
    cases r with
    | nil => exact ne rfl
    | cons a b =>
      rw [List.all_cons, Bool.and_eq_true] at h
      obtain ⟨_, _, rk, _⟩ := a
      have k0 := key_ref rk
      have h1 := h.1
      rw [k0] at h1
      cases h1
/-- a value's type, or its class -/
theorem tyx_of {T : T3} {H : Hp} {d : D} {v : V} {tys : List String} {R : D → T3 → Prop} {Q : VK} (rh : RepH X.prog X.w X.K T H) (r : Rep X.K T H d v) (ht : ∀ t ∈ tys, t ∈ clNames) (qc : QC X T H R Q) (h : isiR X.K tys d T R) :
    ∃ t b, TyX X.K H v t ∧ PySem.W.kitAny X.K t (tys.map Value.type) = some b ∧ R (.bl b) T := by
  cases r with
  | non => exact ⟨_, _, .base .non, kitAny_ty (by decide) ht, h⟩
  | bl b => exact ⟨_, _, .base (.bl b), kitAny_ty (by decide) ht, h⟩
  | int i => exact ⟨_, _, .base (.int i), kitAny_ty (by decide) ht, h⟩
  | str x => exact ⟨_, _, .base (.str x), kitAny_ty (by decide) ht, h⟩
  | tup q t r =>
    rcases q with (q | ⟨o, q⟩) | ⟨o, its, n, q, qc, _⟩
    · exact ⟨_, _, .base (.tup q), kitAny_ty (by decide) ht, h⟩
    · exact ⟨_, _, .fTuple q, kitAny_ty (by decide) ht, h⟩
    · exact ⟨_, _, .kTuple q qc, kitAny_ty (by decide) ht, h⟩
  | ob t g r =>
    obtain ⟨n, h⟩ := h
    exact ⟨_, _, .base (.ins g n.ty.cls n.ty.ha n.ty.hn n.ty.htk n.ty.hm), kitAny_no fun u hu => n.no u (ht u hu), h⟩
  | exc _ _ _ => exact (show False from h).elim
  | lam _ _ _ => exact (show False from h).elim
  | ref p =>
    rcases h with ⟨xs, e, h⟩ | ⟨kvs, e, hk, h⟩ | ⟨c, fs, e, n, h⟩
    · unfold itemsOf at e
      split at e
      · next q => obtain ⟨vs, g, _⟩ := rh p _ q; exact ⟨_, _, .base (.lst g), kitAny_ty (by decide) ht, h⟩
      · next q => obtain ⟨vs, o, g, _⟩ := rh p _ q; exact ⟨_, _, .base (.frz g), kitAny_ty (by decide) ht, h⟩
      · cases e
    · obtain ⟨kv, g, _⟩ := dk_of (rh p _ e) hk
      exact ⟨_, _, .base (.dK g), kitAny_ty (by decide) ht, h⟩
    · obtain ⟨dx, gs, g, _⟩ := rh p _ e
      exact ⟨_, _, .base (.ins g n.ty.cls n.ty.ha n.ty.hn n.ty.htk n.ty.hm), kitAny_no fun u hu => n.no u (ht u hu), h⟩
/-- whnf stops here -/
structure Isi (K : PySem.W.Frag) (tys : List String) (x : D) (T : T3) (R : D → T3 → Prop) : Prop where
  run : isiR K tys x T R
def t3Isi (K : PySem.W.Frag) (tys : List String) (ta : TE3) : TE3 := fun E σ T R => ta E σ T fun x T1 => Isi K tys x T1 R
theorem pe3_isi {a : Expr} {ta : TE3} {n : Str} {tn : String} {p p2 pos : Pos} (ha : PE3 X W a ta) (gI : Gl X "isinstance") (mI : X.mg "isinstance" = none) (gN : Gl X n) (mN : X.mg n = none) (hv : bootBuiltins n = some (.type tn)) (ht : tn ∈ clNames) (hn : n ≠ "__name__" := by decide) (hd : (n == ("__debug__" : Str)) = false := by decide)
    (hs : starEach [.Name n p2] X.env = (false, eval (.Name n p2) X.env) :: starEach [] X.env := by rfl) (he : starEach [a, .Name n p2] X.env = (false, eval a X.env) :: starEach [.Name n p2] X.env := by rfl) (hpl : (backTo pos (starEach [.Name n p2] X.env)).any (·.1) = false := by rfl) :
    PE3 X W (.Call (.Name "isinstance" p) [a, .Name n p2] [] pos) (t3Isi X.K [tn] ta) :=
  PE.imp (pe_callB call_isi gI mI boot_isinstance (pa_cons ha (pa_cons (pe_bltn (v := .ty tn) gN mN hv rfl hn hd) pa_nil hs) he) (by decide) (by decide) he hpl) fun σ H Q h => by
    obtain ⟨E, σ3, T, R, A, h⟩ := h
    refine ⟨E, σ3, T, _, A.sub fun x T1 v H1 A1 s1 h1 r1 => ?_, h⟩
    obtain ⟨t, b, ty, k, hR⟩ := tyx_of A1.rh r1 (tys := [tn]) (fun u hu => by simp at hu; subst hu; exact ht) A1.q h1.run
    have k1 : PySem.W.kitOne X.K t (.type tn) = some b := by
      have k2 : (match PySem.W.kitOne X.K t (.type tn) with
        | some true => some true
        | some false => some false
        | none => none) = some b := k
      cases q : PySem.W.kitOne X.K t (.type tn) with
      | none => rw [q] at k2; cases k2
      | some c => rw [q] at k2; cases c <;> exact k2
    exact ⟨v, .ty tn, t, .type tn, b, rfl, .ty tn, ty, k1, A1.fin hR (.bl b)⟩
/-- isinstance(a, (T1, T2)) -/
theorem pe3_isi2 {a : Expr} {ta : TE3} {n n' : Str} {tn tn' : String} {p p2 p3 p4 pos : Pos} {kk : Nat} (ha : PE3 X W a ta) (gI : Gl X "isinstance") (mI : X.mg "isinstance" = none) (gN : Gl X n) (mN : X.mg n = none) (hv : bootBuiltins n = some (.type tn)) (gN' : Gl X n') (mN' : X.mg n' = none) (hv' : bootBuiltins n' = some (.type tn'))
    (ht : tn ∈ clNames) (ht' : tn' ∈ clNames) (hn : n ≠ "__name__" := by decide) (hd : (n == ("__debug__" : Str)) = false := by decide) (hn' : n' ≠ "__name__" := by decide) (hd' : (n' == ("__debug__" : Str)) = false := by decide)
    (hs1 : starEach [.Name n' p3] X.env = (false, eval (.Name n' p3) X.env) :: starEach [] X.env := by rfl) (hs2 : starEach [.Name n p2, .Name n' p3] X.env = (false, eval (.Name n p2) X.env) :: starEach [.Name n' p3] X.env := by rfl)
    (hs : starEach [.Tuple [.Name n p2, .Name n' p3] kk p4] X.env = (false, eval (.Tuple [.Name n p2, .Name n' p3] kk p4) X.env) :: starEach [] X.env := by rfl)
    (he : starEach [a, .Tuple [.Name n p2, .Name n' p3] kk p4] X.env = (false, eval a X.env) :: starEach [.Tuple [.Name n p2, .Name n' p3] kk p4] X.env := by rfl) (hpl : (backTo pos (starEach [.Tuple [.Name n p2, .Name n' p3] kk p4] X.env)).any (·.1) = false := by rfl) :
    PE3 X W (.Call (.Name "isinstance" p) [a, .Tuple [.Name n p2, .Name n' p3] kk p4] [] pos) (t3Isi X.K [tn, tn'] ta) :=
  PE.imp (pe_callB call_isiT gI mI boot_isinstance (pa_cons ha (pa_cons (pe_tup (pa_cons (pe_bltn (v := .ty tn) gN mN hv rfl hn hd) (pa_cons (pe_bltn (v := .ty tn') gN' mN' hv' rfl hn' hd') pa_nil hs1) hs2)) pa_nil hs) he) (by decide) (by decide) he hpl) fun σ H Q h => by
    obtain ⟨E, σ3, T, R, A, h⟩ := h
    refine ⟨E, σ3, T, _, A.sub fun x T1 v H1 A1 s1 h1 r1 => ?_, h⟩
    refine ⟨by show 2 ≤ sizeLine; decide, fun q hq => ?_⟩
    have s2 : Step T1 H1 T1 (L2.upd H1 q (.tup [.ty tn, .ty tn'])) := Step.newU hq
    have A2 := A1.next s2 (A1.rh.newU hq)
    obtain ⟨t, b, ty, k, hR⟩ := tyx_of A2.rh (r1.step s2) (tys := [tn, tn']) (fun u hu => by simp at hu; rcases hu with rfl | rfl <;> assumption) A2.q h1.run
    exact ⟨v, q, [.ty tn, .ty tn'], t, [.type tn, .type tn'], b, rfl, L2.upd_same, .cons (.ty tn) (.cons (.ty tn') .nil), ty, k, A2.fin hR (.bl b)⟩
/-- isinstance(a, C), an own class -/
structure IsC (K : PySem.W.Frag) (c C : Str) (b : Bool) : Prop where
  ty : InsTy K c
  is : PySem.W.kitOne K (.ref (He.ga K c)) (.ref (He.ga K C)) = some b
def NoC (K : PySem.W.Frag) (C : Str) : Prop := ∀ ty ∈ tyNames, PySem.W.kitOne K (.type ty) (.ref (He.ga K C)) = some false
def isCR (K : PySem.W.Frag) (C : Str) : D → T3 → (D → T3 → Prop) → Prop := fun x T R => match x with
  | .ob c _ => ∃ b, IsC K c C b ∧ R (.bl b) T
  | .exc _ _ _ _ => False
  | .lam _ _ _ _ _ => False
  | .ref p => (∃ xs, itemsOf T p = some xs ∧ R (.bl false) T) ∨ (∃ kvs, T p = some (.dct kvs) ∧ (kvs.all fun q => (keyOf q.1).isSome) = true ∧ R (.bl false) T) ∨ (∃ c fs b, T p = some (.ins c fs) ∧ IsC K c C b ∧ R (.bl b) T)
  | _ => R (.bl false) T
structure IsCl (K : PySem.W.Frag) (C : Str) (x : D) (T : T3) (R : D → T3 → Prop) : Prop where
  run : isCR K C x T R
def t3IsC (K : PySem.W.Frag) (C : Str) (ta : TE3) : TE3 := fun E σ T R => ta E σ T fun x T1 => IsCl K C x T1 R
theorem pe3_isc {a : Expr} {ta : TE3} {C : Str} {p p2 pos : Pos} (ha : PE3 X W a ta) (gI : Gl X "isinstance") (mI : X.mg "isinstance" = none) (gN : Gl X C) (mN : X.mg C = some (.ref (He.ga X.K C))) (nc : NoC X.K C) (hd : (C == ("__debug__" : Str)) = false := by decide)
    (hs : starEach [.Name C p2] X.env = (false, eval (.Name C p2) X.env) :: starEach [] X.env := by rfl) (he : starEach [a, .Name C p2] X.env = (false, eval a X.env) :: starEach [.Name C p2] X.env := by rfl) (hpl : (backTo pos (starEach [.Name C p2] X.env)).any (·.1) = false := by rfl) :
    PE3 X W (.Call (.Name "isinstance" p) [a, .Name C p2] [] pos) (t3IsC X.K C ta) :=
  PE.imp (pe_callB call_isi gI mI boot_isinstance (pa_cons ha (pa_cons (pe_glob (v := .ref (He.ga X.K C)) gN mN rfl hd) pa_nil hs) he) (by decide) (by decide) he hpl) fun σ H Q h => by
    obtain ⟨E, σ3, T, R, A, h⟩ := h
    refine ⟨E, σ3, T, _, A.sub fun x T1 v H1 A1 s1 h0 r1 => ?_, h⟩
    have h1 := h0.run
    have data : ∀ ty, ty ∈ tyNames → TyX X.K H1 v (.type ty) → R (.bl false) T1 → rIsi X.K [v, .ref (He.ga X.K C)] H1 Q := fun ty m t hR =>
      ⟨v, _, _, _, false, rfl, .own _, t, nc ty m, A1.fin hR (.bl _)⟩
    cases r1 with
    | non => exact data _ (by decide) (.base .non) h1
    | bl b => exact data _ (by decide) (.base (.bl b)) h1
    | int i => exact data _ (by decide) (.base (.int i)) h1
    | str x => exact data _ (by decide) (.base (.str x)) h1
    | tup q t r =>
      rcases q with (q | ⟨o, q⟩) | ⟨o, its, n, q, qc, _⟩
      · exact data _ (by decide) (.base (.tup q)) h1
      · exact data _ (by decide) (.fTuple q) h1
      · exact data _ (by decide) (.kTuple q qc) h1
    | ob t g r =>
      obtain ⟨b, n, hR⟩ := h1
      exact ⟨_, _, _, _, b, rfl, .own _, .base (.ins g n.ty.cls n.ty.ha n.ty.hn n.ty.htk n.ty.hm), n.is, A1.fin hR (.bl _)⟩
    | exc _ _ _ => exact (show False from h1).elim
    | lam _ _ _ => exact (show False from h1).elim
    | ref p =>
      rcases h1 with ⟨xs, e, hR⟩ | ⟨kvs, e, hk, hR⟩ | ⟨c, fs, b, e, n, hR⟩
      · unfold itemsOf at e
        split at e
        · next q => obtain ⟨vs, g, _⟩ := A1.rh p _ q; exact data _ (by decide) (.base (.lst g)) hR
        · next q => obtain ⟨vs, o, g, _⟩ := A1.rh p _ q; exact data _ (by decide) (.base (.frz g)) hR
        · cases e
      · obtain ⟨kv, g, _⟩ := dk_of (A1.rh p _ e) hk
        exact data _ (by decide) (.base (.dK g)) hR
      · obtain ⟨dx, gs, g, _⟩ := A1.rh p _ e
        exact ⟨_, _, _, _, b, rfl, .own _, .base (.ins g n.ty.cls n.ty.ha n.ty.hn n.ty.htk n.ty.hm), n.is, A1.fin hR (.bl _)⟩
/-! ### more that is walked: texts, enumerate, zip -/
def signsD (z : Str) : List D := z.cps.toList.map fun c => .str ⟨#[c]⟩
theorem Wk.str {P : Program} {w : World} {K : PySem.W.Frag} {z : Str} {T0 : T3} {H0 : Hp} : Wk P w K (Its z) (signsD z) (fun _ => True) T0 H0 where
  go := fun i T H _ s _ hi => by
    show i < z.cps.size
    simpa [signsD] using hi
  yld := fun i T H d v H' rh s _ e y => by
    obtain ⟨rfl, c, e2, rfl⟩ := y
    unfold signsD at e
    rw [List.getElem?_map, Array.getElem?_toList, e2] at e
    cases e
    exact ⟨Step.refl _ _, rh, .str _⟩
  stop := fun i T H _ s _ hi => by
    show z.cps.size ≤ i
    simpa [signsD] using hi
def i3Str (te : TE3) : RI3 := fun E σ T R => te E σ T fun x T1 => match x with
  | .str z => R (signsD z) (fun _ => True) T1
  | _ => False
theorem pi3_str {tg e : Expr} {te : TE3} (he : PE3 X W e te) : PI3 X W tg e (i3Str te) := PI.imp (pi_str he) fun σ H Q h => by
  obtain ⟨E, σ3, T, R, A, h⟩ := h
  refine ⟨E, σ3, T, _, A.sub fun x T1 v H1 A1 h1 r1 => ?_, h⟩
  split at h1
  · cases r1; exact ⟨_, rfl, A1.fin h1 Wk.str⟩
  · exact h1.elim
/-- any of a tuple, a list, a text -/
theorem PI3.or {tg e : Expr} {t u : RI3} (h : PI3 X W tg e t) (k : PI3 X W tg e u) : PI3 X W tg e (fun E σ T R => t E σ T R ∨ u E σ T R) := ⟨fun pins s σ H Q I hw => by
  obtain ⟨E, σ3, T, R, A, hw⟩ := hw
  rcases hw with hw | hw
  · exact h.run pins s σ H Q I ⟨E, σ3, T, R, A, hw⟩
  · exact k.run pins s σ H Q I ⟨E, σ3, T, R, A, hw⟩⟩
theorem PE3.or {e : Expr} {t u : TE3} (h : PE3 X W e t) (k : PE3 X W e u) : PE3 X W e (fun E σ T R => t E σ T R ∨ u E σ T R) := ⟨fun pins s σ H Q I hw => by
  obtain ⟨E, σ3, T, R, A, hw⟩ := hw
  rcases hw with hw | hw
  · exact h.run pins s σ H Q I ⟨E, σ3, T, R, A, hw⟩
  · exact k.run pins s σ H Q I ⟨E, σ3, T, R, A, hw⟩⟩
end
end L3
namespace L3
open PySem PySem.Spec L2
open PyProof.Rows hiding St
/-! ### what a caller needs of a def, a method, a constructor, a property -/
structure DfOk (P : Program) (w : World) (K : PySem.W.Frag) (mg : Str → Option Value) (base : Heap) (x : Str) (k : Nat) (ps : List Str) (dds : List D) (sp : Sp3) : Prop where
  ex : ∃ (f : Addr) (fd : FuncData) (dvs : List V) (ds : List Value), mg x = some (.ref f) ∧ PySem.W.keepIn K (.ref f) = true ∧ Binds K fd ps ds ∧ Vals dvs ds ∧ (∀ T H, RepL K T H dds dvs) ∧ Fn3 P w K mg base k f fd ps sp
structure MdOk (P : Program) (w : World) (K : PySem.W.Frag) (mg : Str → Option Value) (base : Heap) (c m : Str) (k : Nat) (ps : List Str) (dds : List D) (sp : Sp3) : Prop where
  ex : ∃ (f : Addr) (fd : FuncData) (dvs : List V) (ds : List Value), MethOk K c m f ∧ Binds K fd ps ds ∧ Vals dvs ds ∧ (∀ T H, RepL K T H dds dvs) ∧ Fn3 P w K mg base k f fd ps sp
structure CtOk (P : Program) (w : World) (K : PySem.W.Frag) (mg : Str → Option Value) (base : Heap) (c : Str) (k : Nat) (ps : List Str) (dds : List D) (sp : Sp3) : Prop where
  ex : ∃ (f : Addr) (fd : FuncData) (dvs : List V) (ds : List Value), Mk K (He.ga K c) f ∧ mg c = some (.ref (He.ga K c)) ∧ Binds K fd ps ds ∧ Vals dvs ds ∧ (∀ T H, RepL K T H dds dvs) ∧ Fn3 P w K mg base k f fd ps sp
structure PrOk (P : Program) (w : World) (K : PySem.W.Frag) (mg : Str → Option Value) (base : Heap) (c fn : Str) (k : Nat) (sp : Sp3) : Prop where
  ex : ∃ (p g : Addr) (fd : FuncData), PropOk K c fn p g ∧ Binds K fd ["self"] [] ∧ Fn3 P w K mg base k g fd ["self"] sp
section
variable {X : Cx} {W : WX} {EX : XK} {k : Nat} {ps : List Str} {dds : List D} {sp : Sp3} {c x m : Str} {p pos apos : Pos} {o e : Expr} {es : List Expr} {ta : TE3} {t : Rd3 (List D)}
theorem pe3_callD (F : DfOk X.prog X.w X.K X.mg X.base x k ps dds sp) (tk : Takes X W) (hr : Room k X.A) (hg : Gl X x) (ha : PA3 X W (e :: es) t) (hdb : (x == ("__debug__" : Str)) = false := by decide)
    (he : starEach (e :: es) X.env = (false, eval e X.env) :: starEach es X.env := by rfl) (hpl : (backTo pos (starEach es X.env)).any (·.1) = false := by rfl) : PE3 X W (.Call (.Name x p) (e :: es) [] pos) (t3Call sp dds t) := by
  obtain ⟨f, fd, dvs, ds, hm, hk, hb, hd, hq, F⟩ := F.ex
  exact pe3_call F tk hr hg hm hk hb hd hq ha hdb he hpl
theorem pe3_methD {pl : Sem Bool} (he : PE3 X (wE EX) o ta) (F : MdOk X.prog X.w X.K X.mg X.base c m k ps dds sp) (tk : Takes X (wE EX)) (hr : Room k X.A) (ha : PA3 X (wE EX) (e :: es) t)
    (hst : starEach (e :: es) X.env = (false, eval e X.env) :: starEach es X.env := by rfl) (hpl : (backTo pos (starEach es X.env)).any (·.1) = false := by rfl)
    (ht : eval (.Call (.Attribute o m apos) (e :: es) [] pos) X.env = (do
      let ov ← eval o X.env
      standAt apos.atName
      let (f, first) ← holding [ov] (getMethod ov m pl)
      callWith pos f first (backTo pos (starEach (e :: es) X.env)) (backToKw pos (keywordEach [] X.env))) := by rfl) :
    PE3 X (wE EX) (.Call (.Attribute o m apos) (e :: es) [] pos) (t3Meth c m sp dds ta t) := by
  obtain ⟨f, fd, dvs, ds, hm, hb, hd, hq, F⟩ := F.ex
  exact pe3_meth he hm F tk hr hb hd hq ha hst hpl ht
theorem pe3_methD0 {pl : Sem Bool} (he : PE3 X (wE EX) o ta) (F : MdOk X.prog X.w X.K X.mg X.base c m k ps dds sp) (tk : Takes X (wE EX)) (hr : Room k X.A)
    (ht : eval (.Call (.Attribute o m apos) [] [] pos) X.env = (do
      let ov ← eval o X.env
      standAt apos.atName
      let (f, first) ← holding [ov] (getMethod ov m pl)
      callWith pos f first (backTo pos (starEach [] X.env)) (backToKw pos (keywordEach [] X.env))) := by rfl) :
    PE3 X (wE EX) (.Call (.Attribute o m apos) [] [] pos) (t3Meth c m sp dds ta t3Nil) := by
  obtain ⟨f, fd, dvs, ds, hm, hb, hd, hq, F⟩ := F.ex
  exact pe3_meth0 he hm F tk hr hb hd hq ht
theorem pe3_propD {fn : Str} (he : PE3 X W o ta) (F : PrOk X.prog X.w X.K X.mg X.base c fn k sp) (hr : Room (k + 1) X.A) (hab : attributeBase o fn X.env (eval o X.env) = eval o X.env := by rfl) : PE3 X W (.Attribute o fn pos) (t3Prop c sp [] ta) := by
  obtain ⟨p, g, fd, hp, hb, F⟩ := F.ex
  exact pe3_prop he hp F hr hb .nil (fun _ _ => .nil) hab
theorem pe3_makeD (F : CtOk X.prog X.w X.K X.mg X.base c k ps dds sp) (tk : Takes X (wE EX)) (hr : Room (k + 1) X.A) (hg : Gl X c) (ha : PA3 X (wE EX) (e :: es) t) (hdb : (c == ("__debug__" : Str)) = false := by decide)
    (he : starEach (e :: es) X.env = (false, eval e X.env) :: starEach es X.env := by rfl) (hpl : (backTo pos (starEach es X.env)).any (·.1) = false := by rfl) : PE3 X (wE EX) (.Call (.Name c p) (e :: es) [] pos) (t3Make c sp dds t) := by
  obtain ⟨f, fd, dvs, ds, M, hm, hb, hd, hq, F⟩ := F.ex
  exact pe3_make M F tk hr hg hm hb hd hq ha hdb he hpl
theorem pe3_makeFD (F : CtOk X.prog X.w X.K X.mg X.base c k ps dds sp) (tk : Takes X (wE EX)) (hr : Room (k + 1) X.A) (hg : Gl X c) (ha : PA3 X (wE EX) (e :: es) t) (hdb : (c == ("__debug__" : Str)) = false := by decide)
    (he : starEach (e :: es) X.env = (false, eval e X.env) :: starEach es X.env := by rfl) (hpl : (backTo pos (starEach es X.env)).any (·.1) = false := by rfl) : PE3 X (wE EX) (.Call (.Name c p) (e :: es) [] pos) (t3MakeF c sp dds t) := by
  obtain ⟨f, fd, dvs, ds, M, hm, hb, hd, hq, F⟩ := F.ex
  exact pe3_makeF M F tk hr hg hm hb hd hq ha hdb he hpl
end
/-- a promise of a def that reckons and changes nothing -/
def pure3 {α : Type} (A : α → List D) (pre : α → Prop) (B : α → D) : Sp3 := fun ds T R _ => ∃ a, ds = A a ∧ pre a ∧ R (B a) T
end L3
namespace L3
open PySem PySem.Spec L2
open PyProof.Rows hiding St
/-! ### T grows, T forgets -/
def Ext (T T' : T3) : Prop := ∀ a o, T a = some o → T' a = some o
theorem Ext.refl (T : T3) : Ext T T := fun _ _ h => h
theorem Ext.trans {T T1 T2 : T3} (a : Ext T T1) (b : Ext T1 T2) : Ext T T2 := fun x o h => b x o (a x o h)
theorem Ext.new {T : T3} {p : Addr} {o : O} (h : T p = none) : Ext T (updT T p o) := fun a u e => by
  rw [updT_ne (fun z => by rw [z, h] at e; cases e)]; exact e
theorem Ext.none {T T' : T3} {p : Addr} (x : Ext T T') (h : T' p = none) : T p = none := by
  cases e : T p with
  | none => rfl
  | some o => rw [x _ _ e] at h; cases h
/-- T is a part of T' -/
def Sub (T T' : T3) : Prop := ∀ a, T a = none ∨ T a = T' a
theorem Sub.refl (T : T3) : Sub T T := fun _ => .inr rfl
theorem Sub.trans {T T1 T2 : T3} (a : Sub T T1) (b : Sub T1 T2) : Sub T T2 := fun x => by
  rcases a x with h | h
  · exact .inl h
  · rcases b x with k | k
    · exact .inl (h.trans k)
    · exact .inr (h.trans k)
theorem Ext.sub {T T' : T3} (x : Ext T T') : Sub T T' := fun a => by
  cases e : T a with
  | none => exact .inl rfl
  | some o => exact .inr (x a o e).symm
theorem Sub.none {T T' : T3} (s : Sub T T') {a : Addr} (h : T' a = none) : T a = none := (s a).elim id fun e => e.trans h
section
variable {P : Program} {w : World} {K : PySem.W.Frag} {T T' : T3} {H : Hp}
mutual
theorem Rep.sub (s : Sub T' T) : ∀ {d : D} {v : V}, Rep K T H d v → Rep K T' H d v
  | _, _, .non => .non
  | _, _, .bl b => .bl b
  | _, _, .int i => .int i
  | _, _, .str x => .str x
  | _, _, .ref a => .ref a
  | _, _, .tup h t r => .tup h (t.imp (fun e => s.none e) id) (RepL.sub s r)
  | _, _, .ob t h r => .ob (s.none t) h (RepF.sub s r)
  | _, _, .exc t h r => .exc (s.none t) h (RepF.sub s r)
  | _, _, .lam t h r => .lam (s.none t) h (RepL.sub s r)
theorem RepL.sub (s : Sub T' T) : ∀ {ds : List D} {vs : List V}, RepL K T H ds vs → RepL K T' H ds vs
  | _, _, .nil => .nil
  | _, _, .cons a b => .cons (Rep.sub s a) (RepL.sub s b)
theorem RepF.sub (s : Sub T' T) : ∀ {ds : List (Str × D)} {vs : List (Str × V)}, RepF K T H ds vs → RepF K T' H ds vs
  | _, _, .nil => .nil
  | _, _, .cons a b => .cons (Rep.sub s a) (RepF.sub s b)
end
theorem RepO.sub (s : Sub T' T) {a : Addr} {o : O} (h : RepO P w K T H a o) : RepO P w K T' H a o := by
  cases o with
  | lst ds => obtain ⟨xs, e, r⟩ := h; exact ⟨xs, e, r.sub s⟩
  | rol ds => obtain ⟨xs, u, e, r⟩ := h; exact ⟨xs, u, e, r.sub s⟩
  | dct kvs =>
    rcases h with ⟨kv, e, r⟩ | ⟨xs, n, e, nd, sm, sz, r⟩
    · exact .inl ⟨kv, e, Paired.mapP r fun p q z => ⟨z.1, z.2.sub s⟩⟩
    · exact .inr ⟨xs, n, e, nd, sm, sz, Paired.mapP r fun p q ⟨z1, z2, z3, v, z4, z5⟩ => ⟨z1, z2, z3.sub s, v, z4, z5.sub s⟩⟩
  | ins c fs => obtain ⟨dx, gs, e, r⟩ := h; exact ⟨dx, gs, e, r.sub s⟩
  | tab q =>
    obtain ⟨ps, e, t, r⟩ := h
    refine ⟨ps, e, t, fun pos cv z => ?_⟩
    obtain ⟨c, e1, e2, e3⟩ := r pos cv z
    exact ⟨c, e1, e2, s.none e3⟩
theorem RepH.sub (s : Sub T' T) (h : RepH P w K T H) : RepH P w K T' H := fun a o e => by
  rcases s a with z | z
  · rw [z] at e; cases e
  · exact (h a o (z.symm.trans e)).sub s
theorem Step.sub {T0 : T3} {H0 : Hp} (s : Sub T' T) (h : Step T0 H0 T H) : Step T0 H0 T' H := fun a o e1 e2 => ⟨s.none (h a o e1 e2).1, (h a o e1 e2).2⟩
end
/-- behind a def: part of T may be forgotten -/
def Lv (R : D → T3 → Prop) : D → T3 → Prop := fun d T' => ∃ T'', Sub T'' T' ∧ R d T''
def LvE (E : EX3) : EX3 := fun c fs T' => ∃ T'', Sub T'' T' ∧ E c fs T''
theorem Lv.here {R : D → T3 → Prop} {d : D} {T : T3} (h : R d T) : Lv R d T := ⟨T, Sub.refl T, h⟩
theorem Lv.back {R : D → T3 → Prop} {d : D} {T T' : T3} (x : Ext T T') (h : R d T) : Lv R d T' := ⟨T, x.sub, h⟩
section
variable {P : Program} {w : World} {K : PySem.W.Frag} {mg : Str → Option Value} {base : Heap} {x qual : Str} {params : Arguments} {body : List Stmt} {scope : Scope} {dvs : List V} {kws : List (Str × V)} {f : Addr} {fd : FuncData}
/-- THE RULE for a def, with forgetting -/
theorem fn3_ofS {N ps : List Str} {k : Nat} {sp : Sp3} (F : FunD K x qual params body scope dvs kws f fd) (S : FnScope N ps scope) (len : ∀ ds T R E, sp ds T R E → ds.length = ps.length)
    (hb : ∀ (cdv : Value) (A : Around) (outer : List Env) (s : Shared) (H : Hp) (E : XK), Room k (A.deeper (envOfC qual scope s.heap.objs.size f cdv)) →
      Takes (cxOf (L2.CX P w) P w K mg base N qual scope f cdv A outer s H E) (wE E) → ∃ t, PSs3 (cxOf (L2.CX P w) P w K mg base N qual scope f cdv A outer s H E) (wE E) body t ∧
        ∀ ds T R EE, sp ds T R EE → t { nx := fun _ T' => Lv R .non T', rt := Lv R, ex := fun c fs _ T' => LvE EE c fs T' } (start3 N ds) T) : Fn3 P w K mg base (k + 1) f fd ps sp := by
  refine F.ok S (fun vs H Q E h => ?_) (fun cdv A outer s H vs Q E hrm h => ?_)
  · obtain ⟨ds, T, R, EE, a, _, _, _, e⟩ := h
    rw [← a.length]
    exact len _ _ _ _ e
  · obtain ⟨t, ht, hr⟩ := hb cdv A outer s H E hrm (takes_of rfl rfl rfl rfl)
    refine ⟨_, ht, ?_⟩
    obtain ⟨ds, T, R, EE, a, b, c, d, e⟩ := h
    refine ⟨{ nx := fun _ T' => Lv R .non T', rt := Lv R, ex := fun c fs _ T' => LvE EE c fs T' }, _, T, ⟨RepS.start a, b, (fun σ3' T' σ' H' ⟨T2, su, h1⟩ h2 h3 h4 => c _ _ _ _ h1 (h2.sub su) (h3.sub su) .non), (fun _ _ _ _ z => False.elim z), (fun _ _ _ _ z => False.elim z), (fun d' T' v H' ⟨T2, su, h1⟩ h2 h3 h4 => c _ _ _ _ h1 (h2.sub su) (h3.sub su) (h4.sub su)), (fun c' fs σ3' T' d' gs σ' H' ⟨T2, su, h1⟩ h2 h3 h4 h5 h6 => d _ _ _ _ _ _ h1 (h2.sub su) (h3.sub su) h5 (h6.sub su))⟩, hr _ _ _ _ e⟩
end
/-! ### what kind of value it is -/
structure Dct (T : T3) (p : Addr) (kvs : List (D × D)) : Prop where
  at_ : T p = some (.dct kvs)
  keys : (kvs.all fun q => (keyOf q.1).isSome) = true
def Typed (K : PySem.W.Frag) (T : T3) : D → Prop
  | .ref p => (∃ xs, itemsOf T p = some xs) ∨ (∃ kvs, Dct T p kvs) ∨ (∃ c fs, T p = some (.ins c fs) ∧ NotB K c)
  | .ob c _ => NotB K c
  | .str z => z.length ≤ sizeLine
  | .exc _ _ _ _ => False
  | .lam _ _ _ _ _ => False
  | _ => True
def tyN (T : T3) : D → String
  | .non => "NoneType"
  | .bl _ => "bool"
  | .int _ => "int"
  | .str _ => "str"
  | .tup _ => "tuple"
  | .ref p => (match T p with
    | some (.lst _) => "list"
    | some (.rol _) => "list"
    | some (.dct _) => "dict"
    | _ => "")
  | .ob _ _ => ""
  | .exc _ _ _ _ => ""
  | .lam _ _ _ _ _ => ""
theorem itemsOf_ext {T T' : T3} (x : Ext T T') {p : Addr} {xs : List D} (h : itemsOf T p = some xs) : itemsOf T' p = some xs := by
  unfold itemsOf at h ⊢
  cases e : T p with
  | none => rw [e] at h; cases h
  | some o => rw [e] at h; rw [x p o e]; exact h
theorem Typed.ext {K : PySem.W.Frag} {T T' : T3} (x : Ext T T') : ∀ {d : D}, Typed K T d → Typed K T' d
  | .ref p, h => by
    rcases h with ⟨xs, h⟩ | ⟨kvs, h⟩ | ⟨c, fs, h, n⟩
    · exact .inl ⟨xs, itemsOf_ext x h⟩
    · exact .inr (.inl ⟨kvs, x _ _ h.at_, h.keys⟩)
    · exact .inr (.inr ⟨c, fs, x _ _ h, n⟩)
  | .ob _ _, h => h
  | .exc _ _ _ _, h => h
  | .lam _ _ _ _ _, h => h
  | .non, _ => trivial
  | .bl _, _ => trivial
  | .int _, _ => trivial
  | .str _, h => h
  | .tup _, _ => trivial
theorem tyN_ext {K : PySem.W.Frag} {T T' : T3} (x : Ext T T') : ∀ {d : D}, Typed K T d → tyN T' d = tyN T d
  | .ref p, h => by
    show (match T' p with
      | some (.lst _) => "list"
      | some (.rol _) => "list"
      | some (.dct _) => "dict"
      | _ => "") = (match T p with
      | some (.lst _) => "list"
      | some (.rol _) => "list"
      | some (.dct _) => "dict"
      | _ => "")
    cases e : T p with
    | some o => rw [x p o e]
    | none =>
      exfalso
      rcases h with ⟨xs, h⟩ | ⟨kvs, h⟩ | ⟨c, fs, h, n⟩
      · unfold itemsOf at h; rw [e] at h; cases h
      · have := h.at_; rw [e] at this; cases this
      · rw [e] at h; cases h
  | .ob _ _, h => rfl
  | .exc _ _ _ _, h => rfl
  | .lam _ _ _ _ _, h => rfl
  | .non, _ => rfl
  | .bl _, _ => rfl
  | .int _, _ => rfl
  | .str _, _ => rfl
  | .tup _, _ => rfl
/-- isinstance of a value of a known kind -/
theorem isiR_of {K : PySem.W.Frag} {tys : List String} {x : D} {T : T3} {R : D → T3 → Prop} (h : Typed K T x) (hn : tys.all (fun t => t ∈ clNames) = true) (k : R (.bl (tys.any fun t => isB t (tyN T x))) T) : isiR K tys x T R := by
  have no : (tys.any fun t => isB t "") = false := by
    rw [List.any_eq_false]
    intro t ht
    have := List.all_eq_true.mp hn t ht
    have m : t ∈ clNames := of_decide_eq_true this
    have q : ∀ t ∈ clNames, isB t "" = false := by decide
    rw [q t m]; decide
  cases x with
  | ref p =>
    have k' : R (.bl (tys.any fun t => isB t (match T p with
      | some (.lst _) => "list"
      | some (.rol _) => "list"
      | some (.dct _) => "dict"
      | _ => ""))) T := k
    rcases h with ⟨xs, h⟩ | ⟨kvs, h⟩ | ⟨c, fs, h, n⟩
    · refine .inl ⟨xs, h, ?_⟩
      unfold itemsOf at h
      split at h
      · next e => rw [e] at k'; exact k'
      · next e => rw [e] at k'; exact k'
      · cases h
    · rw [h.at_] at k'; exact .inr (.inl ⟨kvs, h.at_, h.keys, k'⟩)
    · rw [h] at k'; dsimp only at k'; rw [no] at k'; exact .inr (.inr ⟨c, fs, h, n, k'⟩)
  | ob c fs =>
    have k' : R (.bl (tys.any fun t => isB t "")) T := k
    rw [no] at k'
    exact ⟨h, k'⟩
  | exc _ _ _ _ => exact (show False from h).elim
  | lam _ _ _ _ _ => exact (show False from h).elim
  | _ => exact k
theorem Isi.of {K : PySem.W.Frag} {tys : List String} {x : D} {T : T3} {R : D → T3 → Prop} {b : Bool} (h : Typed K T x) (e : (tys.any fun t => isB t (tyN T x)) = b) (k : R (.bl b) T) (hn : tys.all (fun t => t ∈ clNames) = true := by decide) : Isi K tys x T R :=
  ⟨isiR_of h hn (by rw [e]; exact k)⟩
def isStrD : D → Bool
  | .str _ => true
  | _ => false
def isIntD : D → Bool
  | .int _ => true
  | .bl _ => true
  | _ => false
def isBlD : D → Bool
  | .bl _ => true
  | _ => false
def isTupD : D → Bool
  | .tup _ => true
  | _ => false
theorem is_str {T : T3} (x : D) : (["str"].any fun t => isB t (tyN T x)) = isStrD x := by
  cases x with
  | ref p => show ([_].any fun t => isB t (match T p with
      | some (.lst _) => "list"
      | some (.rol _) => "list"
      | some (.dct _) => "dict"
      | _ => "")) = _; cases T p with
    | none => rfl
    | some o => cases o <;> rfl
  | _ => rfl
theorem is_int {T : T3} (x : D) : (["int"].any fun t => isB t (tyN T x)) = isIntD x := by
  cases x with
  | ref p => show ([_].any fun t => isB t (match T p with
      | some (.lst _) => "list"
      | some (.rol _) => "list"
      | some (.dct _) => "dict"
      | _ => "")) = _; cases T p with
    | none => rfl
    | some o => cases o <;> rfl
  | _ => rfl
theorem is_bool {T : T3} (x : D) : (["bool"].any fun t => isB t (tyN T x)) = isBlD x := by
  cases x with
  | ref p => show ([_].any fun t => isB t (match T p with
      | some (.lst _) => "list"
      | some (.rol _) => "list"
      | some (.dct _) => "dict"
      | _ => "")) = _; cases T p with
    | none => rfl
    | some o => cases o <;> rfl
  | _ => rfl
theorem is_tup {T : T3} (x : D) : (["tuple"].any fun t => isB t (tyN T x)) = isTupD x := by
  cases x with
  | ref p => show ([_].any fun t => isB t (match T p with
      | some (.lst _) => "list"
      | some (.rol _) => "list"
      | some (.dct _) => "dict"
      | _ => "")) = _; cases T p with
    | none => rfl
    | some o => cases o <;> rfl
  | _ => rfl
theorem is_seq {T : T3} (x : D) : (["list", "tuple"].any fun t => isB t (tyN T x)) = (seqOf T x).isSome := by
  cases x with
  | ref p =>
    show (["list", "tuple"].any fun t => isB t (match T p with
      | some (.lst _) => "list"
      | some (.rol _) => "list"
      | some (.dct _) => "dict"
      | _ => "")) = (match T p with
      | some (.lst xs) => some xs
      | some (.rol xs) => some xs
      | _ => none).isSome
    cases T p with
    | none => rfl
    | some o => cases o <;> rfl
  | _ => rfl
/-! ### comprehensions whose elements change nothing -/
theorem comp3_pure {α : Type} (i : α → D) (f : α → D) (keep : α → Bool) {g : TG3} {tt : Rd3 Bool} {te : TE3} {σ : St3} {G : T3 → Prop} {p : Addr} {R : D → T3 → Prop} {T : T3} {xs : List D} {ys : List α} (e : xs = ys.map i) (hz : ys.length ≤ sizeLine) (hG : ∀ acc, G (updT T p (.lst acc)))
    (hx : ∀ y ∈ ys, ∀ acc (A : D → T3 → Prop) (B : T3 → Prop), (keep y = true → A (f y) (updT T p (.lst acc))) → (keep y = false → B (updT T p (.lst acc))) →
      g noE (i y) σ (updT T p (.lst acc)) fun σ2 T2 => tt noE σ2 T2 fun b T3 => Br b (te noE σ2 T3 A) (B T3))
    (k : R (.ref p) (updT T p (.lst ((ys.filter keep).map f)))) : comp3 g tt te σ G p R xs (updT T p (.lst [])) := by
  subst e
  have key : ∀ (zs : List α) acc, (∀ y ∈ zs, y ∈ ys) → acc.length + zs.length ≤ sizeLine → R (.ref p) (updT T p (.lst (acc ++ (zs.filter keep).map f))) → comp3 g tt te σ G p R (zs.map i) (updT T p (.lst acc)) := by
    intro zs
    induction zs with
    | nil => intro acc _ _ k; exact comp3_nil (hG _) (by simpa using k)
    | cons y zs ih =>
      intro acc hm hl k
      rw [List.length_cons] at hl
      refine comp3_cons (hG _) (hx y (hm y (List.mem_cons_self ..)) acc _ _ (fun e => ?_) fun e => ?_)
      · refine ⟨acc, updT_same, by omega, ?_⟩
        rw [updT_upd]
        refine ih _ (fun z hz => hm z (List.mem_cons_of_mem _ hz)) (by rw [List.length_append, List.length_singleton]; omega) ?_
        rw [List.filter_cons, if_pos e] at k
        simpa using k
      · refine ih _ (fun z hz => hm z (List.mem_cons_of_mem _ hz)) (by omega) ?_
        rw [List.filter_cons, if_neg (by rw [e]; decide)] at k
        exact k
  exact key ys [] (fun _ h => h) (by simpa using hz) (by simpa using k)
theorem filter_all {α : Type} (ys : List α) : ys.filter (fun _ => true) = ys := List.filter_eq_self.mpr fun _ _ => rfl
theorem itemsOf_upd {T : T3} {p : Addr} {xs : List D} : itemsOf (updT T p (.lst xs)) p = some xs := by
  unfold itemsOf; rw [updT_same]
/-! ### sequences: a tuple, a list -/
theorem seqOf_ext {T T' : T3} (x : Ext T T') : ∀ {d : D} {xs : List D}, seqOf T d = some xs → seqOf T' d = some xs
  | .tup _, _, h => h
  | .ref _, _, h => itemsOf_ext x h
  | .non, _, h => by cases h
  | .bl _, _, h => by cases h
  | .int _, _, h => by cases h
  | .str _, _, h => by cases h
  | .ob _ _, _, h => by cases h
  | .exc _ _ _ _, _, h => by cases h
  | .lam _ _ _ _ _, _, h => by cases h
theorem CB.len {T : T3} {a : D} {xs : List D} {R : D → T3 → Prop} (h : seqOf T a = some xs) (k : R (.int xs.length) T) : CB lenR [a] T R := ⟨by
  cases a with
  | tup ds => cases h; exact k
  | ref p => exact ⟨xs, h, k⟩
  | _ => cases h⟩
theorem CB.lenS {T : T3} {z : Str} {R : D → T3 → Prop} (h : z.length ≤ sizeLine) (k : R (.int z.length) T) : CB lenR [.str z] T R := ⟨⟨h, k⟩⟩
theorem CB.all {T : T3} {p : Addr} {bs : List Bool} {R : D → T3 → Prop} (h : itemsOf T p = some (bs.map .bl)) (k : R (.bl (bs.all id)) T) : CB (allR true) [.ref p] T R := ⟨⟨bs, h, k⟩⟩
theorem CB.any {T : T3} {p : Addr} {bs : List Bool} {R : D → T3 → Prop} (h : itemsOf T p = some (bs.map .bl)) (k : R (.bl (bs.any id)) T) : CB (allR false) [.ref p] T R := ⟨⟨bs, h, k⟩⟩
theorem CB.sum {T : T3} {p : Addr} {ns : List Int} {R : D → T3 → Prop} (h : itemsOf T p = some (ns.map .int)) (k : R (.int ns.sum) T) : CB sumR [.ref p] T R := ⟨⟨ns, h, k⟩⟩
theorem CB.tuple {T : T3} {a : D} {xs : List D} {R : D → T3 → Prop} (h : seqOf T a = some xs) (k : R (.tup xs) T) : CB tupleR [a] T R := ⟨by
  cases a with
  | tup ds => cases h; exact k
  | ref p => exact ⟨xs, h, k⟩
  | _ => cases h⟩
theorem it_seq {te : TE3} {E : EX3} {σ : St3} {T : T3} {R : List D → (T3 → Prop) → T3 → Prop} {a : D} {xs : List D} (hte : ∀ R' : D → T3 → Prop, R' a T → te E σ T R') (h : seqOf T a = some xs) (k : ∀ G : T3 → Prop, (∀ T', seqOf T' a = some xs → G T') → R xs G T) :
    i3Tup te E σ T R ∨ i3Lst te E σ T R := by
  cases a with
  | tup ds => cases h; exact .inl (hte _ (k _ fun _ _ => trivial))
  | ref p => exact .inr (hte _ ⟨xs, h, k _ fun _ e => e⟩)
  | _ => cases h
theorem Typed.notStr {K : PySem.W.Frag} {T : T3} {d : D} (_ : Typed K T d) : True := trivial
end L3
namespace L3
open PySem PySem.Spec PySem.W PySem.Calls PyProof.Rows
open Builtin.ObjectAttr
/-! ### an own exception: class E(B): def __init__(self, p): super().__init__(p); self.f = p -/
def exBody (p f : Str) (q0 q1 q2 q3 q4 q5 q6 q7 q8 q9 : Pos) : List Stmt := [.Expr (.Call (.Attribute (.Call (.Name "super" q0) [] [] q1) "__init__" q2) [.Name p q3] [] q4) q5, .Assign [.Attribute (.Name "self" q6) f q7] (.Name p q8) q9]
structure ExTxt (P : Program) (K : Frag) (mg : Str → Option Value) (x p f : Str) (C fI : Addr) (B newId initId : String) (bmB : List Value) : Prop where
  gC : mg x = some (.ref C)
  base : excInitIn K C bmB newId = true
  cd : ∃ cd, clsIn K C = some cd ∧ cd.mro = .ref C :: bmB ∧ cd.hasDict = true
  sa : findIn K (.ref C) "__setattr__" = some (some (.builtin "object.__setattr__"))
  ga : findIn K (.ref C) "__getattribute__" = some (some (.builtin "BaseException.__getattribute__"))
  gg : findIn K (.ref C) "__getattr__" = some none
  noF : findIn K (.ref C) f = some none
  iC : findIn K (.ref C) "__init__" = some (some (.ref fI))
  tI : typeIn K (.ref fI) = some (.type "function")
  kC : keepIn K (.ref C) = true
  exC : subIn K (.ref C) (.type "BaseException") = some true
  tyC : typeIn K (.ref C) = some (.type "type")
  hdC : hasDictIn K C = true
  subB : subIn K (.ref C) (.type B) = some true
  subC : mroIn K C (.ref C) = some true
  sup : ks_superIn K C C "__init__" = some (some (.builtin initId))
  noS : mg "super" = none
  opq : nsIn K cStatics "thirdparty.any" = some none
  top : (P.main.scope.names.lookup ("super" : Str)).isSome = false
  isCls : findIn K (.ref C) "__class__" = some (some (.builtin "object.__class__"))
  isGet : specialIn K (.builtin "object.__class__") "__get__" = some (some (.builtin "getset_descriptor.__get__"))
  isTk : takesIn K (.builtin "object.__class__") = some true
  isMro : mroIn K C (.type "object") = some true
  fn : ∃ (oc : Value) (od : Option Addr) (qual : Str) (params : Arguments) (scope : Scope) (doc pm : Value) (an : Option Addr) (cda cc : Addr) (ct : Value) (osl : Array (Option Value)) (q0 q1 q2 q3 q4 q5 q6 q7 q8 q9 : Pos),
    K.lookup fI = some ⟨oc, od, .func (ksFn "__init__" qual params (exBody p f q0 q1 q2 q3 q4 q5 q6 q7 q8 q9) scope .none .none doc pm an (.ref cda) ct cc), osl⟩ ∧ codeIn K (.ref cda) qual = true ∧
    (∃ (cl : Value) (cld : Option Addr) (csl : Array (Option Value)), K.lookup cc = some ⟨cl, cld, .cell (some (.ref C)), csl⟩) ∧
    (∃ (ccl : Value) (cdd : Option Addr) (vs : Array Value) (ccs : Array (Option Value)) (file : Str) (tf : Tok), K.lookup cda = some ⟨ccl, cdd, .fields vs, ccs⟩ ∧ vs[2]? = some (.str file tf) ∧ ((P.main.file : Str) == file) = true) ∧
    (∃ ar, (params.posonlyargs ++ params.args).head? = some ar ∧ ar.arg = "self") ∧ (q2.endLine == q4.line) = true ∧
    (∀ (s : Shared) (u v : Value), BindsTo s (ksFn "__init__" qual params (exBody p f q0 q1 q2 q3 q4 q5 q6 q7 q8 q9) scope .none .none doc pm an (.ref cda) ct cc) ⟨[u, v], []⟩ [("self", u), (p, v)]) ∧
    (scope.names.lookup ("super" : Str) = some .globalImplicit ∧ scope.names.lookup ("__class__" : Str) = some .free ∧ scope.names.lookup ("self" : Str) = some .local ∧ scope.names.lookup p = some .local ∧ (∀ x ∈ scope.names, x.2 ≠ .cell) ∧ scope.isCoroutine = false ∧ scope.isGenerator = false ∧ scope.kind = .function)
  pne : (p == ("self" : Str)) = false
  pdb : (p == ("__debug__" : Str)) = false
abbrev excO (C t : Addr) : Obj := { cls := .ref C, data := .fields #[.ref t, .none, .none, .none, .bool false, .none] }
/-! ### self.f = v on an exception that has no dict yet -/
section
variable {prog : Program} {w : World} {A : Around} {E : Value → Shared → Prop} {R : Result → Shared → Prop} {hp : Heap} {g : Array GenState} {d : Drawn} {t : Nat} {os : OsState} {B : String} {bmB : List Value}
theorem osa_new {K : W.Frag} {name : Str} {tk : Tok} {v : Value} {x C : Addr} {fv : Array Value} {cd : ClassData} (SF : StoreFacts B bmB "object.__setattr__" "object")
    (X : K.In hp) (hx : hp.get? x = some { cls := .ref C, data := .fields fv }) (hcd : W.clsIn K C = some cd) (hm : cd.mro = .ref C :: bmB) (hh : cd.hasDict = true) (ha : W.findIn K (.ref C) name = some none) (ho : mroIn K C (.type "object") = some true)
    (hq : ∀ h' tk' dx, (∀ b o, b ≠ x → hp.get? b = some o → h'.get? b = some o) → hp.objs.size ≤ dx → dx ≠ x → h'.get? x = some { cls := .ref C, dict := some dx, data := .fields fv } →
      h'.Ns1 dx (fun y => if y = name then some v else none) → R (.ok (.ret .none)) ⟨h', g, d, tk', os⟩) :
    codeAny (model prog w) A (.call (.builtin "object.__setattr__") ⟨[.ref x, .str name tk, v], []⟩) R ⟨hp, g, d, t, os⟩ := by
  have I : W.InstAt hp x { cls := .ref C, data := .fields fv } C none := ⟨hx, rfl, rfl, trivial⟩
  have hxs : x ≠ hp.objs.size := Nat.ne_of_lt (Heap.lt_size hx)
  have SO := F.store_object
  have sub : W.Looks (model prog w) hp (isInstance (.ref x) (.type "object")) true := I.type.andThen (W.looks_mroIn X ho)
  refine codeAny_call_builtin SO.slot.plain SO.entry (@W.check_slot (model prog w) _ _ ⟨hp, g, d, t, os⟩ "object.__setattr__" "object" "__setattr__" (.ref x) [.str name tk, v] [] _ SO.kind SO.split sub (SO.args (.ref x) (.str name tk) v) ?_)
  have hmr : W.Looks (model prog w) hp (mroOf (.ref C)) cd.mro := (W.looks_clsIn X hcd).andThen .now
  have L3 : W.Looks (model prog w) hp (storeTaker? none) none := .now
  have hcls : W.Looks (model prog w) hp (classData C) cd := W.looks_clsIn X hcd
  have hpass : refuseLoop (.ref x) "__setattr__" cd.mro = pure () := by
    rw [hm, refuseLoop_ref]
    exact SF.passes _
  rw [W.osa_eq, refuse_eq]
  refine wpAny_bind (wpAny_bind (I.type.at (wpAny_bind (hmr.at ?_))))
  rw [hpass]
  refine wpAny_pure (wpAny_bind (I.type.at (wpAny_bind ((W.looks_findIn X ha).at (wpAny_bind (L3.at ?_))))))
  show wpAny _ _ (storeInOwnDict (.ref x) (.ref C) (.str name tk) name v false) _ _ _
  obtain ⟨nm, bs, mro, ns, qn, hd, sn, sb, ab, col, del⟩ := cd
  dsimp only at hh
  subst hh
  unfold storeInOwnDict ownDictForStores
  repeat (first | with_reducible refine HandSPX.store_in_new ?_ ?_ | with_reducible refine wpAny_loadPart_at hx ?_ | with_reducible refine hcls.at ?_ | wp_step)
  · exact ⟨_, #[], _, (Heap.get?_update_ne _ _ _ _ hxs.symm).trans (Heap.get?_push_at rfl rfl), rfl, fun e he => absurd he (by simp), fun _ => rfl⟩
  · intro h' tk' hn' hs
    have hx₁ : (hp.push { cls := .type "dict", data := .dict #[] }).get? x = some { cls := .ref C, data := .fields fv } := Heap.get?_push_of_some _ hx
    refine hq h' tk' hp.objs.size (fun b o hb ho => ?_) (Nat.le_refl _) hxs.symm ?_ hn'
    · exact (hs.2 b (Nat.ne_of_lt (Heap.lt_size ho))).trans ((Heap.get?_update_ne _ _ _ _ hb).trans (Heap.get?_push_of_some _ ho))
    · exact (hs.2 x hxs).trans (Heap.get?_update_self _ hx₁ rfl)
/-- B.__init__ bound to an instance, called -/
theorem call_mw {nm q : Str} {N C : Addr} {bs bm : List Value} {hdct : Bool} {sn : List Str} {sub : List Value} {ab : Bool} {col : Option Bool} {dd : Option Addr} {k0 k1 k2 k3 k5 : Option Value} {newId initId : String} {u e t0 : Addr} {rest : List Value} {Q : Value → Shared → Prop} (FB : ExcBaseFacts B newId initId bmB)
    (hC : hp.get? C = some (excClassObj nm q C N bs bm hdct sn sub ab col dd k0 k1 k2 k3 k5 newId)) (he : hp.get? e = some (excO C t0)) (hu : hp.get? u = some (kxs_mw initId e)) (hrest : rest.length ≤ sizeLine)
    (hq : ∀ h' t1, (∀ b o, b ≠ e → hp.get? b = some o → h'.get? b = some o) → h'.get? e = some (excO C t1) → Q .none ⟨h', g, d, t, os⟩) :
    wpAny (model prog w) A (call (.ref u) rest) Q E ⟨hp, g, d, t, os⟩ := by
  refine wpAny_call (codeAny_of_tree ?_)
  show wpAny _ A.in1 (callAny (.ref u) ⟨rest, []⟩) _ _ _
  simp only [callAny]
  refine wpAny_bind (wpAny_load hu ?_)
  simp only [kxs_mw, show (Value.type "method-wrapper" == Value.type "method" || Value.type "method-wrapper" == Value.type "builtin_function_or_method" || Value.type "method-wrapper" == Value.type "method-wrapper") = true by decide, if_true]
  refine KFB.if_so (by decide) ?_
  refine wpAny_bind (check_bound_init FB.toExcCallFacts hC he rfl ?_)
  refine wpAny_bind (wpAny_pure (wpAny_pure ?_))
  refine ⟨plainId_quiet FB.init.plain _, codeAny_builtin FB.initEntry ?_⟩
  exact exc_init_tree (cls := .ref C) (t0 := t0) (dv := none) (c2 := .none) (c3 := .none) (b4 := .bool false) he hrest fun h' k e' _ => hq h' _ k e'
end
/-! ### __init__ -/
structure ExEnd (h h' : Heap) (x C dx t1 : Addr) (f : Str) (v : Value) : Prop where
  keep : ∀ b o, b ≠ x → h.get? b = some o → h'.get? b = some o
  obj : h'.get? x = some { cls := .ref C, dict := some dx, data := .fields #[.ref t1, .none, .none, .none, .bool false, .none] }
  dbig : h.objs.size ≤ dx
  dne : dx ≠ x
  ns : h'.Ns1 dx (fun y => if y = f then some v else none)
theorem kin_but {K : Frag} {h h' : Heap} {x : Addr} (X : K.In h) (hx : K.lookup x = none) (k : ∀ b o, b ≠ x → h.get? b = some o → h'.get? b = some o) : K.In h' := fun a o e =>
  k a o (fun z => by rw [z, hx] at e; cases e) (X a o e)
section
variable {prog : Program} {w : World} {A : Around} {R : Result → Shared → Prop} {s : Shared} {K : Frag} {mg : Str → Option Value} {x p f : Str} {C fI : Addr} {B newId initId : String} {bmB : List Value}
theorem ex_init (T : ExTxt prog K mg x p f C fI B newId initId bmB) (FB : ExcBaseFacts B newId initId bmB) (KF : KxsFacts B initId) (SF : StoreFacts B bmB "object.__setattr__" "object") {e t0 : Addr} {v : Value} (X : K.In s.heap) (hlim : s.heap.NoLimit)
    (G : s.heap.Ns mainGlobals mg) (Bn : ∃ mb, s.heap.Ns builtinsNs mb ∧ mb "super" = some (.type "super")) (hx : s.heap.get? e = some (excO C t0)) (hnx : K.lookup e = none) (hroom : A.depth < recursionLimit)
    (hq : ∀ h' tk dx t1, ExEnd s.heap h' e C dx t1 f v → R (.ok (.ret .none)) { s with heap := h', toks := tk }) :
    codeAny (model prog w) A (.call (.ref fI) ⟨[.ref e, v], []⟩) R s := by
  obtain ⟨oc, od, qual, params, scope, doc, pm, an, cda, cc, ct, osl, q0, q1, q2, q3, q4, q5, q6, q7, q8, q9, ho, hcd, ⟨cl, cld, csl, hcell⟩, ⟨ccl, cdd, vs, ccs, file, tf, hcode, hvs, hfile⟩, ⟨ar, hp, har⟩, hln, hbind, ⟨ks1, ks2, ks3, ks4, ks5, ks6, ks7, ks8⟩⟩ := T.fn
  obtain ⟨mb, Bm, hbs⟩ := Bn
  obtain ⟨cdC, hcd1, hcd2, hcd3⟩ := T.cd
  refine ks_codeAny_call_defAt (fd := ksFn "__init__" qual params (exBody p f q0 q1 q2 q3 q4 q5 q6 q7 q8 q9) scope .none .none doc pm an (.ref cda) ct cc) (body := exBody p f q0 q1 q2 q3 q4 q5 q6 q7 q8 q9) (binds := [("self", .ref e), (p, v)]) hroom (X _ _ ho) rfl hlim (codeRec_of X hcd) rfl (hbind _ _ _) ks5
    (fun y hy => by
      rcases List.mem_cons.mp hy with rfl | hy
      · exact ks3
      · rcases List.mem_cons.mp hy with rfl | hy
        · exact ks4
        · cases hy) (fun h₁ hns hk => ?_) ks6 ks7 ks8
  have X₁ : K.In h₁ := X.keeps hk
  have G₁ := G.keeps hk
  have B₁ := Bm.keeps hk
  have hx₁ := hk _ _ hx
  have hself : (fun y => ([("self", .ref e), (p, v)] : List (Str × Value)).reverse.lookup y) "self" = some (.ref e) := by
    show List.lookup ("self" : Str) [(p, v), (("self" : Str), Value.ref e)] = _
    have q : (("self" : Str) == p) = false := by
      have := T.pne
      rw [beq_eq_false_iff_ne] at this ⊢
      exact fun z => this z.symm
    rw [List.lookup_cons, q]
    rfl
  have hpv : (fun y => ([("self", .ref e), (p, v)] : List (Str × Value)).reverse.lookup y) p = some v := by
    show List.lookup p [(p, v), (("self" : Str), Value.ref e)] = _
    rw [List.lookup_cons, beq_self_eq_true]
  have hL : e ≠ s.heap.objs.size := Nat.ne_of_lt (Heap.lt_size hx)
  obtain ⟨oD, hD1, hD2⟩ : ∃ oD, h₁.get? C = some oD ∧ oD.data = .cls cdC := by
    unfold clsIn at hcd1
    split at hcd1
    · rename_i c d cd' sl ho'
      cases hcd1
      exact ⟨_, X₁ _ _ ho', rfl⟩
    · cases hcd1
  have hI : Looks (model prog w) h₁ (typeOf (.ref e)) (.ref C) := (W.InstAt.type (od := none) ⟨hx₁, rfl, rfl, trivial⟩)
  show _root_.PySem.wpAt (model prog w) (A.deeper (ksEnv qual scope s.heap.objs.size fI (.ref cda) cc)) (.func (exBody p f q0 q1 q2 q3 q4 q5 q6 q7 q8 q9) (ksEnv qual scope s.heap.objs.size fI (.ref cda) cc)) (execs (exBody p f q0 q1 q2 q3 q4 q5 q6 q7 q8 q9) (ksEnv qual scope s.heap.objs.size fI (.ref cda) cc)) _ _ _
  have hin : interactive (ksEnv qual scope s.heap.objs.size fI (.ref cda) cc) = false := by
    unfold interactive
    first
      | rfl
      | (show (_ : Bool) = false; simp [ks8])
  have hev : eval (.Call (.Attribute (.Call (.Name "super" q0) [] [] q1) "__init__" q2) [.Name p q3] [] q4) (ksEnv qual scope s.heap.objs.size fI (.ref cda) cc) = (do
      let ov ← attributeBase (.Call (.Name "super" q0) [] [] q1) "__init__" (ksEnv qual scope s.heap.objs.size fI (.ref cda) cc) (eval (.Call (.Name "super" q0) [] [] q1) (ksEnv qual scope s.heap.objs.size fI (.ref cda) cc))
      standAt q2.atName
      let (f, first) ← holding [ov] (getMethod ov "__init__" (do return (← importBound (.Call (.Name "super" q0) [] [] q1) (ksEnv qual scope s.heap.objs.size fI (.ref cda) cc)).getD true))
      callWith q4 f first (backTo q4 (starEach [.Name p q3] (ksEnv qual scope s.heap.objs.size fI (.ref cda) cc))) []) := by
    have e1 : eval (.Call (.Attribute (.Call (.Name "super" q0) [] [] q1) "__init__" q2) [.Name p q3] [] q4) (ksEnv qual scope s.heap.objs.size fI (.ref cda) cc) = (do
      let ov ← attributeBase (.Call (.Name "super" q0) [] [] q1) "__init__" (ksEnv qual scope s.heap.objs.size fI (.ref cda) cc) (eval (.Call (.Name "super" q0) [] [] q1) (ksEnv qual scope s.heap.objs.size fI (.ref cda) cc))
      standAt q2.atName
      methodCall (.Call (.Name "super" q0) [] [] q1) "__init__" q2 q4 (ksEnv qual scope s.heap.objs.size fI (.ref cda) cc) ov 1 (backTo q4 (starEach [.Name p q3] (ksEnv qual scope s.heap.objs.size fI (.ref cda) cc))) []) := by rfl
    rw [e1]
    congr 1
    funext ov
    congr 1
    funext _
    exact L2.mcall_line (by rfl) hln
  refine ks_wpAt_execs_cons (ks_wpAt_Expr_any (ks_wpAt_MethodCall ?_ hev) hin (by rfl))
  have hkS : (ksEnv qual scope s.heap.objs.size fI (.ref cda) cc).kindOf "super" = some .globalImplicit := ks1
  have hkC : (ksEnv qual scope s.heap.objs.size fI (.ref cda) cc).kindOf "__class__" = some .free := ks2
  refine ks_wpAt_super_base (env := ksEnv qual scope s.heap.objs.size fI (.ref cda) cc) hkS hkC (by decide) rfl (X₁ _ _ ho) rfl hp rfl (X₁ _ _ hcode) rfl hvs hfile T.top ?_
  refine ks_loadName_global ks8 hkS (loadGlobal_builtin (env := ksEnv qual scope s.heap.objs.size fI (.ref cda) cc) G₁ T.noS B₁ hbs ⟨rfl, ?_⟩)
  refine wpAny_loadName_free ks8 hkC rfl ⟨_, X₁ _ _ hcell, rfl⟩ ?_
  rw [har]
  refine wpAny_loadName_local ks8 ks3 hns hself ?_
  refine ks_wpAny_isType_cls hD1 hD2 ⟨rfl, ?_⟩
  refine ks_wpAny_call_super hD1 hD2 hx₁ rfl (fun c z => by cases z) (looks_mroIn X₁ T.subC) (fun h2 e2 k2 => ?_)
  have X₂ : K.In h2 := X₁.keeps k2
  have hx₂ := k2 _ _ hx₁
  have hnC : e ≠ C := fun z => by
    unfold clsIn at hcd1
    rw [← z, hnx] at hcd1
    cases hcd1
  have hf : alongIn K "__init__" ((cdC.mro.dropWhile (· != .ref C)).drop 1) = some (some (.builtin initId)) := by
    have := T.sup
    unfold ks_superIn at this
    rw [hcd1] at this
    exact this
  have hI₂ : Looks (model prog w) h2 (isInstance (.ref e) (.type B)) true := (W.InstAt.type (od := none) ⟨hx₂, rfl, rfl, trivial⟩).andThen (looks_subIn X₂ T.subB)
  refine kxs_getMethod KF e2 (looks_opaque X₂ T.opq) (l₀ := cdC.mro) (fun A Q E s k q => wpAny_bind ((looks_clsIn X₂ hcd1) A _ E s k (wpAny_pure q))) rfl X₂ hf hI₂ hnC (by decide) ?_
  have k3 : ∀ b o, h2.get? b = some o → (h2.push (kxs_mw initId e)).get? b = some o := fun b o z => Heap.get?_push_of_some _ z
  have hu : (h2.push (kxs_mw initId e)).get? h2.objs.size = some (kxs_mw initId e) := Heap.get?_push_size _ rfl
  have hs4 : starEach [Expr.Name p q3] (ksEnv qual scope s.heap.objs.size fI (.ref cda) cc) = (false, eval (.Name p q3) (ksEnv qual scope s.heap.objs.size fI (.ref cda) cc)) :: starEach [] (ksEnv qual scope s.heap.objs.size fI (.ref cda) cc) := by rfl
  dsimp only
  rw [hs4]
  refine kxs_callWith (i := initId) (x := e) (by rfl) (evalArgs_plain (Calls.spliced_cons (wpAny_Name (wpAny_loadName_local ks8 ks4 ((hns.keeps k2).keeps k3) hpv (Calls.spliced_nil ⟨hu, ?_⟩)) T.pdb)))
  obtain ⟨nm, N', qn, bs, bm, hdct, sn, sub, ab, col, dd, c0, c1, c2, c3, c5, hC, hT⟩ := excInit_of ((X₂.keeps k3)) T.base
  refine call_mw FB hC (k3 _ _ hx₂) hu (by rw [sizeLine_eq]; exact (by decide : 1 ≤ 16777216)) fun h4 t1 k4 hx₄ => ?_
  have kk : ∀ b o, b ≠ e → h₁.get? b = some o → h4.get? b = some o := fun b o hb z => k4 b o hb (k3 _ _ (k2 _ _ z))
  have X₄ : K.In h4 := kin_but X₁ hnx kk
  have ns4 : h4.Ns s.heap.objs.size (fun x => List.lookup x [(("self" : Str), Value.ref e), (p, v)].reverse) := by
    obtain ⟨oL, es, ep, hLo, r⟩ := hns
    exact ⟨oL, es, ep, kk _ _ (fun z => hL z.symm) hLo, r⟩
  have sz4 : s.heap.objs.size ≤ h4.objs.size := by
    obtain ⟨oL, es, ep, hLo, r⟩ := ns4
    exact Nat.le_of_lt (Heap.lt_size hLo)
  refine ks_wpAt_execs_cons (ks_wpAt_Assign_Attr (wpAt_of_wpAny (wpAny_Name (wpAny_loadName_local ks8 ks4 ns4 hpv ?_) T.pdb)) (by rfl))
  refine wpAny_Name (wpAny_loadName_local ks8 ks3 ns4 hself ?_) (by decide)
  refine set_plain (od := none) X₄ ⟨hx₄, rfl, rfl, trivial⟩ T.sa ?_
  refine osa_new SF X₄ hx₄ hcd1 hcd2 hcd3 T.noF T.isMro fun h5 tk5 dx k5 d1 d2 hx5 n5 => ?_
  refine wpAt_of_wpAny (wpAny_execs_nil ?_)
  refine hq h5 tk5 dx t1 ⟨fun b o hb z => k5 _ _ hb (kk _ _ hb (hk _ _ z)), hx5, Nat.le_trans sz4 d1, d2, n5⟩
/-- a made E -/
structure ExMade (h h' : Heap) (e C d : Addr) (f : Str) (v : Value) : Prop where
  keep : ∀ b o, h.get? b = some o → h'.get? b = some o
  new : h.objs.size ≤ e
  obj : ∃ oe vs, h'.get? e = some oe ∧ oe.cls = .ref C ∧ oe.dict = some d ∧ oe.data = .fields vs ∧ vs[1]? = some .none
  dbig : h.objs.size ≤ d
  dne : d ≠ e
  ns : h'.Ns1 d (fun y => if y = f then some v else none)
theorem ex_made (T : ExTxt prog K mg x p f C fI B newId initId bmB) (FB : ExcBaseFacts B newId initId bmB) (KF : KxsFacts B initId) (SF : StoreFacts B bmB "object.__setattr__" "object") {v : Value} (X : K.In s.heap) (hlim : s.heap.NoLimit)
    (G : s.heap.Ns mainGlobals mg) (Bn : ∃ mb, s.heap.Ns builtinsNs mb ∧ mb "super" = some (.type "super")) (hroom : A.depth + 1 < recursionLimit)
    (hq : ∀ h' tk e d, ExMade s.heap h' e C d f v → R (.ok (.ret (.ref e))) { s with heap := h', toks := tk }) :
    codeAny (model prog w) A (.call (.ref C) ⟨[v], []⟩) R s := by
  obtain ⟨nm, N', qn, bs, bm, hdct, sn, sub, ab, col, dd, c0, c1, c2, c3, c5, hC, hT⟩ := excInit_of X T.base
  obtain ⟨mb, Bm, hbs⟩ := Bn
  obtain ⟨hp, g, dr, tk, os⟩ := s
  have k : ∀ b o, hp.get? b = some o → ((hp.push (kdv_tup [v])).push (excO C hp.objs.size)).get? b = some o := fun b o e => Heap.get?_push_of_some _ (Heap.get?_push_of_some _ e)
  have hget : ((hp.push (kdv_tup [v])).push (excO C hp.objs.size)).get? (hp.objs.size + 1) = some (excO C hp.objs.size) := by heap_get
  have hnx : K.lookup (hp.objs.size + 1) = none := by
    cases e : K.lookup (hp.objs.size + 1) with
    | none => rfl
    | some o =>
      have z : hp.get? (hp.objs.size + 1) = some o := X _ _ e
      exact absurd (Nat.lt_of_succ_lt (Heap.lt_size z)) (Nat.lt_irrefl _)
  refine HandSPX.call_own FB hT hC (looks_findIn X T.iC) (fun self => bind_fn X self T.tI) (by rw [sizeLine_eq]; exact (by decide : 1 ≤ 16777216)) ?_
  refine ex_init (s := ⟨(hp.push (kdv_tup [v])).push (excO C hp.objs.size), g, dr, tk, os⟩) T FB KF SF (X.keeps k) (hlim.keeps k) (G.keeps k) ⟨mb, Bm.keeps k, hbs⟩ hget hnx ?_ fun h' tk' dx t1 ⟨k', hx, dn, dne, hns⟩ => ?_
  · show A.depth + 1 < recursionLimit
    exact hroom
  · have old : ∀ b o, hp.get? b = some o → h'.get? b = some o := fun b o e => k' b o (Nat.ne_of_lt (Nat.lt_succ_of_lt (Heap.lt_size e))) (k b o e)
    have z : hp.objs.size + 1 + 1 ≤ dx := by
      have q : ((hp.push (kdv_tup [v])).push (excO C hp.objs.size)).objs.size ≤ dx := dn
      rw [Heap.size_push, Heap.size_push] at q
      exact q
    exact ⟨rfl, hq h' tk' (hp.objs.size + 1) dx ⟨old, Nat.le_succ _, ⟨_, _, hx, rfl, rfl, rfl, rfl⟩, Nat.le_trans (Nat.le_trans (Nat.le_succ _) (Nat.le_succ _)) z, dne, hns⟩⟩
end
/-! ### the layer below: raise E(a) -/
open L2 hiding St
theorem relO_one {f : Str} {v : V} {v' : Value} (r : L2.RelV v v') (y : Str) : RelO (List.lookup y [(f, v)]) (if y = f then some v' else none) := by
  by_cases hw : y = f
  · subst hw
    rw [if_pos rfl, List.lookup_cons, beq_self_eq_true]
    exact r
  · rw [if_neg hw, List.lookup_cons, beq_eq_false_iff_ne.mpr hw]
    trivial
section
variable {X : Cx} {x p f : Str} {C fI : Addr} {B newId initId : String} {bmB : List Value}
def tMkEx (f : Str) (C : Addr) (ta : TA) : L2.St → Hp → XK → Prop := fun σ H Q => ta σ H fun vs H1 => ∃ v, vs = [v] ∧ ∀ d, H1 d = none → Q (.ref C) (some d) (upd H1 d (.xd [(f, v)]))
theorem pmk_ex {a : Expr} {ta : TA} {pp pos : Pos} {k : Nat} (T : ExTxt X.prog X.K X.mg x p f C fI B newId initId bmB) (FB : ExcBaseFacts B newId initId bmB) (KF : KxsFacts B initId) (SF : StoreFacts B bmB "object.__setattr__" "object") (hr : Room k X.A) (ha : PA X [a] ta) (hg : Gl X x)
    (hdb : (x == ("__debug__" : Str)) = false := by decide) (he : starEach (a :: []) X.env = (false, eval a X.env) :: starEach [] X.env := by rfl) (hpl : (backTo pos (starEach [] X.env)).any (·.1) = false := by rfl) :
    PMk X (.Call (.Name x pp) [a] [] pos) (tMkEx f C ta) := by
  intro pins s σ H Q I h
  refine wpAny_Call_Name_kw (ld_glob I hg T.gC ?_ hdb)
  refine PySem.W.callWith_K (h₀ := X.base) I.ok.mod.kin T.kC (thn (ha.run pos pins s σ H _ I h) fun us s1 hh => ?_) he hpl
  obtain ⟨vs, H1, I1, r1, v, ev, q1⟩ := hh
  subst ev
  refine ⟨I1.kIn, ?_⟩
  cases r1 with
  | cons rv rn =>
    rename_i v' us'
    cases rn
    show wpAny _ _ (call (.ref C) [v']) _ _ _
    have hlim := I1.nolimit
    have G := I1.mod.glob.keeps I1.bk
    obtain ⟨mb, b1, b2⟩ := I1.mod.blt
    have Bn : ∃ mb, s1.heap.Ns builtinsNs mb ∧ mb "super" = some (.type "super") := ⟨mb, b1.keeps I1.bk, (b2 _ (by decide)).trans (by first | exact boot_super | decide +kernel)⟩
    obtain ⟨hp, g, d, t, os⟩ := s1
    refine wpAny_call (ex_made T FB KF SF I1.kIn hlim G Bn (by have := hr.dp; omega) fun h' tk' e d M => ?_)
    show MkP X pins σ Q (.ref e) ⟨h', g, _, tk', os⟩
    obtain ⟨oe, fv, hoe, hc, hd, hdat, h1⟩ := M.obj
    have hns := M.ns
    obtain ⟨G', g1, g2⟩ := restrict h' fun b => decide (b ≠ e)
    have gk : ∀ b, b ≠ e → G'.get? b = h'.get? b := fun b hb => g1 b (decide_eq_true hb)
    have ge : G'.get? e = none := g2 e (by simp)
    have old : ∀ b o, hp.get? b = some o → G'.get? b = some o := fun b o q => (gk b (Nat.ne_of_lt (Nat.lt_of_lt_of_le (Heap.lt_size q) M.new))).trans (M.keep b o q)
    have ob : ObjOk X.prog X.w (upd H1 d (.xd [(f, v)])) G' d (.xd [(f, v)]) :=
      ⟨_, hns.at (fun o q => (gk d M.dne).trans q), fun y => relO_one rv y⟩
    have J : Inv X pins σ (upd H1 d (.xd [(f, v)])) ⟨G', g, _, tk', os⟩ := I1.laid (t' := tk') old M.dbig ob
    refine ⟨e, oe, fv, ⟨G', g, _, tk', os⟩, _, .ref C, some d, rfl, J, fun b o q => ?_, ge, hoe, ⟨hc, hd⟩, hdat, h1, ?_, rfl, I1.bare, raises_own T.exC T.tyC, q1 d (I1.hok.fresh M.dbig)⟩
    · by_cases hb : b = e
      · have q' : G'.get? b = some o := q
        rw [hb, ge] at q'; cases q'
      · exact (gk b hb).symm.trans q
    · rw [upd_ne (Ne.symm M.dne)]
      exact I1.hok.fresh M.new
end
/-! ### L3: raise E(a) -/
section
variable {X : Cx} {W : WX} {x p f : Str} {fI : Addr} {B newId initId : String} {bmB : List Value}
def t3Raise (x f : Str) (ta : Rd3 (List D)) : TS3 := fun D σ T => ta (exE D σ) σ T fun ds T1 => match ds with
  | [d] => D.ex x [(f, d)] σ T1
  | _ => False
/-- an own exception class as the callers know it -/
structure ExOk (P : Program) (K : Frag) (mg : Str → Option Value) (x f : Str) : Prop where
  ex : ∃ (p : Str) (fI : Addr) (B newId initId : String) (bmB : List Value), ExTxt P K mg x p f (He.ga K x) fI B newId initId bmB ∧ ExcBaseFacts B newId initId bmB ∧ KxsFacts B initId ∧ StoreFacts B bmB "object.__setattr__" "object"
theorem ps3_raise {a : Expr} {ta : Rd3 (List D)} {pp pos pos2 : Pos} {k : Nat} (T : ExOk X.prog X.K X.mg x f) (hc : X.calm = true) (tk : Takes X W) (hr : Room k X.A) (hg : Gl X x) (ha : PA3 X W [a] ta) 
    (hdb : (x == ("__debug__" : Str)) = false := by decide) (he : starEach (a :: []) X.env = (false, eval a X.env) :: starEach [] X.env := by rfl) (hpl : (backTo pos (starEach [] X.env)).any (·.1) = false := by rfl) :
    PS3 X W (.Raise (some (.Call (.Name x pp) [a] [] pos)) none pos2) (t3Raise x f ta) := by
  obtain ⟨p, fI, B, newId, initId, bmB, T, FB, KF, SF⟩ := T.ex
  refine PS.imp (ps_raise hc tk (pmk_ex T FB KF SF hr ha hg hdb he hpl)) fun D' σ H h => ?_
  obtain ⟨D3, σ3, T3, A, h⟩ := h
  refine ⟨_, σ3, T3, _, A.sub fun ds T1 vs H1 A1 h1 r1 => ?_, h⟩
  split at h1
  · obtain ⟨v, rfl, rv⟩ := r1.one
    refine ⟨v, rfl, fun d hd => ?_⟩
    have s2 : Step T1 H1 T1 (upd H1 d (.xd [(f, v)])) := Step.newU hd
    exact A1.ex _ _ _ _ d _ _ _ h1 s2 (A1.rh.newU hd) (A1.rs.step s2) upd_same (.cons (rv.step s2) .nil)
  · exact h1.elim
end
end L3
namespace L3
open PySem PySem.Spec L2
open PyProof.Rows hiding St
theorem RepH.xd {P : Program} {w : World} {K : PySem.W.Frag} {T : T3} {H : Hp} {d : Addr} {gs : List (Str × V)} (h : RepH P w K T H) (e : H d = some (.xd gs)) : T d = none := by
  cases q : T d with
  | none => rfl
  | some o =>
    have z := h d o q
    cases o with
    | lst ds => obtain ⟨_, e', _⟩ := z; rw [e] at e'; cases e'
    | rol ds => obtain ⟨_, _, e', _⟩ := z; rw [e] at e'; cases e'
    | dct kvs =>
      rcases z with ⟨_, e', _⟩ | ⟨_, _, e', _⟩
      · rw [e] at e'; cases e'
      · rw [e] at e'; cases e'
    | ins c fs => obtain ⟨_, _, e', _⟩ := z; rw [e] at e'; cases e'
    | tab q => obtain ⟨_, e', _⟩ := z; rw [e] at e'; cases e'
/-! ### try: .. except C as n: .. -/
section
variable {X : Cx} {W : WX} {C n : Str} {i : Nat} {body suite : List Stmt} {b₀ : Stmt} {np pos pos' : Pos} {tb : TS3} {ts : Addr → Addr → Str → List (Str × D) → TS3}
def exTry (K : PySem.W.Frag) (C : Str) (i : Nat) (ts : Addr → Addr → Str → List (Str × D) → TS3) (D3 : Ends3) : Str → List (Str × D) → St3 → T3 → Prop := fun c fs σ T =>
  ∃ b, PySem.W.exmOne K (.ref (He.ga K c)) (.ref (He.ga K C)) = some b ∧
    (b = true → ∀ a d, T a = none → T d = none → ts a d c fs { nx := fun σ' T' => D3.nx (σ'.set i none) T', rt := D3.rt, bk := fun σ' T' => D3.bk (σ'.set i none) T', ct := fun σ' T' => D3.ct (σ'.set i none) T' } (σ.set i (some (.exc a d c fs))) T) ∧
    (b = false → D3.ex c fs σ T)
def t3TryAs (K : PySem.W.Frag) (C : Str) (i : Nat) (tb : TS3) (ts : Addr → Addr → Str → List (Str × D) → TS3) : TS3 := fun D3 σ T => tb { D3 with ex := exTry K C i ts D3 } σ T
theorem ps3_try_as (hs : X.stack = X.env :: X.outer) (hf : X.env.frame = some X.env.locals) (hN : X.N.Nodup) (hi : X.N[i]? = some n) (hln : X.env.kindOf n = some .local) (hc : Names X C (.ref (He.ga X.K C))) (tk : Takes X W)
    (hb : ∀ (W : WX) (pn : List (Addr × Obj)) (xe : Value → Shared → Prop), Takes (X.tr pn xe) W → PassesOwn (model X.prog X.w) X.A X.env xe → PSs3 (X.tr pn xe) W body tb)
    (hsu : ∀ (a : Addr) (oe : Obj) (c : Str) (d : Addr) (fs : List (Str × D)) (pn : List (Addr × Obj)), Zc (.ref (He.ga X.K c)) (some d) oe → (∃ vs, oe.data = .fields vs) → PSs3 (X.suite a ((a, oe) :: pn)) W0 (b₀ :: suite) (ts a d c fs)) :
    PS3 X W (.Try body [.ExceptHandler (some (.Name C np)) (some n) (b₀ :: suite) pos'] [] [] pos) (t3TryAs X.K C i tb ts) := by
  refine PS.imp (ps_try_as (tb := fun W => lowS X.prog X.w X.K W tb) (ts := fun a cls dO D' σ H => ∃ c d fs, cls = .ref (He.ga X.K c) ∧ dO = some d ∧ lowS X.prog X.w X.K W0 (ts a d c fs) D' σ H) (Wout := W) hs hf hN hi hln hc tk hb (fun a oe cls dO pn hz hd => ⟨fun pins s σ H D' I h => ?_⟩)) fun D' σ H h => ?_
  · obtain ⟨c, d, fs, rfl, rfl, h⟩ := h
    exact (hsu a oe c d fs pn hz hd).run pins s σ H D' I h
  · obtain ⟨D3, σ3, T, A, h⟩ := h
    refine ⟨{ D3 with ex := exTry X.K C i ts D3 }, σ3, T, ⟨A.rs, A.rh, A.nx, A.bk, A.ct, A.rt, fun c fs σ3' T' d gs σ' H' h1 s1 rh1 rs1 hd rf => ?_⟩, h⟩
    obtain ⟨b, e, hy, hn⟩ := h1
    refine ⟨b, e, fun eb a na => ?_, fun eb => A.ex _ _ _ _ _ _ _ _ (hn eb) s1 rh1 rs1 hd rf⟩
    have td := rh1.xd hd
    have ta := rh1.free na
    have r : Rep X.K T' H' (.exc a d c fs) (.ref a) := .exc td hd rf
    refine ⟨c, d, fs, rfl, rfl, { nx := fun σ' T' => D3.nx (σ'.set i none) T', rt := D3.rt, bk := fun σ' T' => D3.bk (σ'.set i none) T', ct := fun σ' T' => D3.ct (σ'.set i none) T' }, _, T', ⟨rs1.set r, rh1, fun a1 b1 c1 d1 e1 f1 g1 i1 => ?_, fun a1 b1 c1 d1 e1 f1 g1 i1 => ?_, fun a1 b1 c1 d1 e1 f1 g1 i1 => ?_, fun a1 b1 c1 d1 e1 f1 g1 i1 => ?_, fun _ _ _ _ _ _ _ _ z => z.elim⟩, hy eb a d ta td⟩
    · exact A.nx _ _ _ _ e1 (s1.trans f1) g1 i1.unset
    · exact A.bk _ _ _ _ e1 (s1.trans f1) g1 i1.unset
    · exact A.ct _ _ _ _ e1 (s1.trans f1) g1 i1.unset
    · exact A.rt _ _ _ _ e1 (s1.trans f1) g1 i1
end
/-! ### in the suite: e.f, isinstance(e, T) -/
section
variable {X : Cx} {a : Addr} {oe : Obj} {pn : List (Addr × Obj)} {W : WX} {c x f : Str} {d : Addr} {e : Expr} {te : TE3} {pos : Pos}
def t3ExF (a d : Addr) (c x f : Str) (te : TE3) : TE3 := fun E σ T R => te E σ T fun v T1 => match v with
  | .exc a' d' c' fs' => a' = a ∧ d' = d ∧ c' = c ∧ c = x ∧ ∃ r, fs'.lookup f = some r ∧ R r T1
  | _ => False
theorem pe3_exf (Tx : ExOk X.prog X.K X.mg x f) (hz : Zc (.ref (He.ga X.K c)) (some d) oe) (hf : ∃ vs, oe.data = .fields vs) (he : PE3 (X.suite a ((a, oe) :: pn)) W e te)
    (hb : attributeBase e f X.env (eval e X.env) = eval e X.env := by rfl) : PE3 (X.suite a ((a, oe) :: pn)) W (.Attribute e f pos) (t3ExF a d c x f te) := by
  obtain ⟨p, fI, B, newId, initId, bmB, T, FB, KF, SF⟩ := Tx.ex
  refine ⟨fun pins s σ H Q I h => ?_⟩
  obtain ⟨E, σ3, T0, R, A, h⟩ := h
  refine attr_of hb (thn (he.run pins s σ H (fun v H1 => ∃ T1 r gs rv, Step T0 H T1 H1 ∧ RepH X.prog X.w X.K T1 H1 ∧ v = .ref a ∧ H1 d = some (.xd gs) ∧ gs.lookup f = some rv ∧ Rep X.K T1 H1 r rv ∧ R r T1 ∧ c = x) I ⟨E, σ3, T0, _, A.sub (R' := fun v T1 => match v with
    | .exc a' d' c' fs' => a' = a ∧ d' = d ∧ c' = c ∧ c = x ∧ ∃ r, fs'.lookup f = some r ∧ R r T1
    | _ => False) (rel' := Rep X.K) fun v T1 u H1 A1 s1 h1 r1 => ?_, h⟩) fun u s1 hh => ?_)
  · split at h1
    · obtain ⟨rfl, rfl, rfl, rfl, r, l, hR⟩ := h1
      cases r1 with
      | exc td hd rf =>
        obtain ⟨rv, l2, rr⟩ := rf.lookup l
        exact ⟨T1, r, _, rv, s1, A1.rh, rfl, hd, l2, rr, hR, rfl⟩
    · exact h1.elim
  · obtain ⟨v, H1, I1, rx, T1, r, gs, rv, st, rh1, rfl, ea, l, rr, hR, rfl⟩ := hh
    obtain rfl : u = Value.ref a := rx
    obtain ⟨ha, _⟩ := I1.pin (a, oe) (List.mem_append_left _ List.mem_cons_self)
    obtain ⟨vs, hd⟩ := hf
    have hx : ObjOk X.prog X.w H1 s1.heap d (.xd gs) := I1.hok d _ ea
    obtain ⟨mA, hns, hr⟩ := hx
    obtain ⟨od, ho, hl⟩ := lookIn_ns hns
    obtain ⟨u, hu, ru⟩ := RelO.some_of (v := rv) (o := mA f) (by rw [← l]; exact hr f)
    have J : PySem.W.InstAt s1.heap a oe (He.ga X.K c) (some od) := ⟨ha, hz.1, by unfold PySem.W.notCls; rw [hd] <;> rfl, by rw [hz.2]; exact ho⟩
    exact HandSPX.exc_get I1.kIn J T.ga T.gg T.exC (PySem.W.findObj_own T.hdC T.noF rfl (by rw [hl, hu])) (handed_of ru) ⟨rv, H1, I1.tok _, ru, A.q _ _ _ _ hR st rh1 rr⟩
def t3IsX (K : PySem.W.Frag) (a d : Addr) (c x : Str) (tn : String) (te : TE3) : TE3 := fun E σ T R => te E σ T fun v T1 => match v with
  | .exc a' d' c' fs' => a' = a ∧ d' = d ∧ c' = c ∧ c = x ∧ ∃ b, PySem.W.kitOne K (.ref (He.ga K x)) (.type tn) = some b ∧ R (.bl b) T1
  | _ => False
theorem pe3_isx {n : Str} {tn : String} {p p2 : Pos} (Tx : ExOk X.prog X.K X.mg x f) (hz : Zc (.ref (He.ga X.K c)) (some d) oe) (hf : ∃ vs, oe.data = .fields vs) (he : PE3 (X.suite a ((a, oe) :: pn)) W e te)
    (gI : Gl X "isinstance") (mI : X.mg "isinstance" = none) (gN : Gl X n) (mN : X.mg n = none) (hv : bootBuiltins n = some (.type tn)) (hn : n ≠ "__name__" := by decide) (hd : (n == ("__debug__" : Str)) = false := by decide)
    (hs : starEach [.Name n p2] X.env = (false, eval (.Name n p2) X.env) :: starEach [] X.env := by rfl) (he2 : starEach [e, .Name n p2] X.env = (false, eval e X.env) :: starEach [.Name n p2] X.env := by rfl) (hpl : (backTo pos (starEach [.Name n p2] X.env)).any (·.1) = false := by rfl) :
    PE3 (X.suite a ((a, oe) :: pn)) W (.Call (.Name "isinstance" p) [e, .Name n p2] [] pos) (t3IsX X.K a d c x tn te) := by
  obtain ⟨pp, fI, B, newId, initId, bmB, T, FB, KF, SF⟩ := Tx.ex
  have cr : CallR (X.suite a ((a, oe) :: pn)) (.builtin "isinstance") (fun xs H Q => xs = [.ref a, .ty tn] ∧ c = x ∧ (∃ gs, H d = some (.xd gs)) ∧ ∃ b, PySem.W.kitOne X.K (.ref (He.ga X.K x)) (.type tn) = some b ∧ Q (.bl b) H) := by
    intro pins s σ H xs us Q I r h
    obtain ⟨rfl, rfl, ⟨gs, ea⟩, b, k, q⟩ := h
    obtain ⟨u1, u2, rfl, r1, r2⟩ := vals2 r
    obtain rfl : u1 = Value.ref a := r1
    obtain rfl : u2 = Value.type tn := r2
    obtain ⟨ha, _⟩ := I.pin (a, oe) (List.mem_append_left _ List.mem_cons_self)
    obtain ⟨vs, hd⟩ := hf
    have hx : ObjOk X.prog X.w H s.heap d (.xd gs) := I.hok d _ ea
    obtain ⟨mA, hns, hr⟩ := hx
    obtain ⟨od, ho, hl⟩ := lookIn_ns hns
    have J : PySem.W.InstAt s.heap a oe (He.ga X.K c) (some od) := ⟨ha, hz.1, by unfold PySem.W.notCls; rw [hd] <;> rfl, by rw [hz.2]; exact ho⟩
    obtain ⟨cd, hcd, _⟩ := T.cd
    exact PySem.W.kia_one (PySem.W.kitx_exc (by rw [hcd]; rfl) T.ga T.gg T.exC T.isCls T.isGet T.isTk T.isMro) I.kIn J k (fun z => nomatch z) fun tk => ⟨.bl b, H, I.tok tk, rfl, q⟩
  refine PE.imp (pe_callB (X := X.suite a ((a, oe) :: pn)) cr gI mI boot_isinstance (pa_cons he (pa_cons (pe_bltn (v := .ty tn) gN mN hv rfl hn hd) pa_nil hs) he2) (by decide) (by decide) he2 hpl) fun σ H Q h => ?_
  obtain ⟨E, σ3, T0, R, A, h⟩ := h
  refine ⟨E, σ3, T0, _, A.sub fun v T1 u H1 A1 s1 h1 r1 => ?_, h⟩
  split at h1
  · obtain ⟨rfl, rfl, rfl, rfl, b, k, hR⟩ := h1
    cases r1 with
    | exc td hd rf => exact ⟨rfl, rfl, ⟨_, hd⟩, b, k, A1.fin hR (.bl b)⟩
  · exact h1.elim
end
end L3
namespace L3
open PySem PySem.Spec L2 LamX
open PyProof.Rows hiding St
/-! ### a lambda without parameters, handed to a def that calls it -/
section
variable {X : Cx} {pins : List (Addr × Obj)} {σ : L2.St} {H : Hp} {s : Shared} {T : T3}
/-- the lambda is made: what T tells stands -/
theorem lam_make3 {c P : Addr} {params : Arguments} {body : Expr} {scope : Scope} {pos : Pos} {E : Value → Shared → Prop} {Q : Value → Shared → Prop} (I : Inv X pins σ H s) (rh : RepH X.prog X.w X.K T H) (TB : TabB X.base X.mg c P) (hcode : X.env.code = .ref c)
    (hT : T P = some (.tab (X.env.qual ++ "<lambda>"))) (hdef : defaultsOf params X.env = ([], [])) (hfree : ∀ y ∈ scope.names, y.2 = .free → ∃ c, X.env.cells.lookup y.1 = some c)
    (h : ∀ (f c' : Addr) (pm ctv : Value) (H1 : Hp) (s' : Shared), Inv X pins σ H1 s' → Step T H T H1 → RepH X.prog X.w X.K T H1 →
      s'.heap.get? f = some (PySem.W.kla_obj "<lambda>" (X.env.qual ++ "<lambda>") params body scope (cloFrom X.env.cells scope.names []) pm c' ctv) → H1 f = none → f ∉ frs X.stack → H1 c' = some (CodeO c' (X.env.qual ++ "<lambda>")) → T c' = none → Q (.ref f) s') :
    wpAny (model X.prog X.w) X.A (eval (.Lambda params body scope pos) X.env) Q E s := by
  obtain ⟨ps, hP, ht, ha⟩ := (show RepT T H P (X.env.qual ++ "<lambda>") from rh P _ hT)
  refine PySem.W.kla_eval hdef ?_
  have bP : s.heap.BuiltinsAt X.mg P := TB.bm.keeps I.bk
  have hP' : s.heap.get? P = some { cls := .none, data := .fields ps } := I.hok P _ hP
  have nofr : ∀ f, s.heap.objs.size ≤ f → f ∉ frs X.stack := fun f hf z => by
    rcases List.mem_cons.mp (I.stkSub _ z) with e | e
    · have h1 := I.lt
      rw [← e] at h1
      exact Nat.lt_irrefl _ (Nat.lt_of_lt_of_le h1 hf)
    · exact I.nofs hf e
  cases hc : codeAmong pos ps.toList with
  | none =>
    refine PySem.W.kla_makeFunction (mg := X.mg) (c := c) (P := P) (ps := ps) (closure_ok hfree) I.ok.glob (I.mod.glob.keeps I.bk) hcode (TB.code.keeps I.bk) hP' ht hc TB.gP bP fun c' ctv h' tk hx hge hlt hrec htb => ?_
    obtain ⟨c2, oc, vs, t, e2, hoc, hd, hv⟩ := hrec
    cases e2
    have hsz : s.heap.objs.size ≤ h'.objs.size := Nat.le_trans hge (Nat.le_of_lt hlt)
    have nC : H c' = none := I.hok.fresh hge
    have tC : T c' = none := rh.free nC
    have I1 := inv_table (t' := tk) (more := #[rawInt pos.line, rawInt pos.col, .ref c']) (h' := h'.push (PySem.W.kla_obj "<lambda>" (X.env.qual ++ "<lambda>") params body scope (cloFrom X.env.cells scope.names []) ((X.mg "__name__").getD .none) c' ctv)) I hP
      (fun b o hb e => Heap.get?_push_of_some _ (hx b o hb e)) (Heap.get?_push_of_some _ htb) hge ⟨oc, vs, t, Heap.get?_push_of_some _ hoc, hd, hv⟩
    have keep : ∀ b o, b ≠ P → H b = some o → (upd (upd H P (.tbl (ps ++ #[rawInt pos.line, rawInt pos.col, .ref c']))) c' (CodeO c' (X.env.qual ++ "<lambda>"))) b = some o := fun b o n e => by
      rw [upd_ne (ne_of_none e nC), upd_ne n]
      exact e
    have st : Step T H T (upd (upd H P (.tbl (ps ++ #[rawInt pos.line, rawInt pos.col, .ref c']))) c' (CodeO c' (X.env.qual ++ "<lambda>"))) := fun b o e1 e2 => ⟨e1, keep b o (fun z => by rw [z, hT] at e1; cases e1) e2⟩
    have eL : (ps ++ #[rawInt pos.line, rawInt pos.col, .ref c']).toList = ps.toList ++ [rawInt pos.line, rawInt pos.col, .ref c'] := by simp
    have rt : RepT T (upd (upd H P (.tbl (ps ++ #[rawInt pos.line, rawInt pos.col, .ref c']))) c' (CodeO c' (X.env.qual ++ "<lambda>"))) P (X.env.qual ++ "<lambda>") := by
      refine ⟨_, by rw [upd_ne (ne_of_none hP nC), upd_same], by rw [eL]; exact PySem.TriplesOk_snoc _ _ _ _ ht, fun p' cv hcv => ?_⟩
      rw [eL] at hcv
      rcases among_app _ ht hcv with z | z
      · obtain ⟨c0, e1, e2, e3⟩ := ha p' cv z
        exact ⟨c0, e1, (st c0 _ e3 e2).2, e3⟩
      · exact ⟨c', z, upd_same, tC⟩
    have rh1 : RepH X.prog X.w X.K T (upd (upd H P (.tbl (ps ++ #[rawInt pos.line, rawInt pos.col, .ref c']))) c' (CodeO c' (X.env.qual ++ "<lambda>"))) := fun b u e => by
      by_cases hb : b = P
      · subst hb
        rw [hT] at e; cases e
        exact rt
      · exact (rh b u e).step st fun v q => keep b v hb q
    refine h h'.objs.size c' ((X.mg "__name__").getD .none) ctv _ _ I1 st rh1 (Heap.get?_push_size _ rfl) ?_ (nofr _ hsz) upd_same tC
    have n1 : h'.objs.size ≠ c' := Nat.ne_of_gt hlt
    have n2 : h'.objs.size ≠ P := Nat.ne_of_gt (Nat.lt_of_lt_of_le (Heap.lt_size hP') hsz)
    rw [upd_ne n1, upd_ne n2]
    exact I.hok.fresh hsz
  | some cv =>
    obtain ⟨c', e, hco, tC⟩ := ha pos cv hc
    subst e
    refine PySem.W.kla_makeFunctionHit (mg := X.mg) (c := c) (P := P) (ps := ps) (closure_ok hfree) I.ok.glob (I.mod.glob.keeps I.bk) hcode (TB.code.keeps I.bk) hP' ht hc bP fun ctv h' tk hx hsz => ?_
    have I1 : Inv X pins σ H { s with heap := h'.push (PySem.W.kla_obj "<lambda>" (X.env.qual ++ "<lambda>") params body scope (cloFrom X.env.cells scope.names []) ((X.mg "__name__").getD .none) c' ctv), toks := tk } := I.kept fun b o e => Heap.get?_push_of_some _ (hx b o e)
    exact h h'.objs.size c' ((X.mg "__name__").getD .none) ctv H _ I1 (Step.refl _ _) rh (Heap.get?_push_size _ rfl) (I.hok.fresh hsz) (nofr _ hsz) hco tC
/-- a(), in the def that got the lambda: what may leave it is told of the slots at the call -/
theorem pe_act3 {CXg : CXT} {Eg : XK} {Ng : List Str} {qg : Str} {sg : Scope} {g f c' : Addr} {cdg pm ctv : Value} {params : Arguments} {body : Expr} {scope : Scope} {k i : Nat} {a : Str} {pn : List (Addr × Obj)} {xe : Value → Shared → Prop} {W : WX} {tb : XK → TE} {p1 p2 : Pos}
    (I : Inv X pins σ H s) (L : LamS X.env.scope scope) (hf : s.heap.get? f = some (PySem.W.kla_obj "<lambda>" (X.env.qual ++ "<lambda>") params body scope (cloFrom X.env.cells scope.names []) pm c' ctv)) (hfn : H f = none) (hfr : f ∉ frs X.stack)
    (hbind : bindArgs (PySem.W.kla_fn "<lambda>" (X.env.qual ++ "<lambda>") params body scope (cloFrom X.env.cells scope.names []) pm (.ref c') ctv) ⟨[], []⟩ = pure [])
    (tk : Takes ((cxOf CXg X.prog X.w X.K X.mg X.base Ng qg sg g cdg X.A X.stack s H Eg).tr pn xe) W) (hr : Room (k + 1) (X.A.deeper (envOfC qg sg s.heap.objs.size g cdg)))
    (hbody : ∀ (E : XK) (A : Around) (outer : List Env) (s : Shared) (H : Hp), Room k (A.deeper (lamEnv X scope s.heap.objs.size f c')) → PE (lamCx X A outer s H E scope f c') body (tb E))
    (hN : Ng[i]? = some a) (hv : Vis sg a) (hd : (a == ("__debug__" : Str)) = false := by decide) (hcd : (a == ("__classdict__" : Str)) = false := by decide) :
    PE ((cxOf CXg X.prog X.w X.K X.mg X.base Ng qg sg g cdg X.A X.stack s H Eg).tr pn xe) (.Call (.Name a p1) [] [] p2)
      (fun σZ HZ Q => σZ[i]? = some (some (.ref f)) ∧ HZ c' = some (CodeO c' (X.env.qual ++ "<lambda>")) ∧ tb (fun cls d H' => W cls d σZ H') σ HZ Q) := by
  refine ⟨fun pinsZ sZ σZ HZ Q IZ h => ?_⟩
  obtain ⟨hs, hc, ht⟩ := h
  refine wpAny_Call_Name_kw (thn ((pe_var (pos := p1) (i := i) hN hv hd hcd).run pinsZ sZ σZ HZ (fun v H1 => v = .ref f ∧ H1 = HZ) IZ ⟨.ref f, hs, rfl, rfl⟩) fun u s1 ⟨v, H1, I1, r1, q1⟩ => ?_)
  obtain ⟨ev, eH⟩ := q1
  subst ev
  rw [eH] at I1
  obtain rfl : u = Value.ref f := r1
  have of1 : s1.heap.get? f = some (PySem.W.kla_obj "<lambda>" (X.env.qual ++ "<lambda>") params body scope (cloFrom X.env.cells scope.names []) pm c' ctv) := I1.base.keep f _ hf hfn hfr (fun z => nomatch (show f ∈ ([] : List Addr) from z))
  refine PySem.W.callWith_F0 ⟨_, _, _, _, of1⟩ ?_
  have un : Un (frs X.stack) [] H HZ s.heap s1.heap := I1.base
  obtain ⟨⟨oc, vs, t, hoc, hdc, hvc⟩, _, _⟩ := I1.hok c' _ hc
  have rc : codeAny (model X.prog X.w) (X.A.deeper (envOfC qg sg s.heap.objs.size g cdg)) (.call (.ref f) ⟨[], []⟩) (CR (L2.CX X.prog X.w) (envOfC qg sg s.heap.objs.size g cdg :: X.stack) X.prog X.w HZ s1 Q (fun cls d H' => W cls d σZ H')) s1 := by
    refine PySem.W.kla_callFunE hr.depth of1 rfl L.co L.gen rfl ⟨c', oc, vs, t, rfl, hoc, hdc, hvc⟩ ?_
    rw [hbind]
    refine wpAny_pure (wpAny_newFunctionEnv (fun y hy => (L.own y hy).2) (fun y hy => absurd hy (by simp)) (fun h₁ hns hsb => ⟨I1.nolimit.fresh _ hsb, ?_⟩) L.kind)
    show codeAny _ _ (.expr body (lamEnv X scope s1.heap.objs.size f c')) _ _
    have kp : ∀ b o, s1.heap.get? b = some o → h₁.get? b = some o := fun b o e => hsb.extBut b o (Nat.ne_of_lt (Heap.lt_size e)) (Heap.get?_push_of_some _ e)
    have J : Inv (lamCx X (X.A.deeper (envOfC qg sg s.heap.objs.size g cdg)) (envOfC qg sg s.heap.objs.size g cdg :: X.stack) s1 HZ (fun cls d H' => W cls d σZ H') scope f c') [] σ HZ { s1 with heap := h₁, toks := s1.toks + ([] : List (Str × Value)).length } :=
      lam_start2 I L I1.env0 hr.hd un hns kp
    refine PySem.W.kla_codeExpr (wpAny_mono ((hbody _ _ _ s1 HZ (hr.deeper _)).run [] _ _ HZ Q J ht) (fun v s' hq => ?_) fun e s' hq => hq)
    obtain ⟨w', H', J', rv, q⟩ := hq
    exact ⟨w', H', J'.os, J'.bare, J'.base, J'.hok, rv, q⟩
  have hx := passAt tk σZ
  refine wpAny_call (codeAny_mono rc fun r s' hq => ?_)
  cases r with
  | error e => exact hx pinsZ HZ s1 e s' I1 hq
  | ok fl =>
    cases fl with
    | ret u => exact I1.after hq
    | next => exact False.elim hq
    | brk => exact False.elim hq
    | cont => exact False.elim hq
end
/-! ### a frame's slots as one value -/
def slotsD (σ3 : St3) : List D := σ3.filterMap id
def slotsV : St3 → L2.St → List V
  | some _ :: r, some v :: s => v :: slotsV r s
  | none :: r, _ :: s => slotsV r s
  | _, _ => []
def ShapeS (σ3 : St3) (σ : L2.St) : Prop := σ3.length = σ.length ∧ ∀ (i : Nat) (d : D), σ3[i]? = some (some d) → ∃ v, σ[i]? = some (some v)
theorem RepS.shape {K : PySem.W.Frag} {T : T3} {H : Hp} {σ3 : St3} {σ : L2.St} (h : RepS K T H σ3 σ) : ShapeS σ3 σ := ⟨h.1, fun i d e => let ⟨v, a, _⟩ := h.2 i d e; ⟨v, a⟩⟩
theorem RepS.tail {K : PySem.W.Frag} {T : T3} {H : Hp} {o : Option D} {p : Option V} {σ3 : St3} {σ : L2.St} (h : RepS K T H (o :: σ3) (p :: σ)) : RepS K T H σ3 σ := ⟨by simpa using h.1, fun i d e => h.2 (i + 1) d (by simpa using e)⟩
theorem ShapeS.tail {o : Option D} {p : Option V} {σ3 : St3} {σ : L2.St} (h : ShapeS (o :: σ3) (p :: σ)) : ShapeS σ3 σ := ⟨by simpa using h.1, fun i d e => h.2 (i + 1) d (by simpa using e)⟩
theorem RepS.one {K : PySem.W.Frag} {T : T3} {H : Hp} : ∀ {σ3 : St3} {σ : L2.St}, RepS K T H σ3 σ → RepL K T H (slotsD σ3) (slotsV σ3 σ)
  | [], [], _ => .nil
  | [], _ :: _, h => by cases h.1
  | _ :: _, [], h => by cases h.1
  | some d :: r, p :: s, h => by
    obtain ⟨v, e, q⟩ := h.2 0 d rfl
    obtain rfl : p = some v := Option.some.inj e
    exact .cons q (RepS.one h.tail)
  | none :: r, p :: s, h => by
    show RepL K T H (slotsD r) (slotsV (none :: r) (p :: s))
    unfold slotsV
    exact RepS.one h.tail
theorem RepS.of_one {K : PySem.W.Frag} {T : T3} {H : Hp} : ∀ {σ3 : St3} {σ : L2.St}, ShapeS σ3 σ → RepL K T H (slotsD σ3) (slotsV σ3 σ) → RepS K T H σ3 σ
  | [], [], _, _ => ⟨rfl, fun i d e => by simp at e⟩
  | [], _ :: _, h, _ => by cases h.1
  | _ :: _, [], h, _ => by cases h.1
  | some d :: r, p :: s, h, k => by
    obtain ⟨v, e⟩ := h.2 0 d rfl
    obtain rfl : p = some v := Option.some.inj e
    have k' : RepL K T H (d :: slotsD r) (v :: slotsV r s) := k
    cases k' with
    | cons q k =>
      have ih := RepS.of_one h.tail k
      refine ⟨h.1, fun i d' e => ?_⟩
      cases i with
      | zero => cases e; exact ⟨v, rfl, q⟩
      | succ i => exact ih.2 i d' (by simpa using e)
  | none :: r, p :: s, h, k => by
    have k' : RepL K T H (slotsD r) (slotsV r s) := by
      have k2 : RepL K T H (slotsD r) (slotsV (none :: r) (p :: s)) := k
      unfold slotsV at k2
      exact k2
    have ih := RepS.of_one h.tail k'
    refine ⟨h.1, fun i d' e => ?_⟩
    cases i with
    | zero => cases e
    | succ i => exact ih.2 i d' (by simpa using e)
/-- what a() does, as the def's body reads it -/
def t3Act (l : D) (tb : EX3 → T3 → (D → T3 → Prop) → Prop) : TE3 := fun E σ T R => σ[0]? = some (some l) ∧ tb E T R
def t3Lam (P : Addr) (q : Str) (Ng : List Str) (tg : D → (EX3 → T3 → (D → T3 → Prop) → Prop) → TS3) (tb : TE3) : TE3 := fun E σ T R => T P = some (.tab q) ∧ ∀ f c' vs, T f = none → T c' = none →
  tg (.lam f c' q (slotsD σ) vs) (fun E' T' R' => tb E' σ T' R') { nx := fun _ T' => R .non T', rt := R } (start3 Ng [.lam f c' q (slotsD σ) vs]) T
section
variable {X : Cx} {W : WX}
/-- x(lambda: body), x a def with one parameter a -/
theorem pe3_lam {x a : Str} {g c P : Addr} {k : Nat} {pg : Arguments} {bg : List Stmt} {sg : Scope} {dV kV doc pm cdv ct oc : Value} {an od : Option Addr} {osl : Array (Option Value)} {Ng : List Str}
    {params : Arguments} {body : Expr} {scope : Scope} {tb : TE3} {tg : D → (EX3 → T3 → (D → T3 → Prop) → Prop) → TS3} {p lpos pos : Pos} (hg : Gl X x) (hm : X.mg x = some (.ref g)) (hk : PySem.W.keepIn X.K (.ref g) = true)
    (lk : X.K.lookup g = some ⟨oc, od, .func (PySem.W.fnOf x x pg bg sg dV kV doc pm an cdv ct), osl⟩) (hcg : PySem.W.codeIn X.K cdv x = true) (hb : L2.Binds X.K (PySem.W.fnOf x x pg bg sg dV kV doc pm an cdv ct) [a] []) (Sg : FnScope Ng [a] sg) (hNg : Ng[0]? = some a) (hva : Vis sg a)
    (TB : TabB X.base X.mg c P) (hcode : X.env.code = .ref c) (hr : Room (k + 2) X.A) (L : LamS X.env.scope scope) (hdef : defaultsOf params X.env = ([], []))
    (hbind : ∀ (q : Str) (cl : List (Str × Addr)) (pm cv ctv : Value), bindArgs (PySem.W.kla_fn "<lambda>" q params body scope cl pm cv ctv) ⟨[], []⟩ = pure [])
    (hbody : ∀ (A : Around) (outer : List Env) (s : Shared) (H : Hp) (E : XK) (f c' : Addr), Room k (A.deeper (lamEnv X scope s.heap.objs.size f c')) → Takes (lamCx X A outer s H E scope f c') (wE E) → PE3 (lamCx X A outer s H E scope f c') (wE E) body tb)
    (hgb : ∀ (s : Shared) (H : Hp) (l : D) (tbT : EX3 → T3 → (D → T3 → Prop) → Prop),
      (∀ (W : WX) (pn : List (Addr × Obj)) (xe : Value → Shared → Prop) (p1 p2 : Pos), Takes ((cxOf C8.CX0 X.prog X.w X.K X.mg X.base Ng x sg g cdv X.A X.stack s H C8.E0).tr pn xe) W →
        PE3 ((cxOf C8.CX0 X.prog X.w X.K X.mg X.base Ng x sg g cdv X.A X.stack s H C8.E0).tr pn xe) W (.Call (.Name a p1) [] [] p2) (t3Act l tbT)) →
      PSs3 (cxOf C8.CX0 X.prog X.w X.K X.mg X.base Ng x sg g cdv X.A X.stack s H C8.E0).nox W0 bg (tg l tbT))
    (hdb : (x == ("__debug__" : Str)) = false := by decide) (hd : (a == ("__debug__" : Str)) = false := by decide) (hcd : (a == ("__classdict__" : Str)) = false := by decide) :
    PE3 X W (.Call (.Name x p) [.Lambda params body scope lpos] [] pos) (t3Lam P (X.env.qual ++ "<lambda>") Ng tg tb) := by
  refine ⟨fun pins s σ H Q I h => ?_⟩
  obtain ⟨E, σ3, T, R, A, hP, h⟩ := h
  refine wpAny_Call_Name_kw (ld_glob I hg hm ?_ hdb)
  refine PySem.W.callWith_K (h₀ := X.base) I.ok.mod.kin hk ?_ (by rfl) (by rfl)
  show wpAny _ _ (spliced ((false, eval (.Lambda params body scope lpos) X.env) :: backTo pos (starEach [] X.env))) _ _ s
  refine Calls.spliced_cons (lam_make3 I A.rh TB hcode hP hdef (L.has I.ok) fun f c' pm' ctv H1 s' I1 st rh1 hf hfn hfr hco tC => ?_)
  refine Calls.spliced_nil ⟨I1.kIn, ?_⟩
  have A1 := A.next st rh1
  have rc : codeAny (model X.prog X.w) X.A (.call (.ref g) ⟨[.ref f], []⟩) (CR C8.CX0 X.stack X.prog X.w H1 s' Q C8.E0) s' := by
    refine run_ofS (N := Ng) (ps := [a]) (us := [.ref f]) (vs := [.ref f]) lk hcg Sg hr I1.env0 (hb s' [.ref f] I1.kIn rfl) (.cons rfl .nil) rfl fun hr' => ?_
    have act := hgb s' H1 (.lam f c' (X.env.qual ++ "<lambda>") (slotsD σ3) (slotsV σ3 σ)) (fun E' T' R' => tb E' σ3 T' R') (fun W' pn xe p1 p2 tk => by
      refine PE.imp (pe_act3 (tb := fun E => low X.prog X.w X.K (Rep X.K) (wE E) tb) (i := 0) I1 L hf hfn hfr (hbind _ _ _ _ _) tk hr' (fun E A outer s H hr2 => hbody A outer s H E f c' hr2 ?_) hNg hva hd hcd) fun σZ HZ QZ hz => ?_
      · exact takes_of rfl rfl rfl rfl
      · obtain ⟨EZ, σ3Z, TZ, RZ, AZ, h1, h3⟩ := hz
        obtain ⟨v, e1, r⟩ := AZ.rs.2 0 _ h1
        cases r with
        | lam t hc rr => exact ⟨e1, hc, EZ, σ3, TZ, RZ, ⟨RepS.of_one A1.rs.shape rr, AZ.rh, AZ.q, AZ.x⟩, h3⟩)
    refine ⟨_, act.nox, ?_⟩
    exact ⟨{ nx := fun _ T' => R .non T', rt := R }, start3 Ng [.lam f c' (X.env.qual ++ "<lambda>") (slotsD σ3) (slotsV σ3 σ)], T, ⟨RepS.start (.cons (.lam tC hco A1.rs.one) .nil), rh1, fun σ3' T' σ' H' h1 h2 h3 h4 => A1.q _ _ _ _ h1 h2 h3 .non, fun _ _ _ _ z => z.elim, fun _ _ _ _ z => z.elim, fun d T' v H' h1 h2 h3 h4 => A1.q _ _ _ _ h1 h2 h3 h4, fun _ _ _ _ _ _ _ _ z => z.elim⟩, h f c' _ (rh1.free hfn) tC⟩
  refine wpAny_call (codeAny_mono rc fun r s2 hq => ?_)
  cases r with
  | error e => exact (show False from hq).elim
  | ok fl =>
    cases fl with
    | ret u => exact I1.after hq
    | next => exact False.elim hq
    | brk => exact False.elim hq
    | cont => exact False.elim hq
end
end L3
namespace L3
open PySem PySem.Spec L2
open PyProof.Rows hiding St
/-! ### dicts with keys that are ints and texts -/
def getD3 (kvs : List (D × D)) (k : Key) : Option D := (kvs.find? fun q => decide (keyOf q.1 = some k)).map (·.2)
def putD3 (kvs : List (D × D)) (d : D) (k : Key) (v : D) : List (D × D) := if (kvs.any fun q => decide (keyOf q.1 = some k)) then kvs.map fun q => if keyOf q.1 = some k then (q.1, v) else q else kvs ++ [(d, v)]
section
variable {K : PySem.W.Frag} {T : T3} {H : Hp}
abbrev KP (K : PySem.W.Frag) (T : T3) (H : Hp) : D × D → Key × V → Prop := fun p q => keyOf p.1 = some q.1 ∧ Rep K T H p.2 q.2
theorem kp_dec {p : D × D} {q : Key × V} (h : KP K T H p q) (k : Key) : decide (keyOf p.1 = some k) = decide (q.1 = k) := by
  rw [h.1]
  by_cases e : q.1 = k
  · rw [decide_eq_true e, decide_eq_true (by rw [e])]
  · rw [decide_eq_false e, decide_eq_false fun z => e (Option.some.inj z)]
theorem kp_any {kvs : List (D × D)} {kv : List (Key × V)} (h : Paired (KP K T H) kvs kv) (k : Key) : (kvs.any fun q => decide (keyOf q.1 = some k)) = kv.any fun q => decide (q.1 = k) := by
  induction h with
  | nil => rfl
  | cons a b ih => rw [List.any_cons, List.any_cons, ih, kp_dec a]
theorem kp_get {kvs : List (D × D)} {kv : List (Key × V)} (h : Paired (KP K T H) kvs kv) (k : Key) : (∀ d, getD3 kvs k = some d → ∃ v, valV kv k = some v ∧ Rep K T H d v) ∧ (getD3 kvs k = none → valV kv k = none) := by
  induction h with
  | nil => exact ⟨fun d e => by simp [getD3] at e, fun _ => rfl⟩
  | @cons p q ps qs a b ih =>
    have hd := kp_dec a k
    unfold getD3 valV at ih ⊢
    rw [List.find?_cons, List.find?_cons, hd]
    by_cases e : q.1 = k
    · rw [decide_eq_true e]
      exact ⟨fun d z => ⟨_, rfl, by cases z; exact a.2⟩, fun z => by cases z⟩
    · rw [decide_eq_false e]
      exact ih
theorem kp_map {kvs : List (D × D)} {kv : List (Key × V)} (h : Paired (KP K T H) kvs kv) (k : Key) {d : D} {v : V} (r : Rep K T H d v) :
    Paired (KP K T H) (kvs.map fun q => if keyOf q.1 = some k then (q.1, d) else q) (kv.map fun q => if q.1 = k then (q.1, v) else q) := by
  induction h with
  | nil => exact .nil
  | @cons p q ps qs a b ih =>
    rw [List.map_cons, List.map_cons]
    refine .cons ?_ ih
    by_cases e : q.1 = k
    · rw [if_pos e, if_pos (by rw [a.1, e])]
      exact ⟨a.1, r⟩
    · rw [if_neg e, if_neg (fun z => e (Option.some.inj (a.1.symm.trans z)))]
      exact a
theorem paired_app {α β : Type} {F : α → β → Prop} {xs xs' : List α} {ys ys' : List β} (a : Paired F xs ys) (b : Paired F xs' ys') : Paired F (xs ++ xs') (ys ++ ys') := by
  induction a with
  | nil => exact b
  | cons h t ih => exact .cons h ih
theorem kp_put {kvs : List (D × D)} {kv : List (Key × V)} (h : Paired (KP K T H) kvs kv) {k : Key} {y d : D} {v : V} (hy : keyOf y = some k) (r : Rep K T H d v) : Paired (KP K T H) (putD3 kvs y k d) (putK kv k v) := by
  unfold putD3 putK
  rw [kp_any h k]
  split
  · exact kp_map h k r
  · exact paired_app h (.cons ⟨hy, r⟩ .nil)
theorem key_rep {y : D} {v : V} {k : Key} (r : Rep K T H y v) (e : keyOf y = some k) : v = kV k := by
  cases r with
  | int i => cases e; rfl
  | str x => cases e; rfl
  | _ => cases e
theorem keys_put {kvs : List (D × D)} {k : Key} {y d : D} (h : (kvs.all fun q => (keyOf q.1).isSome) = true) (hy : keyOf y = some k) : ((putD3 kvs y k d).all fun q => (keyOf q.1).isSome) = true := by
  unfold putD3
  split
  · rw [List.all_map]
    refine List.all_eq_true.mpr fun q hq => ?_
    have := List.all_eq_true.mp h q hq
    show (keyOf (if keyOf q.1 = some k then (q.1, d) else q).1).isSome = true
    split
    · exact this
    · exact this
  · rw [List.all_append, h, Bool.true_and]
    show ((keyOf y).isSome && true) = true
    rw [hy]; rfl
end
section
variable {X : Cx} {W : WX}
theorem dct_at {T : T3} {H : Hp} {p : Addr} {kvs : List (D × D)} (rh : RepH X.prog X.w X.K T H) (d : Dct T p kvs) : ∃ kv : List (Key × V), H p = some (.dK kv) ∧ Paired (KP X.K T H) kvs kv := dk_of (rh p _ d.at_) d.keys
/-- d[k] -/
structure DG (x y : D) (T : T3) (R : D → T3 → Prop) : Prop where
  run : match x with
    | .ref p => ∃ kvs k d, Dct T p kvs ∧ keyOf y = some k ∧ getD3 kvs k = some d ∧ R d T
    | _ => False
abbrev dgetR : R23 := DG
theorem pe3_dget {o i : Expr} {to ti : TE3} {pos : Pos} (hu : X.A.units + 64 < cLine) (ho : PE3 X W o to) (hi : PE3 X W i ti) (hs : NoSl i := by exact fun _ _ => rfl) : PE3 X W (.Subscript o i pos) (t3Op dgetR to ti) := PE.imp (pe_dget (by omega) ho hi hs) fun σ H Q h => by
  obtain ⟨E, σ3, T, R, A, h⟩ := h
  refine ⟨E, σ3, T, _, A.sub fun x T1 v H1 A1 s1 h1 r1 => ?_, h⟩
  refine ⟨E, σ3, T1, _, A1.sub fun y T2 u H2 A2 s2 h2 r2 => ?_, h1⟩
  have h2 := h2.run
  split at h2
  · obtain ⟨kvs, k, d, hd, hk, hg, hR⟩ := h2
    cases r1
    obtain ⟨kv, e, r⟩ := dct_at A2.rh hd
    obtain ⟨dv, e2, rd⟩ := (kp_get r k).1 d hg
    refine ⟨_, dv, rfl, ?_, A2.fin hR rd⟩
    rw [key_rep r2 hk, ← e2]
    exact DGet.k e
  · exact h2.elim
/-- d[k] = v, behind v -/
structure putR3 (x y v : D) (T : T3) (N : T3 → Prop) : Prop where
  run : match x with
    | .ref p => ∃ kvs k, Dct T p kvs ∧ keyOf y = some k ∧ kvs.length < sizeLine ∧ N (updT T p (.dct (putD3 kvs y k v)))
    | _ => False
def t3DPut (to ti tv : TE3) : TS3 := fun D σ T => tv (exE D σ) σ T fun v T1 => to (exE D σ) σ T1 fun x T2 => ti (exE D σ) σ T2 fun y T3 => putR3 x y v T3 (D.nx σ)
theorem dput_of {T : T3} {H : Hp} {x y v : D} {xv yv vv : V} {N : T3 → Prop} {N' : Hp → Prop} (rh : RepH X.prog X.w X.K T H) (rx : Rep X.K T H x xv) (ry : Rep X.K T H y yv) (rv : Rep X.K T H v vv) (h : putR3 x y v T N)
    (k : ∀ T' H', N T' → Step T H T' H' → RepH X.prog X.w X.K T' H' → N' H') : ∃ a H', xv = .ref a ∧ DPut H a yv vv H' ∧ N' H' := by
  obtain ⟨h⟩ := h
  split at h
  · next p =>
    obtain ⟨kvs, kk, hd, hk, hz, hN⟩ := h
    cases rx
    obtain ⟨kv, e, r⟩ := dct_at rh hd
    refine ⟨p, upd H p (.dK (putK kv kk vv)), rfl, ?_, k _ _ hN ?_ ?_⟩
    · rw [key_rep ry hk]
      exact DPut.k e (by rw [← Paired.length r]; exact hz)
    · exact Step.write hd.at_
    · have st : Step T H (updT T p (.dct (putD3 kvs y kk v))) (upd H p (.dK (putK kv kk vv))) := Step.write hd.at_
      refine rh.upd st (.inl ⟨_, upd_same, ?_⟩)
      exact Paired.mapP (kp_put r hk rv) fun a b z => ⟨z.1, z.2.step st⟩
  · exact h.elim
theorem ps3_dput {o i value : Expr} {to ti tv : TE3} {pos pos' : Pos} (hu : X.A.units + 64 < cLine) (ho : PE3 X W o to) (hi : PE3 X W i ti) (hv : PE3 X W value tv) (hs : swapsWith value (some (.Subscript o i pos')) pos.line X.env = pure false := by rfl) :
    PS3 X W (.Assign [.Subscript o i pos'] value pos) (t3DPut to ti tv) := PS.imp (ps_dput (by omega) ho hi hv hs) fun D' σ H h => by
  obtain ⟨D3, σ3, T, A, h⟩ := h
  refine ⟨_, σ3, T, _, A.sub fun v T1 vv H1 A1 h1 r1 => ?_, h⟩
  refine ⟨_, σ3, T1, _, ⟨A1.rs, A1.rh, (fun x T2 xv H2 h2 s2 rh2 r2 => ?_), fun c fs T' d gs H' a b e f g => A1.ex c fs σ3 T' d gs σ H' a b e (A1.rs.step b) f g⟩, h1⟩
  have A2 := A1.next s2 rh2 (A1.rs.step s2)
  refine ⟨_, σ3, T2, _, ⟨A2.rs, A2.rh, (fun y T3 yv H3 h3 s3 rh3 r3 => ?_), fun c fs T' d gs H' a b e f g => A2.ex c fs σ3 T' d gs σ H' a b e (A2.rs.step b) f g⟩, h2⟩
  have A3 := A2.next s3 rh3 (A2.rs.step s3)
  obtain ⟨a, H', e, g, q⟩ := dput_of (N' := fun H' => D'.nx σ H') rh3 (r2.step s3) r3 ((r1.step s2).step s3) h3 fun T' H' n s r => (A3.next s r (A3.rs.step s)).fin n
  exact ⟨a, H', e, g, q⟩
/-- .. as a target -/
def g3DPut (to ti : TE3) : TG3 := fun E v σ T Q => to E σ T fun x T1 => ti E σ T1 fun y T2 => putR3 x y v T2 (Q σ)
theorem pg3_dput {o i : Expr} {to ti : TE3} {pos : Pos} (hu : X.A.units + 64 < cLine) (ho : PE3 X W o to) (hi : PE3 X W i ti)
    (ha : ∀ v, assign (.Subscript o i pos) X.env v = (do
      let ov ← holding [v] (eval o X.env)
      let iv ← holding [v, ov] (eval i X.env)
      standAt pos
      holding [v, ov, iv] (setItem ov iv v)
      release [v, ov, iv] []) := by intro _; rfl) : PG3 X W (.Subscript o i pos) (g3DPut to ti) := PG.imp (pg_sub ho hi (set_dict (by omega)) ha) fun v σ H Q h => by
  obtain ⟨E, σ3, T, R, d, A, r, h⟩ := h
  refine ⟨E, σ3, T, _, A.sub fun x T1 xv H1 A1 s1 h1 r1 => ?_, h⟩
  refine ⟨E, σ3, T1, _, A1.sub fun y T2 yv H2 A2 s2 h2 r2 => ?_, h1⟩
  obtain ⟨a, H', e, g, q⟩ := dput_of (N' := fun H' => Q σ H') A2.rh (r1.step s2) r2 ((r.step s1).step s2) h2 fun T' H' n s r => (A2.next s r (A2.rs.step s)).fin n
  exact ⟨a, H', e, g, q⟩
/-! ### displays -/
def pairs3 : List (TE3 × TE3) → EX3 → St3 → T3 → (List (D × D) → T3 → Prop) → Prop
  | [], _, _, T, Q => Q [] T
  | (tk, tv) :: r, E, σ, T, Q => tk E σ T fun x T1 => tv E σ T1 fun y T2 => pairs3 r E σ T2 fun ps T3 => Q ((x, y) :: ps) T3
def lowPs (P : Program) (w : World) (K : PySem.W.Frag) (W : WX) (trs : List (TE3 × TE3)) : List (TE × TE) := trs.map fun p => (low P w K (Rep K) W p.1, low P w K (Rep K) W p.2)
structure PPs3 (X : Cx) (W : WX) (pos : Pos) (keys : List (Option Expr)) (values : List Expr) (trs : List (TE3 × TE3)) : Prop where
  run : PPs X pos keys values (lowPs X.prog X.w X.K W trs)
theorem pps3_nil {pos : Pos} : PPs3 X W pos [] [] [] := ⟨pps_nil⟩
theorem pps3_cons {pos : Pos} {k v : Expr} {ks : List (Option Expr)} {vs : List Expr} {tk tv : TE3} {trs : List (TE3 × TE3)} (hk : PE3 X W k tk) (hv : PE3 X W v tv) (hr : PPs3 X W pos ks vs trs) : PPs3 X W pos (some k :: ks) (v :: vs) ((tk, tv) :: trs) := ⟨pps_cons hk hv hr.run⟩
abbrev RepP (K : PySem.W.Frag) (T : T3) (H : Hp) : D × D → V × V → Prop := fun p q => Rep K T H p.1 q.1 ∧ Rep K T H p.2 q.2
theorem low_pairs {E : EX3} {σ : L2.St} {σ3 : St3} : ∀ (trs : List (TE3 × TE3)) {T : T3} {H : Hp} {R : List (D × D) → T3 → Prop} {Q : List (V × V) → Hp → Prop}, At X.prog X.w X.K (fun T H => Paired (RepP X.K T H)) W σ H Q E σ3 T R → pairs3 trs E σ3 T R → tPairs (lowPs X.prog X.w X.K W trs) σ H Q
  | [], T, H, R, Q, A, h => A.fin h .nil
  | (tk, tv) :: r, T, H, R, Q, A, h => by
    refine ⟨E, σ3, T, _, A.sub fun x T1 xv H1 A1 s1 h1 r1 => ?_, h⟩
    refine ⟨E, σ3, T1, _, A1.sub fun y T2 yv H2 A2 s2 h2 r2 => ?_, h1⟩
    exact low_pairs r (A2.sub fun ps T3 pv H3 A3 s3 h3 r3 => A3.fin h3 (.cons ⟨(r1.step s2).step s3, r2.step s3⟩ r3)) h2
def disp3 (ps : List (D × D)) : Option (List (D × D)) := ps.foldl (fun acc p => acc.bind fun kvs => (keyOf p.1).map fun k => putD3 kvs p.1 k p.2) (some [])
/-- {k: v, ..} -/
def t3Disp (trs : List (TE3 × TE3)) : TE3 := fun E σ T R => ∀ p, T p = none → pairs3 trs E σ (updT T p (.dct [])) fun ps T2 => T2 p = some (.dct []) ∧ ps.length ≤ 15 ∧ ∃ kvs, disp3 ps = some kvs ∧ R (.ref p) (updT T2 p (.dct kvs))
theorem disp_ok {K : PySem.W.Frag} {T : T3} {H : Hp} : ∀ {ps : List (D × D)} {pv : List (V × V)} {acc kvs : List (D × D)} {av : List (Key × V)}, Paired (RepP K T H) ps pv → Paired (KP K T H) acc av → ps.foldl (fun acc p => acc.bind fun kvs => (keyOf p.1).map fun k => putD3 kvs p.1 k p.2) (some acc) = some kvs →
    ∃ mv : List (Key × V), pv = mv.map (fun kv => (kV kv.1, kv.2)) ∧ mv.length = ps.length ∧ Paired (KP K T H) kvs (mergeK av mv)
  | [], _, acc, kvs, av, h, a, e => by cases h; cases e; exact ⟨[], rfl, rfl, a⟩
  | p :: ps, _, acc, kvs, av, h, a, e => by
    cases h with
    | @cons p q ps qs h1 h2 =>
      rw [List.foldl_cons] at e
      cases hk : keyOf p.1 with
      | none =>
        exfalso
        have e' : ps.foldl (fun acc p => acc.bind fun kvs => (keyOf p.1).map fun k => putD3 kvs p.1 k p.2) none = some kvs := by
          have : ((some acc).bind fun kvs => (keyOf p.1).map fun k => putD3 kvs p.1 k p.2) = none := by rw [hk]; rfl
          rw [this] at e; exact e
        have z : ∀ ps : List (D × D), ps.foldl (fun acc p => acc.bind fun kvs => (keyOf p.1).map fun k => putD3 kvs p.1 k p.2) (none : Option (List (D × D))) = none := fun ps => by
          induction ps with
          | nil => rfl
          | cons p ps ih => rw [List.foldl_cons]; exact ih
        rw [z] at e'; cases e'
      | some k =>
        have e' : ps.foldl (fun acc p => acc.bind fun kvs => (keyOf p.1).map fun k => putD3 kvs p.1 k p.2) (some (putD3 acc p.1 k p.2)) = some kvs := by
          have : ((some acc).bind fun kvs => (keyOf p.1).map fun k => putD3 kvs p.1 k p.2) = some (putD3 acc p.1 k p.2) := by rw [hk]; rfl
          rw [this] at e; exact e
        obtain ⟨mv, e1, e2, r⟩ := disp_ok h2 (kp_put a hk h1.2) e'
        refine ⟨(k, q.2) :: mv, ?_, by simp [e2], r⟩
        rw [List.map_cons, ← e1, ← key_rep h1.1 hk]
theorem pe3_disp {pos : Pos} {keys : List (Option Expr)} {values : List Expr} {trs : List (TE3 × TE3)} (h : PPs3 X W pos keys values trs) (hall : keys.all (·.isSome) = true := by rfl) (hl : keys.length = values.length := by rfl) (h0 : keys ≠ [] := by exact List.cons_ne_nil _ _)
    (h15 : keys.length ≤ 15 := by decide) : PE3 X W (.Dict keys values pos) (t3Disp trs) := PE.imp (pe_disp h.run hall hl h0 h15) fun σ H Q h => by
  obtain ⟨E, σ3, T, R, A, h⟩ := h
  intro p hp
  have st : Step T H (updT T p (.dct [])) (upd H p (.dK [])) := Step.new A.rh hp
  have A1 := A.next st (A.rh.upd st (.inl ⟨[], upd_same, .nil⟩))
  refine low_pairs trs (A1.sub fun ps T2 pv H2 A2 s2 h2 r2 => ?_) (h p (A.rh.free hp))
  obtain ⟨e1, hz, kvs, e2, hR⟩ := h2
  obtain ⟨kv, g, r⟩ := dct_at A2.rh ⟨e1, rfl⟩
  cases r
  obtain ⟨mv, e3, e4, rk⟩ := disp_ok r2 .nil e2
  refine ⟨g, mv, e3, by rw [e4]; exact hz, ?_⟩
  have st2 : Step T2 H2 (updT T2 p (.dct kvs)) (upd H2 p (.dK (mergeK [] mv))) := Step.write e1
  exact (A2.next st2 (A2.rh.upd st2 (.inl ⟨_, upd_same, Paired.mapP rk fun a b z => ⟨z.1, z.2.step st2⟩⟩))).fin hR (.ref p)
/-- {} -/
def t3DNew : TE3 := fun _ _ T R => ∀ p, T p = none → R (.ref p) (updT T p (.dct []))
theorem pe3_dnew {pos : Pos} : PE3 X W (.Dict [] [] pos) t3DNew := PE.imp pe_dnewK fun σ H Q h => by
  obtain ⟨E, σ3, T, R, A, h⟩ := h
  intro p hp
  have st : Step T H (updT T p (.dct [])) (upd H p (.dK [])) := Step.new A.rh hp
  exact (A.next st (A.rh.upd st (.inl ⟨[], upd_same, .nil⟩))).fin (h p (A.rh.free hp)) (.ref p)
/-! ### truth -/
/-- a value's truth -/
structure Tru3 (T : T3) (x : D) (b : Bool) : Prop where
  is : match x with
    | .non => b = false
    | .bl k => b = k
    | .int i => b = (i != 0)
    | .str z => z.length ≤ sizeLine ∧ b = ((z.length : Int) != 0)
    | .tup xs => b = !xs.isEmpty
    | .ref p => (∃ xs, itemsOf T p = some xs ∧ b = !xs.isEmpty) ∨ (∃ kvs, Dct T p kvs ∧ b = !kvs.isEmpty)
    | _ => False
theorem isEmpty_len {α β : Type} {xs : List α} {ys : List β} (h : xs.length = ys.length) : xs.isEmpty = ys.isEmpty := by
  cases xs <;> cases ys <;> first | rfl | cases h
theorem truV_of {T : T3} {H : Hp} {x : D} {v : V} {b : Bool} (rh : RepH X.prog X.w X.K T H) (r : Rep X.K T H x v) (t : Tru3 T x b) : TruV X.K v H b := by
  have t := t.is
  cases r with
  | non => exact t
  | bl k => exact t
  | int i => exact t
  | str z => exact t
  | tup q _ rl => exact .inr (.inl ⟨_, q, by rw [← isEmpty_len rl.length]; exact t⟩)
  | ref p =>
    rcases t with ⟨xs, e, t⟩ | ⟨kvs, e, t⟩
    · obtain ⟨vs, q, rl⟩ := items_sq rh e
      exact .inl ⟨vs, q, by rw [← isEmpty_len rl.length]; exact t⟩
    · obtain ⟨kv, g, rk⟩ := dct_at rh e
      exact .inr (.inr ⟨kv, g, by rw [← isEmpty_len (Paired.length rk)]; exact t⟩)
  | ob _ _ _ => exact t.elim
  | exc _ _ _ => exact t.elim
  | lam _ _ _ => exact t.elim
def t3OrT (ta tb : TE3) : TE3 := fun E σ T R => ta E σ T fun x T1 => ∃ b, Tru3 T1 x b ∧ Br b (R x T1) (tb E σ T1 R)
theorem pe3_orT {a b : Expr} {rest : List Expr} {ta tb : TE3} {pos : Pos} (ha : PE3 X W a ta) (hb : PE3 X W (.BoolOp .Or (b :: rest) pos) tb) : PE3 X W (.BoolOp .Or (a :: b :: rest) pos) (t3OrT ta tb) := PE.imp (pe_orT ha hb) fun σ H Q h => by
  obtain ⟨E, σ3, T, R, A, h⟩ := h
  refine ⟨E, σ3, T, _, A.sub fun x T1 v H1 A1 s1 h1 r1 => ?_, h⟩
  obtain ⟨k, t, h2⟩ := h1
  refine ⟨k, truV_of A1.rh r1 t, ?_⟩
  cases k with
  | true => simp only [if_true]; exact A1.fin (h2.tt rfl) r1
  | false => simp only [Bool.false_eq_true, if_false]; exact ⟨E, σ3, T1, R, A1, h2.ff rfl⟩
/-- as a test -/
def t3Tru (t : TE3) : Rd3 Bool := fun E σ T R => t E σ T fun d T1 => ∃ b, Tru3 T1 d b ∧ R b T1
theorem pt3_tru {e : Expr} {t : TE3} (h : PE3 X W e t) (he : ∀ whole, isTrue e X.env whole = (do let v ← whole; standAt e.pos; holding [v] (truthy v)) := by intro _; rfl) : PT3 X W e (t3Tru t) := by
  refine PT.imp (pt_truth h he) fun σ H Q h => ?_
  obtain ⟨E, σ3, T, R, A, h⟩ := h
  refine ⟨E, σ3, T, _, A.sub fun d T1 v H1 A1 s1 h1 r1 => ?_, h⟩
  obtain ⟨b, t, h2⟩ := h1
  exact ⟨b, truV_of A1.rh r1 t, A1.fin h2 rfl⟩
end
end L3
namespace L3
open PySem PySem.Spec L2
open PyProof.Rows hiding St
/-! ### short words for readings -/
theorem Sub.new {A B : T3} {q : Addr} {o : O} (s : Sub A B) (h : A q = Option.none) : Sub A (updT B q o) := fun a => by
  by_cases e : a = q
  · exact .inl (by rw [e]; exact h)
  · rw [updT_ne e]; exact s a
def SubBut (p : Addr) (A B : T3) : Prop := ∀ a, a ≠ p → A a = Option.none ∨ A a = B a
theorem Sub.but {A B : T3} {p : Addr} (s : Sub A B) : SubBut p A B := fun a _ => s a
theorem SubBut.new {A B : T3} {p q : Addr} {o : O} (s : SubBut p A B) (h : A q = Option.none) : SubBut p A (updT B q o) := fun a ha => by
  by_cases e : a = q
  · exact .inl (by rw [e]; exact h)
  · rw [updT_ne e]; exact s a ha
theorem SubBut.own {A B : T3} {p : Addr} {o : O} (s : SubBut p A B) : SubBut p A (updT B p o) := fun a ha => by
  rw [updT_ne ha]; exact s a ha
theorem SubBut.put {A B : T3} {p : Addr} {o : O} (s : SubBut p A B) : Sub (updT A p o) (updT B p o) := fun a => by
  by_cases e : a = p
  · rw [e, updT_same, updT_same]; exact .inr rfl
  · rw [updT_ne e, updT_ne e]; exact s a e
theorem Lv.to {R : D → T3 → Prop} {d : D} {T T' : T3} (s : Sub T T') (h : R d T) : Lv R d T' := ⟨T, s, h⟩
theorem LvE.to {E : EX3} {c : Str} {fs : List (Str × D)} {T T' : T3} (s : Sub T T') (h : E c fs T) : LvE E c fs T' := ⟨T, s, h⟩
theorem updT_none {T : T3} {p q : Addr} {o : O} (h : updT T p o q = none) : T q = none ∧ q ≠ p := by
  by_cases e : q = p
  · rw [e, updT_same] at h; cases h
  · rw [updT_ne e] at h; exact ⟨h, e⟩
theorem updT_none' {T : T3} {p q : Addr} {o : O} (h : T q = none) (e : q ≠ p) : updT T p o q = none := by rw [updT_ne e]; exact h
theorem seqOf_upd {T : T3} {p : Addr} {o : O} (hp : itemsOf T p = none) : ∀ {d : D} {ys : List D}, seqOf T d = some ys → seqOf (updT T p o) d = some ys
  | .tup _, _, h => h
  | .ref q, _, h => by
    have ne : q ≠ p := fun z => by rw [z] at h; rw [show itemsOf T p = some _ from h] at hp; cases hp
    show itemsOf (updT T p o) q = _
    unfold itemsOf
    rw [updT_ne ne]
    exact h
  | .non, _, h => by cases h
  | .bl _, _, h => by cases h
  | .int _, _, h => by cases h
  | .str _, _, h => by cases h
  | .ob _ _, _, h => by cases h
  | .exc _ _ _ _, _, h => by cases h
  | .lam _ _ _ _ _, _, h => by cases h
theorem items_none {T : T3} {p : Addr} (h : T p = none) : itemsOf T p = none := by unfold itemsOf; rw [h]
theorem items_ins {T : T3} {p : Addr} {c : Str} {fs : List (Str × D)} (h : T p = some (.ins c fs)) : itemsOf T p = none := by unfold itemsOf; rw [h]
/-- a getter: return self.f -/
def spGet (K : PySem.W.Frag) (f : Str) : Sp3 := fun ds T R _ => ∃ x d, ds = [x] ∧ Fld K T x f d ∧ R d T
theorem Fld.ob {K : PySem.W.Frag} {T : T3} {c f : Str} {fs : List (Str × D)} {d : D} (ok : FldOk K c f) (h : fs.lookup f = some d) : Fld K T (.ob c fs) f d := ⟨⟨c, fs, rfl, ok, h⟩⟩
/-! ### T' tells of the same lists, dicts, instances (a dict, an instance may have changed within) -/
structure Sim (T T' : T3) : Prop where
  items : ∀ p xs, itemsOf T p = some xs → itemsOf T' p = some xs
  dct : ∀ p kvs, Dct T p kvs → ∃ kvs', Dct T' p kvs'
  ins : ∀ p c fs, T p = some (.ins c fs) → ∃ fs', T' p = some (.ins c fs')
theorem Sim.refl (T : T3) : Sim T T := ⟨fun _ _ h => h, fun _ _ h => ⟨_, h⟩, fun _ _ _ h => ⟨_, h⟩⟩
theorem Sim.trans {T T1 T2 : T3} (a : Sim T T1) (b : Sim T1 T2) : Sim T T2 := ⟨fun p xs h => b.items p xs (a.items p xs h), fun p kvs h => let ⟨k, q⟩ := a.dct p kvs h; b.dct p k q, fun p c fs h => let ⟨k, q⟩ := a.ins p c fs h; b.ins p c k q⟩
theorem Ext.sim {T T' : T3} (x : Ext T T') : Sim T T' := ⟨fun _ _ h => itemsOf_ext x h, fun _ _ h => ⟨_, x _ _ h.at_, h.keys⟩, fun _ _ _ h => ⟨_, x _ _ h⟩⟩
theorem Sim.new {T : T3} {p : Addr} {o : O} (h : T p = none) : Sim T (updT T p o) := (Ext.new h).sim
theorem Sim.putD {T : T3} {p : Addr} {kvs kvs' : List (D × D)} (d : Dct T p kvs) (h : (kvs'.all fun q => (keyOf q.1).isSome) = true) : Sim T (updT T p (.dct kvs')) := by
  have hn : itemsOf T p = none := by unfold itemsOf; rw [d.at_]
  refine ⟨fun q xs e => ?_, fun q k e => ?_, fun q c fs e => ?_⟩
  · have ne : q ≠ p := fun z => by rw [z, hn] at e; cases e
    unfold itemsOf at e ⊢
    rw [updT_ne ne]; exact e
  · by_cases z : q = p
    · subst z; exact ⟨kvs', updT_same, h⟩
    · exact ⟨k, by rw [updT_ne z]; exact e.at_, e.keys⟩
  · have ne : q ≠ p := fun z => by rw [z, d.at_] at e; cases e
    exact ⟨fs, by rw [updT_ne ne]; exact e⟩
theorem seqOf_sim {T T' : T3} (x : Sim T T') : ∀ {d : D} {xs : List D}, seqOf T d = some xs → seqOf T' d = some xs
  | .tup _, _, h => h
  | .ref _, _, h => x.items _ _ h
  | .non, _, h => by cases h
  | .bl _, _, h => by cases h
  | .int _, _, h => by cases h
  | .str _, _, h => by cases h
  | .ob _ _, _, h => by cases h
  | .exc _ _ _ _, _, h => by cases h
  | .lam _ _ _ _ _, _, h => by cases h
theorem Typed.sim {K : PySem.W.Frag} {T T' : T3} (x : Sim T T') : ∀ {d : D}, Typed K T d → Typed K T' d
  | .ref p, h => by
    rcases h with ⟨xs, h⟩ | ⟨kvs, h⟩ | ⟨c, fs, h, n⟩
    · exact .inl ⟨xs, x.items _ _ h⟩
    · obtain ⟨k, q⟩ := x.dct _ _ h
      exact .inr (.inl ⟨k, q⟩)
    · obtain ⟨k, q⟩ := x.ins _ _ _ h
      exact .inr (.inr ⟨c, k, q, n⟩)
  | .ob _ _, h => h
  | .exc _ _ _ _, h => h
  | .lam _ _ _ _ _, h => h
  | .non, _ => trivial
  | .bl _, _ => trivial
  | .int _, _ => trivial
  | .str _, h => h
  | .tup _, _ => trivial
theorem seqOf_typed {K : PySem.W.Frag} {T T' : T3} (xe : Sim T T') : ∀ {d : D}, Typed K T d → seqOf T' d = seqOf T d
  | .tup _, _ => rfl
  | .ref p, h => by
    cases e : seqOf T (.ref p) with
    | some xs => exact seqOf_sim xe e
    | none =>
      have e' : itemsOf T p = none := e
      rcases h with ⟨xs, h⟩ | ⟨kvs, h⟩ | ⟨c, fs, h, n⟩
      · rw [h] at e'; cases e'
      · obtain ⟨k, q⟩ := xe.dct _ _ h
        show itemsOf T' p = none
        unfold itemsOf; rw [q.at_]
      · obtain ⟨k, q⟩ := xe.ins _ _ _ h
        show itemsOf T' p = none
        unfold itemsOf; rw [q]
  | .non, _ => rfl
  | .bl _, _ => rfl
  | .int _, _ => rfl
  | .str _, _ => rfl
  | .ob _ _, _ => rfl
  | .exc _ _ _ _, _ => rfl
  | .lam _ _ _ _ _, _ => rfl
theorem atI_nat {α : Type} {xs : List α} {i : Int} {x : α} (h0 : 0 ≤ i) (h : xs[i.toNat]? = some x) : atI xs i = some x := by
  have hl := (List.getElem?_eq_some_iff.mp h).1
  unfold atI ixN
  rw [if_pos h0, if_pos (by omega)]
  exact h
theorem atI_in {α : Type} {xs : List α} {i : Int} (h0 : 0 ≤ i) (h1 : i < xs.length) : ∃ x ∈ xs, atI xs i = some x := by
  have hl : i.toNat < xs.length := by omega
  exact ⟨xs[i.toNat], List.getElem_mem hl, atI_nat h0 (List.getElem?_eq_getElem hl)⟩
theorem items_dct {T : T3} {p : Addr} {kvs : List (D × D)} (h : T p = some (.dct kvs)) : itemsOf T p = none := by unfold itemsOf; rw [h]
/-! ### comprehensions whose elements change what is tracked -/
theorem comp3_inv {g : TG3} {te : TE3} {σ : St3} {G : T3 → Prop} {p : Addr} {R : D → T3 → Prop} (J : List D → T3 → Prop) {xs : List D} {T0 : T3} (hz : xs.length ≤ sizeLine) (hG : ∀ acc T, J acc T → G T) (h0 : J [] T0)
    (hx : ∀ x ∈ xs, ∀ acc T, acc.length < xs.length → J acc T → ∀ (A : D → T3 → Prop) (B : T3 → Prop), (∀ y T', T' p = some (.lst acc) → J (acc ++ [y]) (updT T' p (.lst (acc ++ [y]))) → A y T') →
      g noE x σ T fun σ2 T2 => t3Yes noE σ2 T2 fun b T3 => Br b (te noE σ2 T3 A) (B T3))
    (k : ∀ acc T, acc.length = xs.length → J acc T → R (.ref p) T) : comp3 g t3Yes te σ G p R xs T0 := by
  have key : ∀ (zs : List D) acc T, (∀ y ∈ zs, y ∈ xs) → acc.length + zs.length = xs.length → J acc T → comp3 g t3Yes te σ G p R zs T := by
    intro zs
    induction zs with
    | nil => intro acc T _ hl j; exact comp3_nil (hG _ _ j) (k acc T (by simpa using hl) j)
    | cons y zs ih =>
      intro acc T hm hl j
      rw [List.length_cons] at hl
      refine comp3_cons (hG _ _ j) (hx y (hm y (List.mem_cons_self ..)) acc T (by omega) j _ _ fun v T' e j' => ?_)
      exact ⟨acc, e, by omega, ih _ _ (fun z hz => hm z (List.mem_cons_of_mem _ hz)) (by rw [List.length_append, List.length_singleton]; omega) j'⟩
  exact key xs [] T0 (fun _ h => h) (by simp) h0
theorem rangeD_len {lo : Int} {n : Nat} : (rangeD lo n).length = n := by simp [rangeD]
/-- all but what stands at a is kept -/
def ExtB (a : Addr) (T T' : T3) : Prop := ∀ b o, b ≠ a → T b = some o → T' b = some o
theorem ExtB.refl (a : Addr) (T : T3) : ExtB a T T := fun _ _ _ h => h
theorem ExtB.trans {a : Addr} {T T1 T2 : T3} (x : ExtB a T T1) (y : ExtB a T1 T2) : ExtB a T T2 := fun b o h e => y b o h (x b o h e)
theorem Ext.b {a : Addr} {T T' : T3} (x : Ext T T') : ExtB a T T' := fun b o _ e => x b o e
theorem ExtB.at_ {a : Addr} {T : T3} {o : O} : ExtB a T (updT T a o) := fun b u h e => by rw [updT_ne h]; exact e
theorem ExtB.none {a p : Addr} {T T' : T3} (x : ExtB a T T') (h : T' p = Option.none) (hp : p ≠ a) : T p = Option.none := by
  cases e : T p with
  | none => rfl
  | some o => rw [x _ _ hp e] at h; cases h
theorem ExtB.sim {a : Addr} {T T' : T3} {kvs kvs' : List (D × D)} (x : ExtB a T T') (d : Dct T a kvs) (d' : Dct T' a kvs') : Sim T T' := by
  have hn : itemsOf T a = Option.none := items_dct d.at_
  refine ⟨fun q xs e => ?_, fun q k e => ?_, fun q c fs e => ?_⟩
  · have ne : q ≠ a := fun z => by rw [z, hn] at e; cases e
    unfold itemsOf at e ⊢
    cases h : T q with
    | none => rw [h] at e; cases e
    | some o => rw [x q o ne h, ← h]; exact e
  · by_cases z : q = a
    · subst z; exact ⟨_, d'⟩
    · exact ⟨k, x _ _ z e.at_, e.keys⟩
  · have ne : q ≠ a := fun z => by rw [z, d.at_] at e; cases e
    exact ⟨fs, x _ _ ne e⟩
theorem alloc {T : T3} {p : Addr} (o : O) (h : T p = none) : ∃ T', updT T p o = T' ∧ Ext T T' ∧ T' p = some o := ⟨_, rfl, Ext.new h, updT_same⟩
theorem items_lst {T : T3} {p : Addr} {xs : List D} (h : T p = some (.lst xs)) : itemsOf T p = some xs := by unfold itemsOf; rw [h]
/-- a value whose items are known -/
def Ty1 (K : PySem.W.Frag) (T : T3) (d : D) : Prop := Typed K T d ∧ ∀ xs, seqOf T d = some xs → ∀ x ∈ xs, Typed K T x
theorem Ty1.lst {K : PySem.W.Frag} {T : T3} {p : Addr} {xs : List D} (h : itemsOf T p = some xs) (k : ∀ x ∈ xs, Typed K T x) : Ty1 K T (.ref p) := ⟨.inl ⟨xs, h⟩, fun ys e => by
  have e' : itemsOf T p = some ys := e
  rw [h] at e'; cases e'; exact k⟩
theorem Ty1.tup {K : PySem.W.Frag} {T : T3} {xs : List D} (k : ∀ x ∈ xs, Typed K T x) : Ty1 K T (.tup xs) := ⟨trivial, fun ys e => by cases e; exact k⟩
theorem Ty1.flat {K : PySem.W.Frag} {T : T3} {d : D} (t : Typed K T d) (h : seqOf T d = none) : Ty1 K T d := ⟨t, fun ys e => by rw [h] at e; cases e⟩
/-- what T' tells of objects that T does not know -/
def News (T T' : T3) : T3 := fun x => match T x with
  | none => T' x
  | some _ => none
theorem News.at_ {T T' : T3} {p : Addr} (h : T p = none) : News T T' p = T' p := by unfold News; rw [h]
theorem News.old {T T' : T3} {p : Addr} {o : O} (h : T p = some o) : News T T' p = none := by unfold News; rw [h]
theorem News.ext (T T' : T3) : Ext (News T T') T' := fun x o h => by
  cases e : T x with
  | none => rw [News.at_ e] at h; exact h
  | some u => rw [News.old e] at h; cases h
theorem News.items {T T' : T3} {p : Addr} {xs : List D} (h : T p = none) (e : itemsOf T' p = some xs) : itemsOf (News T T') p = some xs := by
  unfold itemsOf at e ⊢
  rw [News.at_ h]; exact e
theorem News.dct {T T' : T3} {p : Addr} {kvs : List (D × D)} (h : T p = none) (e : Dct T' p kvs) : Dct (News T T') p kvs := ⟨by rw [News.at_ h]; exact e.at_, e.keys⟩
/-- two that do not overlap, both within T -/
def Both (S N : T3) : T3 := fun x => match S x with
  | some o => some o
  | none => N x
theorem Both.left (S N : T3) : Ext S (Both S N) := fun x o h => by unfold Both; rw [h]
theorem Both.right {S N T : T3} (hs : Ext S T) (hn : Ext N T) : Ext N (Both S N) := fun x o h => by
  unfold Both
  cases e : S x with
  | none => exact h
  | some u => exact (hs x u e).symm.trans (hn x o h)
theorem Both.ext {S N T : T3} (hs : Ext S T) (hn : Ext N T) : Ext (Both S N) T := fun x o h => by
  unfold Both at h
  cases e : S x with
  | none => rw [e] at h; exact hn x o h
  | some u => rw [e] at h; cases h; exact hs x o e
theorem Both.none {S N : T3} {x : Addr} (h1 : S x = Option.none) (h2 : N x = Option.none) : Both S N x = Option.none := by unfold Both; rw [h1]; exact h2
theorem Ext.upd {S T : T3} {p : Addr} {o : O} (x : Ext S T) (h : S p = Option.none) : Ext S (updT T p o) := fun b u e => by
  rw [updT_ne (fun z => by rw [z, h] at e; cases e)]; exact x b u e
theorem Ext.exb {S T T' : T3} {a : Addr} (x : Ext S T) (h : S a = Option.none) (y : ExtB a T T') : Ext S T' := fun b u e => y b u (fun z => by rw [z, h] at e; cases e) (x b u e)
/-- a loop, by what holds before each turn -/
theorem loop3_inv {g : TG3} {tb : TS3} {G : T3 → Prop} {D' : Ends3} (J : Nat → St3 → T3 → Prop) {xs : List D} {σ : St3} {T : T3} (hG : ∀ k σ T, J k σ T → G T) (h0 : J 0 σ T)
    (hb : ∀ k x σ T (N : St3 → T3 → Prop), xs[k]? = some x → J k σ T → (∀ σ' T', J (k + 1) σ' T' → N σ' T') → g noE x σ T fun σ2 T2 => tb { D' with nx := N, ct := N, bk := D'.nx } σ2 T2) (he : ∀ σ T, J xs.length σ T → D'.nx σ T) : loop3 g tb G D' xs σ T := by
  have key : ∀ (zs : List D) (k : Nat) σ T, k ≤ xs.length → xs.drop k = zs → J k σ T → loop3 g tb G D' zs σ T := by
    intro zs
    induction zs with
    | nil =>
      intro k σ T hkl e j
      have hk : k = xs.length := Nat.le_antisymm hkl (List.drop_eq_nil_iff.mp e)
      exact loop3_nil (hG _ _ _ j) (he σ T (by rw [← hk]; exact j))
    | cons y zs ih =>
      intro k σ T hkl e j
      have hy : xs[k]? = some y := by
        have := congrArg List.head? e
        rw [List.head?_drop] at this
        exact this
      have er : xs.drop (k + 1) = zs := by rw [← List.drop_drop, e]; rfl
      exact loop3_cons (hG _ _ _ j) (hb k y σ T _ hy j fun σ' T' j' => ih (k + 1) σ' T' (List.getElem?_eq_some_iff.mp hy).1 er j')
  exact key xs 0 σ T (Nat.zero_le _) (by simp) h0
end L3
namespace L3
open PySem PySem.Spec L2
open PyProof.Rows hiding St
/-! ### calls with keywords alone, in the parameters' order -/
def PK3 (X : Cx) (W : WX) (kws : List Keyword) (t : Rd3 (List D)) : Prop := PK X kws (low X.prog X.w X.K (RepL X.K) W t)
theorem PK.imp {X : Cx} {es : List Keyword} {t u : TA} (h : PK X es t) (i : ∀ σ H Q, u σ H Q → t σ H Q) : PK X es u := ⟨fun pos pins s σ H Q I hw => h.run pos pins s σ H Q I (i σ H Q hw)⟩
section
variable {X : Cx} {W : WX} {e : Expr} {kws : List Keyword} {kpos : Pos} {nm : Option Str} {te : TE3} {t : Rd3 (List D)}
theorem pk3_nil : PK3 X W [] t3Nil := PK.imp pk_nil fun σ H Q h => by
  obtain ⟨E, σ3, T, R, A, h⟩ := h
  exact A.fin h .nil
theorem pk3_cons (ha : PE3 X W e te) (hr : PK3 X W kws t) : PK3 X W (⟨nm, e, kpos⟩ :: kws) (t3Cons te t) := PK.imp (pk_cons ha hr) low_cons
end
abbrev KwIn (K : PySem.W.Frag) (fd : FuncData) (ps : List Str) (n : Nat) (ks : List Str) : Prop := KBn K fd ps n ks (fun us ws => us ++ ws) (fun vs zs => vs ++ zs)
theorem kw_of {K : PySem.W.Frag} {x qual : Str} {params : Arguments} {body : List Stmt} {scope : Scope} {f : Addr} {fd : FuncData} {ps ks : List Str} {n : Nat} (F : FunD K x qual params body scope [] [] f fd)
    (h : ∀ (kV doc pm : Value) (an : Option Addr) (cdv ct : Value) (us ws : List Value), us.length = n → ws.length = ks.length → bindArgs (PySem.W.fnOf x qual params body scope .none kV doc pm an cdv ct) ⟨us, ks.zip ws⟩ = pure (ps.zip (us ++ ws))) : KwIn K fd ps n ks := by
  obtain ⟨oc, od, dV, kV, doc, pm, an, cdv, ct, osl, rfl, lk, hcd, hD, hK⟩ := F.ex
  rcases hD with ⟨_, rfl⟩ | ⟨e, _⟩
  · exact ⟨fun s us ws _ l1 l2 => .of_eq (h kV doc pm an cdv ct us ws l1 l2), fun r1 r2 => Vals.append r1 r2⟩
  · exact absurd rfl e
structure DkOk (P : Program) (w : World) (K : PySem.W.Frag) (mg : Str → Option Value) (base : Heap) (x : Str) (k : Nat) (ps ks : List Str) (sp : Sp3) : Prop where
  ex : ∃ (f : Addr) (fd : FuncData), mg x = some (.ref f) ∧ PySem.W.keepIn K (.ref f) = true ∧ KwIn K fd ps 0 ks ∧ Fn3 P w K mg base k f fd ps sp
structure CkOk (P : Program) (w : World) (K : PySem.W.Frag) (mg : Str → Option Value) (base : Heap) (c : Str) (k : Nat) (ps ks : List Str) (sp : Sp3) : Prop where
  ex : ∃ (f : Addr) (fd : FuncData), Mk K (He.ga K c) f ∧ mg c = some (.ref (He.ga K c)) ∧ KwIn K fd ps 1 ks ∧ Fn3 P w K mg base k f fd ps sp
section
variable {X : Cx} {W : WX} {EX : XK} {k : Nat} {ps ks : List Str} {sp : Sp3} {c x : Str} {p pos : Pos} {kws : List Keyword} {t : Rd3 (List D)}
def t3CallK (n : Nat) (sp : Sp3) (t : Rd3 (List D)) : TE3 := fun E σ T R => t E σ T fun ds T1 => ds.length = n ∧ Go sp ds T1 R E
theorem pe3_callK (F : DkOk X.prog X.w X.K X.mg X.base x k ps ks sp) (tk : Takes X (wE EX)) (hr : Room k X.A) (hg : Gl X x) (hkw : PK3 X (wE EX) kws t) (hall : (backToKw pos (keywordEach kws X.env)).all (·.1.isSome) = true := by rfl) (hks : (backToKw pos (keywordEach kws X.env)).filterMap (·.1) = ks := by rfl) (hdb : (x == ("__debug__" : Str)) = false := by decide)
    (hpl : ((backTo pos (starEach [] X.env)).any (·.1) || (backToKw pos (keywordEach kws X.env)).any (·.1.isNone)) = false := by rfl) : PE3 X (wE EX) (.Call (.Name x p) [] kws pos) (t3CallK ks.length sp t) := by
  obtain ⟨f, fd, hm, hk, hb, F⟩ := F.ex
  refine ⟨fun pins s σ H Q I h => ?_⟩
  obtain ⟨E, σ3, T, R, A, h⟩ := h
  refine wpAny_Call_Name_kw (ld_glob I hg hm ?_ hdb)
  refine PySem.W.callWith_KW0 (h₀ := X.base) I.ok.mod.kin hk hall ?_ hpl
  refine thn (hkw.run pos pins s σ H (fun vs H1 => vs.length = ks.length ∧ lowSp X.prog X.w X.K sp vs H1 Q EX) I ⟨E, σ3, T, _, A.sub fun ds T1 vs H1 A1 s1 h1 r1 => ⟨by rw [← r1.length]; exact h1.1, ds, T1, R, E, r1, A1.rh, A1.q, A1.x, h1.2.run⟩, h⟩) fun ws s2 ⟨zs, H2, I2, rz, l2, q2⟩ => ⟨I2.kIn, ?_⟩
  rw [hks]
  exact run_fnN (us := []) (vs := []) F hr hb (passes_call tk fun _ _ _ _ h => h) I2 .nil rz rfl l2 q2
def t3MakeK (n : Nat) (c : Str) (sp : Sp3) (t : Rd3 (List D)) : TE3 := fun E σ T R => t E σ T fun ds T1 => ds.length = n ∧ ∀ p, T1 p = none → Go sp (.ref p :: ds) (updT T1 p (.ins c [])) (fun v T2 => v = .non ∧ R (.ref p) T2) E
theorem pe3_makeK (F : CkOk X.prog X.w X.K X.mg X.base c k ps ks sp) (tk : Takes X (wE EX)) (hr : Room (k + 1) X.A) (hg : Gl X c) (hkw : PK3 X (wE EX) kws t) (hall : (backToKw pos (keywordEach kws X.env)).all (·.1.isSome) = true := by rfl) (hks : (backToKw pos (keywordEach kws X.env)).filterMap (·.1) = ks := by rfl) (hdb : (c == ("__debug__" : Str)) = false := by decide)
    (hpl : ((backTo pos (starEach [] X.env)).any (·.1) || (backToKw pos (keywordEach kws X.env)).any (·.1.isNone)) = false := by rfl) : PE3 X (wE EX) (.Call (.Name c p) [] kws pos) (t3MakeK ks.length c sp t) := by
  obtain ⟨f, fd, M, hm, hb, F⟩ := F.ex
  refine PE.imp (pe_makeK0 (E := EX) M F hr hg hm hb (passes_call tk fun _ _ _ _ h => h) hkw hall hks hdb hpl) fun σ H Q h => ?_
  obtain ⟨E, σ3, T, R, A, h⟩ := h
  refine ⟨E, σ3, T, _, A.sub fun ds T1 vs H1 A1 s1 h1 r1 => ?_, h⟩
  refine ⟨rfl, by rw [← r1.length]; exact h1.1, fun x dx hx hdx ne => ?_⟩
  have s0 : Step T1 H1 T1 (L2.upd H1 dx (.own x)) := Step.newU hdx
  have rh0 := A1.rh.newU (o' := .own x) hdx
  have hx0 : L2.upd H1 dx (.own x) x = none := by rw [L2.upd_ne (Ne.symm ne)]; exact hx
  have s2 : Step T1 (L2.upd H1 dx (.own x)) (updT T1 x (.ins c [])) (L2.upd (L2.upd H1 dx (.own x)) x (.ins (He.ga X.K c) dx [])) := Step.new rh0 hx0
  have rh2 := rh0.upd s2 ⟨dx, [], L2.upd_same, .nil⟩
  have st := s0.trans s2
  have A2 := A1.next st rh2
  refine ⟨.ref x :: ds, _, _, E, .cons (.ref x) (r1.step st), rh2, fun d T' v H' h2 s3 rh3 r3 => ?_, A2.x, (h1.2 x (A1.rh.free hx)).run⟩
  obtain ⟨rfl, hR⟩ := h2
  cases r3
  exact ⟨rfl, (A2.next s3 rh3).fin hR (.ref x)⟩
end
/-! ### == of instances of classes without an __eq__ -/
structure CmpC (K : PySem.W.Frag) (C : Addr) : Prop where
  ex : ∃ (nm q : Str) (N : Addr) (bs : List Value) (hdct : Bool) (sn : List Str) (sub : List Value) (ab : Bool) (col : Option Bool) (dd : Option Addr) (k0 k1 k2 k3 k5 : Option Value) (newId : String),
    K.lookup C = some (excClassObj nm q C N bs [.type "object"] hdct sn sub ab col dd k0 k1 k2 k3 k5 newId) ∧ PySem.W.nsOkIn K N = true ∧ PySem.W.nsIn K N "__eq__" = some none ∧ PySem.W.nsIn K N "__ne__" = some none
section
variable {X : Cx} {W : WX}
theorem cmp_inst {pins : List (Addr × Obj)} {σ : L2.St} {H : Hp} {s : Shared} {T : T3} {p : Addr} {c : Str} {fs : List (Str × D)} (I : Inv X pins σ H s) (rh : RepH X.prog X.w X.K T H) (e : T p = some (.ins c fs)) (k : CmpC X.K (He.ga X.K c)) : s.heap.CmpInst p (He.ga X.K c) [.type "object"] := by
  obtain ⟨dx, gs, h, rf⟩ := rh p _ e
  obtain ⟨mA, O, _⟩ := ins_get I.hok h
  obtain ⟨od, J, _⟩ := O.look
  obtain ⟨nm, q, N, bs, hdct, sn, sub, ab, col, dd, k0, k1, k2, k3, k5, newId, e1, e2, e3, e4⟩ := k.ex
  exact ⟨_, nm, q, N, bs, hdct, sn, sub, ab, col, dd, k0, k1, k2, k3, k5, newId, _, J.at_, J.cls, I.kIn _ _ e1, .of_isNs (PySem.W.isNs_of_in I.kIn e2), PySem.W.nsMap_none_of_in I.kIn e2 e3, PySem.W.nsMap_none_of_in I.kIn e2 e4⟩
def eqIR (K : PySem.W.Frag) : R23 := fun x y T R => match x, y with
  | .ref p, .ref q => ∃ c fs c' fs', T p = some (.ins c fs) ∧ T q = some (.ins c' fs') ∧ CmpC K (He.ga K c) ∧ CmpC K (He.ga K c') ∧ R (.bl (decide (p = q))) T
  | _, _ => False
theorem o3_eqI (hu : X.A.units + 64 < cLine) : OpR3 X (compareOp .Eq) (eqIR X.K) := by
  intro pins s σ H x y v u Q I rx ry hh
  obtain ⟨d, e, T, R, rh, rd, re, qc, hr⟩ := hh
  unfold eqIR at hr
  split at hr
  · next p q =>
    cases rd; cases re
    obtain ⟨c, fs, c', fs', e1, e2, k1, k2, hR⟩ := hr
    obtain rfl : v = .ref p := rx
    obtain rfl : u = .ref q := ry
    have C1 := cmp_inst I rh e1 k1
    have C2 := cmp_inst I rh e2 k2
    by_cases z : p = q
    · subst z
      rw [decide_eq_true rfl] at hR
      obtain ⟨hh, g, dr, t, os⟩ := s
      exact compareOp_eq_same F.cmp_object C1 (by omega) ⟨.bl true, H, I, rfl, qc.fin rh hR (.bl _)⟩
    · rw [decide_eq_false z] at hR
      obtain ⟨hh, g, dr, t, os⟩ := s
      exact compareOp_eq_other F.cmp_object F.cmp_object C1 C2 z (by omega) ⟨.bl false, H, I, rfl, qc.fin rh hR (.bl _)⟩
  · exact hr.elim
end
/-! ### != where one of two lists is empty -/
section
variable {X : Cx} {W : WX}
def neER : R23 := fun x y T R => match x, y with
  | .ref p, .ref q => ∃ xs, itemsOf T p = some xs ∧ itemsOf T q = some [] ∧ R (.bl (!xs.isEmpty)) T
  | _, _ => False
theorem o3_neE (hu : X.A.units + 64 < cLine) : OpR3 X (compareOp .NotEq) neER := by
  intro pins s σ H x y v u Q I rx ry hh
  obtain ⟨d, e, T, R, rh, rd, re, qc, hr⟩ := hh
  unfold neER at hr
  split at hr
  · next p q =>
    cases rd; cases re
    obtain ⟨xs, e1, e2, hR⟩ := hr
    cases rx; cases ry
    obtain ⟨vs, q1, r1⟩ := items_sq rh e1
    obtain ⟨ws, q2, r2⟩ := items_sq rh e2
    obtain ⟨its, rv, pl, _⟩ := I.list q1
    obtain ⟨its', rw', pl', _⟩ := I.list q2
    have n1 : its.toArray.size = xs.length := by rw [r1.length, rv.length]; simp
    have hws := sq_nil r2
    subst hws
    cases rw'
    have n2 : (([] : List Value).toArray).size = 0 := rfl
    have key : SeqAt.RcNeAt X.A s (.ref p) (.ref q) (!xs.isEmpty) := by
      cases xs with
      | nil =>
        have z : its.toArray.size = 0 := n1
        have := SeqAt.RcNeAt.lists (A := X.A) (s := s) (e := fun _ => true) pl.isList pl'.isList (by rw [z, n2]) (by omega) (fun i hi => by omega)
        rw [z] at this
        exact this
      | cons x xs =>
        have := SeqAt.RcNeAt.lists_lengths (A := X.A) (s := s) pl.isList pl'.isList (by rw [n1, n2]; simp) (by omega)
        exact this
    exact key _ _ _ _ ⟨.bl _, H, I, rfl, qc.fin rh hR (.bl _)⟩
  · exact hr.elim
end
/-! ### repr of data without lists -/
mutual
def pd : D → Option PyData
  | .non => some .none
  | .bl b => some (.bool b)
  | .int i => some (.int i)
  | .str x => some (.str x)
  | .tup ds => (pdL ds).map .tuple
  | _ => none
def pdL : List D → Option (List PyData)
  | [] => some []
  | d :: ds => (pd d).bind fun x => (pdL ds).map (x :: ·)
end
section
variable {X : Cx} {pins : List (Addr × Obj)} {σ : L2.St} {H : Hp} {s : Shared} {T : T3}
mutual
theorem reads_of (I : Inv X pins σ H s) : ∀ {d : D} {v : V} {u : Value} {p : PyData}, Rep X.K T H d v → RelV v u → pd d = some p → ∃ as, Reads s.heap u p as
  | .non, _, _, _, .non, r, e => by cases e; cases r; exact ⟨_, .none⟩
  | .bl _, _, _, _, .bl b, r, e => by cases e; cases r; exact ⟨_, .bool _⟩
  | .int _, _, _, _, .int i, r, e => by cases e; obtain ⟨t, rfl⟩ := r; exact ⟨_, .int _ _⟩
  | .str _, _, _, _, .str x, r, e => by cases e; obtain ⟨t, rfl⟩ := r; exact ⟨_, .str _ _⟩
  | .tup ds, _, _, _, .tup q t rr, r, e => by
    cases r
    have e' : (pdL ds).map PyData.tuple = some _ := e
    cases h : pdL ds with
    | none => rw [h] at e'; cases e'
    | some ps =>
      rw [h] at e'; cases e'
      obtain ⟨its, rv, ⟨o, e1, e2, n, e3⟩, _⟩ := I.tuple q
      obtain ⟨as, ra⟩ := readsL_of I rr rv h
      exact ⟨as, .tuple e1 e2 e3 (by simpa using ra)⟩
theorem readsL_of (I : Inv X pins σ H s) : ∀ {ds : List D} {vs : List V} {us : List Value} {ps : List PyData}, RepL X.K T H ds vs → Vals vs us → pdL ds = some ps → ∃ as, ReadsAll s.heap us ps as
  | [], _, _, _, .nil, r, e => by cases e; cases r; exact ⟨_, .nil⟩
  | d :: ds, _, _, _, .cons a b, r, e => by
    cases r with
    | cons r1 r2 =>
      have e' : (pd d).bind (fun x => (pdL ds).map (x :: ·)) = some _ := e
      cases h : pd d with
      | none => rw [h] at e'; cases e'
      | some p =>
        rw [h] at e'
        cases h2 : pdL ds with
        | none => rw [h2] at e'; cases e'
        | some ps =>
          rw [h2] at e'; cases e'
          obtain ⟨as, ra⟩ := reads_of I a r1 h
          obtain ⟨bs, rb⟩ := readsL_of I b r2 h2
          exact ⟨_, .cons ra rb⟩
end
end
section
variable {X : Cx}
/-- repr(d) -/
def reprR : RL3 := fun ds T R => match ds with
  | [d] => ∃ p : PyData, pd d = some p ∧ p.showable = true ∧ p.shown.length ≤ sizeLine ∧ p.depth ≤ 32 ∧ p.hasDict = false ∧ R (.str p.shown) T
  | _ => False
theorem c3_repr (hg : X.A.guards = some []) (hu : X.A.units + 64 < cLine) : CallR3 X (.builtin "repr") reprR := by
  intro pins s σ H xs us Q I r hh
  obtain ⟨ds, T, R, rh, rl, qc, hr⟩ := hh
  unfold reprR at hr
  split at hr
  · obtain ⟨v, rfl, q⟩ := rl.one
    obtain ⟨p, e, h1, h2, h3, h4, hR⟩ := hr
    obtain ⟨u, rfl, ru⟩ := vals1 r
    have fin : ∀ (u : Tok) (s' : Shared), Inv X pins σ H s' → EP X pins σ Q (.str p.shown u) s' := fun u s' J => ⟨.str p.shown, H, J, ⟨u, rfl⟩, qc.fin rh hR (.str _)⟩
    cases q with
    | non => cases e; cases ru; exact PySem.P.repr_of_none (fin _ _ (I.tok _))
    | bl b => cases e; cases ru; exact PySem.P.repr_of_bool (fin _ _ (I.tok _))
    | int i =>
      cases e; obtain ⟨t, rfl⟩ := ru
      exact PySem.P.repr_of_int (by simpa [PyData.showable] using h1) (fin _ _ (I.tok _))
    | str x => cases e; obtain ⟨t, rfl⟩ := ru; exact PySem.P.repr_of_str (fin _ _ (I.tok _)) h2
    | tup q t rr =>
      obtain ⟨as, ra⟩ := reads_of I (.tup q t rr) ru e
      cases ru
      exact repr_of_reads' ra h1 (PyData.noDict_hsm h4) hg (by omega) (fun _ _ e => e) (fun h' u tk hk => fin u _ (I.kept hk)) h2
    | ref _ => cases e
    | ob _ _ _ => cases e
    | exc _ _ _ => cases e
    | lam _ _ _ => cases e
  · exact hr.elim
end
end L3
namespace L3
open PySem PySem.Spec L2 LamX
open PyProof.Rows hiding St
/-! ### a def that is handed a lambda, as the callers know it -/
structure LamOk (P : Program) (w : World) (K : PySem.W.Frag) (mg : Str → Option Value) (base : Heap) (x a : Str) (Ng : List Str) (tg : D → (EX3 → T3 → (D → T3 → Prop) → Prop) → TS3) : Prop where
  ex : ∃ (g : Addr) (pg : Arguments) (bg : List Stmt) (sg : Scope) (dV kV doc pm cdv ct oc : Value) (an od : Option Addr) (osl : Array (Option Value)), mg x = some (.ref g) ∧ PySem.W.keepIn K (.ref g) = true ∧
    K.lookup g = some ⟨oc, od, .func (PySem.W.fnOf x x pg bg sg dV kV doc pm an cdv ct), osl⟩ ∧ PySem.W.codeIn K cdv x = true ∧ L2.Binds K (PySem.W.fnOf x x pg bg sg dV kV doc pm an cdv ct) [a] [] ∧ FnScope Ng [a] sg ∧ Ng[0]? = some a ∧ Vis sg a ∧
    ∀ (A : Around) (stack : List Env) (s : Shared) (H : Hp) (l : D) (tbT : EX3 → T3 → (D → T3 → Prop) → Prop),
      (∀ (W : WX) (pn : List (Addr × Obj)) (xe : Value → Shared → Prop) (p1 p2 : Pos), Takes ((cxOf C8.CX0 P w K mg base Ng x sg g cdv A stack s H C8.E0).tr pn xe) W →
        PE3 ((cxOf C8.CX0 P w K mg base Ng x sg g cdv A stack s H C8.E0).tr pn xe) W (.Call (.Name a p1) [] [] p2) (t3Act l tbT)) →
      PSs3 (cxOf C8.CX0 P w K mg base Ng x sg g cdv A stack s H C8.E0).nox W0 bg (tg l tbT)
section
variable {X : Cx} {W : WX}
theorem pe3_lamD {x a : Str} {c P : Addr} {k : Nat} {Ng : List Str} {params : Arguments} {body : Expr} {scope : Scope} {tb : TE3} {tg : D → (EX3 → T3 → (D → T3 → Prop) → Prop) → TS3} {p lpos pos : Pos} (F : LamOk X.prog X.w X.K X.mg X.base x a Ng tg) (hg : Gl X x)
    (TB : TabB X.base X.mg c P) (hcode : X.env.code = .ref c) (hr : Room (k + 2) X.A) (L : LamS X.env.scope scope) (hdef : defaultsOf params X.env = ([], []))
    (hbind : ∀ (q : Str) (cl : List (Str × Addr)) (pm cv ctv : Value), bindArgs (PySem.W.kla_fn "<lambda>" q params body scope cl pm cv ctv) ⟨[], []⟩ = pure [])
    (hbody : ∀ (A : Around) (outer : List Env) (s : Shared) (H : Hp) (E : XK) (f c' : Addr), Room k (A.deeper (lamEnv X scope s.heap.objs.size f c')) → Takes (lamCx X A outer s H E scope f c') (wE E) → PE3 (lamCx X A outer s H E scope f c') (wE E) body tb)
    (hdb : (x == ("__debug__" : Str)) = false := by decide) (hd : (a == ("__debug__" : Str)) = false := by decide) (hcd : (a == ("__classdict__" : Str)) = false := by decide) :
    PE3 X W (.Call (.Name x p) [.Lambda params body scope lpos] [] pos) (t3Lam P (X.env.qual ++ "<lambda>") Ng tg tb) := by
  obtain ⟨g, pg, bg, sg, dV, kV, doc, pm, cdv, ct, oc, an, od, osl, hm, hk, lk, hcg, hb, Sg, hNg, hva, hgb⟩ := F.ex
  exact pe3_lam hg hm hk lk hcg hb Sg hNg hva TB hcode hr L hdef hbind hbody (fun s H l tbT act => hgb _ _ s H l tbT act) hdb hd hcd
end
/-! ### the run of one def in known surroundings -/
section
variable {P : Program} {w : World} {K : PySem.W.Frag} {mg : Str → Option Value} {base : Heap} {x qual : Str} {params : Arguments} {body : List Stmt} {scope : Scope} {f : Addr}
theorem run3 {oc dV kV doc pm cdv ct : Value} {an od : Option Addr} {osl : Array (Option Value)} {N ps : List Str} {k : Nat} (lk : K.lookup f = some ⟨oc, od, .func (PySem.W.fnOf x qual params body scope dV kV doc pm an cdv ct), osl⟩) (hcd : PySem.W.codeIn K cdv qual = true) (S : FnScope N ps scope)
    {A : Around} {outer : List Env} {s : Shared} {H : Hp} {us : List Value} {vs : List V} {Q : VK} {E : XK} (hr : Room (k + 1) A) (e0 : Env0 P w K mg base A outer s H) (hb : BindsTo s (PySem.W.fnOf x qual params body scope dV kV doc pm an cdv ct) ⟨us, []⟩ (ps.zip us)) (r : Vals vs us) (hl : vs.length = ps.length)
    {t : TS3} (ht : Room k (A.deeper (envOfC qual scope s.heap.objs.size f cdv)) → Takes (cxOf (L2.CX P w) P w K mg base N qual scope f cdv A outer s H E) (wE E) → PSs3 (cxOf (L2.CX P w) P w K mg base N qual scope f cdv A outer s H E) (wE E) body t)
    {D3 : Ends3} {ds : List D} {T : T3} (rd : RepL K T H ds vs) (rh : RepH P w K T H) (hn : ∀ σ T' v H', D3.nx σ T' → Step T H T' H' → RepH P w K T' H' → Rep K T' H' .non v → Q v H') (hrt : ∀ d T' v H', D3.rt d T' → Step T H T' H' → RepH P w K T' H' → Rep K T' H' d v → Q v H')
    (hbk : ∀ σ T', D3.bk σ T' → False) (hct : ∀ σ T', D3.ct σ T' → False) (hex : ∀ c fs σ T', D3.ex c fs σ T' → False) (hq : t D3 (start3 N ds) T) :
    codeAny (model P w) A (.call (.ref f) ⟨us, []⟩) (CR (L2.CX P w) outer P w H s Q E) s := by
  refine run_ofS lk hcd S hr e0 hb r hl fun hr' => ⟨_, ht hr' (takes_of rfl rfl rfl rfl), ?_⟩
  exact ⟨D3, _, T, ⟨RepS.start rd, rh, (fun σ3' T' σ' H' h1 h2 h3 h4 => hn _ _ _ _ h1 h2 h3 .non), (fun _ _ _ _ z => (hbk _ _ z).elim), (fun _ _ _ _ z => (hct _ _ z).elim), (fun d' T' v H' h1 h2 h3 h4 => hrt _ _ _ _ h1 h2 h3 h4), (fun _ _ _ _ _ _ _ _ z => (hex _ _ _ _ z).elim)⟩, hq⟩
end
end L3
namespace L3
open PySem PySem.Spec L2 LamX
open PyProof.Rows hiding St
/-! ### the end of a law: the script is read alone, the tables tb (code object, table, the name its entries bear) are empty -/
abbrev Tbs := List (Addr × Addr × Str)
def lawH (a : Addr) (ob : Obj) (xs : List V) (cs : Tbs) : Hp := fun b => if b = a then some (.frz ob (.lst xs)) else if b ∈ cs.map (·.2.1) then some (.tbl #[]) else none
def lawT (a : Addr) (ns : List Int) (cs : Tbs) : T3 := fun b => if b = a then some (.rol (ns.map .int)) else (cs.find? fun p => decide (p.2.1 = b)).map fun p => .tab p.2.2
theorem ints_repL {K : PySem.W.Frag} {T : T3} {H : Hp} : ∀ ns : List Int, RepL K T H (ns.map D.int) (ns.map V.int)
  | [] => .nil
  | n :: ns => .cons (.int n) (ints_repL ns)
theorem law_rep {P : Program} {w : World} {K : PySem.W.Frag} {a : Addr} {ob : Obj} {ns : List Int} {cs : Tbs} (ha : a ∉ cs.map (·.2.1)) : RepH P w K (lawT a ns cs) (lawH a ob (ns.map V.int) cs) := fun b o e => by
  unfold lawT at e
  by_cases hb : b = a
  · rw [if_pos hb] at e
    cases e
    exact ⟨ns.map V.int, ob, by unfold lawH; rw [if_pos hb], ints_repL ns⟩
  · rw [if_neg hb] at e
    cases q : cs.find? (fun p => decide (p.2.1 = b)) with
    | none => rw [q] at e; cases e
    | some p =>
      rw [q] at e; cases e
      have hm := List.mem_of_find?_eq_some q
      have hp := List.find?_some q
      have hp : p.2.1 = b := of_decide_eq_true hp
      have hin : b ∈ cs.map (·.2.1) := List.mem_map.mpr ⟨p, hm, hp⟩
      refine ⟨#[], by unfold lawH; rw [if_neg hb, if_pos hin], True.intro, fun pos cv z => ?_⟩
      have z' : codeAmong pos [] = some cv := z
      simp [codeAmong] at z'
theorem law_end {P : Program} {w : World} {K : PySem.W.Frag} {mg mb : Str → Option Value} {CX : CXT} {fa a : Addr} {cs : Tbs} {s₁ : Shared} {vs : List Value} {ns : List Int}
    (KX : K.In s₁.heap) (hns : s₁.heap.Ns mainGlobals mg) (hb : s₁.heap.Ns builtinsNs mb) (hbb : ∀ x : Str, x ≠ "__name__" → mb x = bootBuiltins x) (hlim : s₁.heap.NoLimit) (hg : s₁.gens = #[])
    (hT : ∀ p ∈ cs, s₁.heap.get? p.2.1 = some { cls := .none, data := .fields #[] }) (nT : ∀ p ∈ cs, K.lookup p.2.1 = none) (C : ∀ p ∈ cs, PySem.W.CodeHd s₁.heap p.1 p.2.1) (hk : K.lookup a = none)
    (hbm : ∃ (bm : Addr) (ob : Obj), mg "__builtins__" = some (.ref bm) ∧ bm ≠ builtinsNs ∧ s₁.heap.get? bm = some ob ∧ ob.cls = .type "module" ∧ ob.dict = some builtinsNs ∧ ob.data = .plain)
    (ha : s₁.heap.get? a = some { cls := .type "list", data := .seq vs.toArray }) (hi : IntsAre vs ns) (hl : ns.length ≤ sizeLine)
    (F : ∀ base : Heap, K.In base → base.Ns mainGlobals mg → (∀ p ∈ cs, TabB base mg p.1 p.2.1) → Env0 P w K mg base callerA [] s₁ (lawH a { cls := .type "list", data := .seq vs.toArray } (ns.map V.int) cs) →
      RepH P w K (lawT a ns cs) (lawH a { cls := .type "list", data := .seq vs.toArray } (ns.map V.int) cs) →
      codeAny (model P w) callerA (.call (.ref fa) ⟨[.ref a], []⟩) (CR CX [] P w (lawH a { cls := .type "list", data := .seq vs.toArray } (ns.map V.int) cs) s₁ (fun v _ => v = .bl true) fun _ _ _ => False) s₁)
    (hCX : ∀ H e s', CX [] H s₁ (fun _ _ _ => False) e s' → False) :
    codeAny (model P w) callerA (.call (.ref fa) ⟨[.ref a], []⟩) (fun r s' => r = .ok (.ret (.bool true)) ∧ OldK s₁.heap s'.heap ∧ s'.os = s₁.os ∧ AllBare s'.gens) s₁ := by
  have rv := vals_ints hi
  have lenV := hi.length
  generalize hH : lawH a { cls := .type "list", data := .seq vs.toArray } (ns.map V.int) cs = H at F
  have isT : ∀ b : Addr, b ∈ cs.map (·.2.1) → s₁.heap.get? b = some { cls := .none, data := .fields #[] } := fun b hb => by
    obtain ⟨p, hp, rfl⟩ := List.mem_map.mp hb
    exact hT p hp
  have aT : a ∉ cs.map (·.2.1) := fun z => by
    have q := isT a z
    rw [ha] at q
    cases congrArg Obj.data (Option.some.inj q)
  have Ha : H a = some (.frz { cls := .type "list", data := .seq vs.toArray } (.lst (ns.map V.int))) := by rw [← hH]; exact if_pos rfl
  have Ht : ∀ b, b ∈ cs.map (·.2.1) → H b = some (.tbl #[]) := fun b hb => by
    rw [← hH]
    exact (if_neg (fun z => aT (by rw [← z]; exact hb))).trans (if_pos hb)
  have Hn : ∀ b, b ≠ a → b ∉ cs.map (·.2.1) → H b = none := fun b h1 h2 => by
    rw [← hH]
    exact (if_neg h1).trans (if_neg h2)
  -- an object of other data is not tracked
  have out : ∀ {b : Addr} {o : Obj}, s₁.heap.get? b = some o → (∀ us n, o.data ≠ .seq us n) → o.data ≠ .fields #[] → H b = none := fun {b o} e h1 h2 => by
    refine Hn b (fun z => ?_) fun z => ?_
    · rw [z, ha] at e; cases e; exact h1 _ _ rfl
    · rw [isT b z] at e; cases e; exact h2 rfl
  have outD : ∀ {b : Addr} {o : Obj} {es : Array DictEntry} {ep : Nat}, s₁.heap.get? b = some o → o.data = .dict es ep → H b = none := fun {b o es ep} e d =>
    out e (fun us n z => by rw [d] at z; cases z) fun z => by rw [d] at z; cases z
  have nsK : ∀ {b : Addr} {m : Str → Option Value}, s₁.heap.Ns b m → (hidT s₁.heap H).Ns b m := fun {b m} ⟨o, es, ep, e, d, r⟩ => ⟨o, es, ep, hidT_get e (outD e d), d, r⟩
  have kb : K.In (hidT s₁.heap H) := fun b o e => hidT_get (KX b o e) (Hn b (fun z => by rw [z, hk] at e; cases e) fun z => by
    obtain ⟨p, hp, ep⟩ := List.mem_map.mp z
    rw [← ep, nT p hp] at e
    cases e)
  have hM : L2.Mod K mg (hidT s₁.heap H) := ⟨kb, nsK hns, ⟨mb, nsK hb, hbb⟩, let ⟨mc, h1, h2⟩ := hlim; ⟨mc, nsK h1, h2⟩⟩
  have TB : ∀ p ∈ cs, TabB (hidT s₁.heap H) mg p.1 p.2.1 := fun p hp => by
    have hTp := hT p hp
    obtain ⟨og, esg, epg, eg, hdg, _⟩ := id hns
    refine ⟨?_, ?_, fun z => ?_⟩
    · obtain ⟨o, us, file, tf, flags, tg, inF, text, tt, e1, r1, r2, r3, r4, r5, r6, r7, r8, hne⟩ := C p hp
      refine ⟨o, us, file, tf, flags, tg, inF, text, tt, hidT_get e1 (out e1 (fun vs n z => by rw [r2] at z; cases z) fun z => ?_), r1, r2, r3, r4, r5, r6, r7, r8, hne⟩
      rw [r2] at z
      cases z
      simp at r3
    · obtain ⟨bm, ob, b1, b2, b3, b4, b5, b6⟩ := hbm
      have nG : bm ≠ mainGlobals := fun q => by
        rw [q, eg] at b3
        cases b3
        rw [hdg] at b6
        cases b6
      have nP : bm ≠ p.2.1 := fun q => by
        rw [q, hTp] at b3
        cases b3
        cases b6
      exact ⟨bm, ob, b1, b2, nG, nP, hidT_get b3 (out b3 (fun vs n z => by rw [b6] at z; cases z) fun z => by rw [b6] at z; cases z), b4, b5, b6⟩
    · rw [z, hTp] at eg
      cases eg
      cases hdg
  have hok : HOk P w H s₁.heap := fun b u z => by
    by_cases hb : b = a
    · rw [hb, Ha] at z
      cases z
      rw [hb]
      exact ⟨ha, by rw [List.length_map]; exact hl, vs, _, rv, ha⟩
    · by_cases hb2 : b ∈ cs.map (·.2.1)
      · rw [Ht b hb2] at z
        cases z
        exact isT b hb2
      · rw [Hn b hb hb2] at z
        cases z
  have e0 : Env0 P w K mg (hidT s₁.heap H) callerA [] s₁ H := ⟨rfl, hM, fun b o e => of_hidT e, Nat.le_of_eq (hidT_size _ _), trivial, fun b hb => absurd (show b ∈ ([] : List Addr) from hb) (by simp), hok, .of_eq hg⟩
  refine codeAny_mono (F _ kb (nsK hns) TB e0 (by rw [← hH]; exact law_rep aT)) fun r s' h => ?_
  cases r with
  | error e => exact (hCX H e s' h).elim
  | ok fl =>
    cases fl with
    | next => exact False.elim h
    | brk => exact False.elim h
    | cont => exact False.elim h
    | ret u =>
      obtain ⟨v, H', os, bare, un, hok', r', q⟩ := h
      have q' : v = .bl true := q
      subst q'
      obtain rfl : u = Value.bool true := r'
      have key : ∀ b o, b ∉ cs.map (·.2.1) → s₁.heap.get? b = some o → s'.heap.get? b = some o := fun b o nb e => by
        by_cases hb : b = a
        · have z2 := un.frzs b _ _ (by rw [hb]; exact Ha)
          obtain ⟨e1, _⟩ := hok' b _ z2
          rw [hb, ha] at e
          cases e
          exact e1
        · exact un.keep b o e (Hn b hb nb) (by intro z; exact absurd (show b ∈ ([] : List Addr) from z) (by simp)) (by simp)
      have grown : ∀ p ∈ cs, ∃ more : Array Value, s'.heap.get? p.2.1 = some { cls := .none, data := .fields more } := fun p hp => by
        obtain ⟨more, z⟩ := un.tbls p.2.1 #[] (Ht _ (List.mem_map.mpr ⟨p, hp, rfl⟩))
        exact ⟨_, hok' p.2.1 _ z⟩
      refine ⟨rfl, ⟨fun b o e => ?_, fun b o e => ?_⟩, os, bare⟩
      · by_cases hb : b ∈ cs.map (·.2.1)
        · obtain ⟨p, hp, ep⟩ := List.mem_map.mp hb
          obtain ⟨more, hm⟩ := grown p hp
          rw [← ep] at e ⊢
          rw [hT p hp] at e
          cases e
          exact .inr (.inl ⟨((C p hp).tab (hT p hp)).isCodeTable, rfl, #[], more, rfl, by rw [Array.empty_append]; exact hm⟩)
        · exact .inl (key b o hb e)
      · by_cases hb : b ∈ cs.map (·.2.1)
        · obtain ⟨p, hp, ep⟩ := List.mem_map.mp hb
          obtain ⟨more, hm⟩ := grown p hp
          rw [← ep]
          exact ⟨_, hm⟩
        · exact ⟨o, key b o hb e⟩
end L3
namespace L3
open PySem PySem.Spec L2 LamX He
open PyProof.Rows hiding St
/-! ### the head's Hook: lists and empty tables are left out of K; defs stand at paths of one's own; a def's closure is told by its names -/
def isListO (o : Obj) : Bool := match o.cls with
  | .type c => decide (c = "list")
  | _ => false
def frL (g : Addr → Option Obj) (as : List Addr) : PySem.W.Frag := (frT g as).filter fun q => !isListO q.2
theorem frL_mem {g : Addr → Option Obj} {as : List Addr} {a : Addr} {o : Obj} (h : (frL g as).lookup a = some o) : g a = some o ∧ emptyTab o = false ∧ isListO o = false := by
  obtain ⟨h1, h2⟩ := List.mem_filter.mp (lookup_mem h)
  obtain ⟨h3, h4⟩ := List.mem_filter.mp h1
  exact ⟨frG_mem h3, by simpa using h4, by simpa using h2⟩
theorem frL_in {as : List Addr} {h : Heap} : (frL h.get? as).In h := fun _ _ e => (frL_mem e).1
theorem frL_none {g : Addr → Option Obj} {as : List Addr} {a : Addr} {o : Obj} (h : g a = some o) (ht : emptyTab o = true) : (frL g as).lookup a = none := by
  cases e : (frL g as).lookup a with
  | none => rfl
  | some u =>
    obtain ⟨h1, h2, _⟩ := frL_mem e
    rw [h] at h1
    rw [← Option.some.inj h1, ht] at h2
    cases h2
abbrev FnC : Type := Option (Str × Str × Arguments × FuncBody × Scope × Addr × List Str × Addr)
def fnC (K : PySem.W.Frag) (f : Addr) : FnC := match K.lookup f with
  | some ⟨_, _, .func fd, _⟩ => some (fd.name, fd.qualname, fd.params, fd.body, fd.scope, fd.globals, fd.closure.map (·.1), fd.builtins)
  | _ => none
structure DefE where
  at_ : PySem.W.Frag → Addr
  name : Str
  qual : Str
  params : Arguments
  body : List Stmt
  scope : Scope
  clo : List Str := []
def DefE.val (d : DefE) : FnC := some (d.name, d.qual, d.params, .stmts d.body, d.scope, mainGlobals, d.clo, builtinsNs)
def isNoV : Value → Bool
  | .none => true
  | _ => false
def DefE.ok (K : PySem.W.Frag) (d : DefE) : Bool := PySem.W.keepIn K (.ref (d.at_ K)) && (match K.lookup (d.at_ K) with
  | some ⟨_, _, .func fd, _⟩ => PySem.W.codeIn K fd.code d.qual && (isNoV fd.defaults && isNoV fd.kwdefaults)
  | _ => false)
/-- the function object -/
abbrev fdE (d : DefE) (clo : List (Str × Addr)) (doc pm : Value) (an : Option Addr) (cdv ct : Value) : FuncData := ⟨d.name, d.qual, d.params, .stmts d.body, d.scope, mainGlobals, clo, .none, .none, doc, pm, an, cdv, ct, builtinsNs⟩
theorem DefE.fun_ {K : PySem.W.Frag} {d : DefE} (e : fnC K (d.at_ K) = d.val) (c : d.ok K = true) : PySem.W.keepIn K (.ref (d.at_ K)) = true ∧ ∃ oc od osl doc pm an cdv ct clo, K.lookup (d.at_ K) = some ⟨oc, od, .func (fdE d clo doc pm an cdv ct), osl⟩ ∧ PySem.W.codeIn K cdv d.qual = true ∧ clo.map (·.1) = d.clo := by
  obtain ⟨kp, c2⟩ := ba c
  refine ⟨kp, ?_⟩
  unfold fnC at e
  cases q : K.lookup (d.at_ K) with
  | none => rw [q] at c2; cases c2
  | some o =>
    obtain ⟨oc, od, dt, osl⟩ := o
    rw [q] at c2 e
    cases dt with
    | func fd =>
      obtain ⟨n1, n2, n3, n4, n5, n6, n7, n8, n9, n10, n11, n12, n13, n14, n15⟩ := fd
      have e2 : (some (n1, n2, n3, n4, n5, n6, n7.map (·.1), n15) : FnC) = some (d.name, d.qual, d.params, .stmts d.body, d.scope, mainGlobals, d.clo, builtinsNs) := e
      simp only [Option.some.injEq, Prod.mk.injEq] at e2
      obtain ⟨h1, h2, h3, h4, h5, h6, h7, h8⟩ := e2
      have c3 : (PySem.W.codeIn K n13 d.qual && (isNoV n8 && isNoV n9)) = true := c2
      obtain ⟨k1, k2⟩ := ba c3
      obtain ⟨k3, k4⟩ := ba k2
      obtain rfl : n8 = .none := by cases n8 <;> first | rfl | cases k3
      obtain rfl : n9 = .none := by cases n9 <;> first | rfl | cases k4
      subst h1 h2 h3 h4 h5 h6 h8
      exact ⟨oc, od, osl, n10, n11, n12, n13, n14, n7, rfl, k1, h7⟩
    | _ => cases c2
theorem DefE.funD {K : PySem.W.Frag} {d : DefE} (e : fnC K (d.at_ K) = d.val) (c : d.ok K = true) (hc : d.clo = []) : ∃ fd, FunD K d.name d.qual d.params d.body d.scope [] [] (d.at_ K) fd := by
  obtain ⟨kp, oc, od, osl, doc, pm, an, cdv, ct, clo, lk, hcd, hq⟩ := DefE.fun_ e c
  rw [hc, List.map_eq_nil_iff] at hq
  subst hq
  exact ⟨_, ⟨oc, od, .none, .none, doc, pm, an, cdv, ct, osl, rfl, lk, hcd, .inl ⟨rfl, rfl⟩, .inl rfl⟩, kp⟩
def asL (g : Addr → Option Obj) (n : Nat) : List Addr := cStatics :: asD g n
/-- what is told -/
structure SaysL (fn : List DefE) (ex : PySem.W.Frag → Bool) (tf : List (PySem.W.Frag → Addr × Addr)) (h : Heap) (K : PySem.W.Frag) : Prop where
  ok : (fn.all fun d => d.ok K) = true
  eq : fn.map (fun d => fnC K (d.at_ K)) = fn.map DefE.val
  more : ex K = true
  hd : ∀ p ∈ tf, PySem.W.codeHdIn K (p K).1 (p K).2 = true
  out : ∀ p ∈ tf, K.lookup (p K).2 = none
  empty : ∀ p ∈ tf, h.get? (p K).2 = some { cls := .none, data := .fields #[] }
  noL : ∀ a o, K.lookup a = some o → isListO o = false
def tabsL (g : Addr → Option Obj) (tf : List (PySem.W.Frag → Addr × Addr)) (K : PySem.W.Frag) : Bool := tf.all fun p => PySem.W.codeHdIn K (p K).1 (p K).2 && (match g (p K).2 with
  | some o => emptyTab o
  | none => false)
abbrev AlL : Type := Bool × List FnC
def obsK (fn : List DefE) (ex : PySem.W.Frag → Bool) (tf : List (PySem.W.Frag → Addr × Addr)) (g : Addr → Option Obj) (K : PySem.W.Frag) : AlL := ((fn.all fun d => d.ok K) && (ex K && tabsL g tf K), fn.map fun d => fnC K (d.at_ K))
def obsL (n : Nat) (fn : List DefE) (ex : PySem.W.Frag → Bool) (tf : List (PySem.W.Frag → Addr × Addr)) (g : Addr → Option Obj) : AlL := obsK fn ex tf g (frL g (asL g n))
def valL (fn : List DefE) : AlL := (true, fn.map DefE.val)
theorem saysL_of {n : Nat} {fn : List DefE} {ex : PySem.W.Frag → Bool} {tf : List (PySem.W.Frag → Addr × Addr)} {h : Heap} (e : obsL n fn ex tf h.get? = valL fn) : SaysL fn ex tf h (frL h.get? (asL h.get? n)) := by
  have e1 : ((fn.all fun d => d.ok (frL h.get? (asL h.get? n))) && (ex (frL h.get? (asL h.get? n)) && tabsL h.get? tf (frL h.get? (asL h.get? n)))) = true := congrArg (fun z : AlL => z.1) e
  have e2 : fn.map (fun d => fnC (frL h.get? (asL h.get? n)) (d.at_ (frL h.get? (asL h.get? n)))) = fn.map DefE.val := congrArg (fun z : AlL => z.2) e
  obtain ⟨h1, h2⟩ := ba e1
  obtain ⟨h3, h4⟩ := ba h2
  have key : ∀ p ∈ tf, PySem.W.codeHdIn (frL h.get? (asL h.get? n)) (p (frL h.get? (asL h.get? n))).1 (p (frL h.get? (asL h.get? n))).2 = true ∧ ∃ o, h.get? (p (frL h.get? (asL h.get? n))).2 = some o ∧ emptyTab o = true := fun p hp => by
    obtain ⟨h5, h6⟩ := ba (List.all_eq_true.mp h4 p hp)
    refine ⟨h5, ?_⟩
    cases q : h.get? (p (frL h.get? (asL h.get? n))).2 with
    | none => rw [q] at h6; cases h6
    | some o => rw [q] at h6; exact ⟨o, rfl, h6⟩
  exact ⟨h1, e2, h3, fun p hp => (key p hp).1, fun p hp => by
    obtain ⟨_, o, q, z⟩ := key p hp
    exact frL_none q z, fun p hp => by
    obtain ⟨_, o, q, z⟩ := key p hp
    rw [q, emptyTab_eq z], fun a o e => (frL_mem e).2.2⟩
def hookL (n : Nat) (fn : List DefE) (ex : PySem.W.Frag → Bool) (tf : List (PySem.W.Frag → Addr × Addr)) : PySem.W.Hook where
  α := AlL
  obs := fun s => obsL n fn ex tf s.heap.get?
  val := fun _ => valL fn
  says := fun _ h => ∃ K : PySem.W.Frag, K.In h ∧ SaysL fn ex tf h K
  of := fun _ _ e => ⟨_, frL_in, saysL_of e⟩
  keeps := fun _ _ _ ⟨K, hK, c⟩ k => ⟨K, PySem.W.Frag.In.keeps hK k, ⟨c.ok, c.eq, c.more, c.hd, c.out, fun p hp => k _ _ (c.empty p hp), c.noL⟩⟩
theorem obsL_eq {n : Nat} {fn : List DefE} {ex : PySem.W.Frag → Bool} {tf : List (PySem.W.Frag → Addr × Addr)} {g : Addr → Option Obj} {s : Shared} (h : ∀ a, g a = s.heap.get? a) : obsL n fn ex tf g = (hookL n fn ex tf).obs s := by
  have e : g = s.heap.get? := funext h
  rw [e] <;> rfl
section
variable {fn : List DefE} {ex : PySem.W.Frag → Bool} {tf : List (PySem.W.Frag → Addr × Addr)} {h : Heap} {K : PySem.W.Frag}
theorem SaysL.both (c : SaysL fn ex tf h K) {d : DefE} (hd : d ∈ fn) : fnC K (d.at_ K) = d.val ∧ d.ok K = true := by
  refine ⟨?_, List.all_eq_true.mp c.ok d hd⟩
  obtain ⟨i, hi, e⟩ := List.mem_iff_getElem.mp hd
  have e2 : (fn.map fun d => fnC K (d.at_ K))[i]? = (fn.map DefE.val)[i]? := by rw [c.eq]
  rw [List.getElem?_map, List.getElem?_map, List.getElem?_eq_getElem hi, e] at e2
  exact Option.some.inj e2
theorem SaysL.def_ (c : SaysL fn ex tf h K) {d : DefE} (hd : d ∈ fn) (hc : d.clo = []) : ∃ fd, FunD K d.name d.qual d.params d.body d.scope [] [] (d.at_ K) fd := DefE.funD (c.both hd).1 (c.both hd).2 hc
/-- the script's list is not in K -/
theorem SaysL.script (c : SaysL fn ex tf h K) (X : K.In h) {a : Addr} {o : Obj} (e : h.get? a = some o) (hl : isListO o = true) : K.lookup a = none := by
  cases q : K.lookup a with
  | none => rfl
  | some u =>
    have e2 := X _ _ q
    rw [e] at e2
    cases e2
    rw [c.noL _ _ q] at hl
    cases hl
end
/-! ### facts of classes, as Bools of K -/
/-- a property's getter -/
def pget (K : PySem.W.Frag) (c f : Str) : Addr := match PySem.W.recIn K (ma K (ga K c) f) "property" with
  | some (.ref g :: _) => g
  | _ => 0
def propB (K : PySem.W.Frag) (c f : Str) : Bool := eqO (PySem.W.findIn K (.ref (ga K c)) f) (some (some (.ref (ma K (ga K c) f)))) && (eqO (PySem.W.specialIn K (.ref (ma K (ga K c) f)) "__get__") (some (some (.builtin "property.__get__"))) &&
  (decide (PySem.W.takesIn K (.ref (ma K (ga K c) f)) = some true) && (match PySem.W.recIn K (ma K (ga K c) f) "property" with
    | some (.ref _ :: _) => true
    | _ => false)))
theorem propB_ok {K : PySem.W.Frag} {c f : Str} (h : propB K c f = true) : PropOf K (ga K c) f (ma K (ga K c) f) (pget K c f) := by
  obtain ⟨h1, h⟩ := ba h
  obtain ⟨h2, h⟩ := ba h
  obtain ⟨h3, h4⟩ := ba h
  refine ⟨eqO_ok h1, eqO_ok h2, of_decide_eq_true h3, ?_⟩
  unfold pget
  split at h4
  · next g rest e => rw [e]; exact ⟨rest, rfl⟩
  · cases h4
def slotsB (sl : List (Option Value)) : Bool := match sl with
  | [_, _, _, _, some (.builtin _), _] => true
  | _ => false
theorem slotsB_ok {sl : Array (Option Value)} (h : slotsB sl.toList = true) : ∃ k0 k1 k2 k3 n k5, sl = #[k0, k1, k2, k3, some (.builtin n), k5] := by
  unfold slotsB at h
  split at h
  · next k0 k1 k2 k3 n k5 e => exact ⟨k0, k1, k2, k3, n, k5, by rw [← Array.toList_inj]; exact e⟩
  · cases h
def cmpB (K : PySem.W.Frag) (C : Addr) : Bool := match K.lookup C with
  | some ⟨.type t, _, .cls cd, sl⟩ => decide (t = "type") && (decide (cd.mro = [.ref C, .type "object"]) && (!cd.hasDel && (slotsB sl.toList && (PySem.W.nsOkIn K cd.ns && (eqO (PySem.W.nsIn K cd.ns "__eq__") (some none) && eqO (PySem.W.nsIn K cd.ns "__ne__") (some none))))))
  | _ => false
theorem cmpB_ok {K : PySem.W.Frag} {C : Addr} (h : cmpB K C = true) : CmpC K C := by
  unfold cmpB at h
  split at h
  · next t dd cd sl e =>
    obtain ⟨h1, h⟩ := ba h
    obtain ⟨h2, h⟩ := ba h
    obtain ⟨h3, h⟩ := ba h
    obtain ⟨h4, h⟩ := ba h
    obtain ⟨h5, h⟩ := ba h
    obtain ⟨h6, h7⟩ := ba h
    obtain ⟨n1, n2, n3, n4, n5, n6, n7, n8, n9, n10, n11⟩ := cd
    obtain ⟨k0, k1, k2, k3, n, k5, rfl⟩ := slotsB_ok h4
    obtain rfl : t = "type" := of_decide_eq_true h1
    have e2 := of_decide_eq_true h2
    have e3 : n11 = false := by simpa using h3
    dsimp only at e2 h5 h6 h7
    subst e2 e3
    exact ⟨_, _, _, _, _, _, _, _, _, _, _, _, _, _, _, _, e, h5, eqO_ok h6, eqO_ok h7⟩
  · cases h
/-! ### an own exception over ValueError -/
def exCellB (K : PySem.W.Frag) (fI C : Addr) (fl : Str) : Bool := match K.lookup fI with
  | some ⟨_, _, .func fd, _⟩ => (match fd.closure with
    | [(_, cc)] => (match K.lookup cc with
      | some ⟨_, _, .cell (some (.ref a)), _⟩ => decide (a = C)
      | _ => false)
    | _ => false) && (match fd.code with
    | .ref cda => (match K.lookup cda with
      | some ⟨_, _, .fields vs, _⟩ => (match (vs[2]? : Option Value) with
        | some (.str file _) => decide (fl = file)
        | _ => false)
      | _ => false)
    | _ => false)
  | _ => false
theorem exCellB_ok {K : PySem.W.Frag} {fI C : Addr} {fl : Str} {oc : Value} {od : Option Addr} {fd : FuncData} {osl : Array (Option Value)} {n : Str} {cc : Addr} (h : exCellB K fI C fl = true) (lk : K.lookup fI = some ⟨oc, od, .func fd, osl⟩) (hc : fd.closure = [(n, cc)]) :
    (∃ (cl : Value) (cld : Option Addr) (csl : Array (Option Value)), K.lookup cc = some ⟨cl, cld, .cell (some (.ref C)), csl⟩) ∧
    ∃ (cda : Addr) (ccl : Value) (cdd : Option Addr) (vs : Array Value) (ccs : Array (Option Value)) (tf : Tok), fd.code = .ref cda ∧ K.lookup cda = some ⟨ccl, cdd, .fields vs, ccs⟩ ∧ vs[2]? = some (.str fl tf) := by
  unfold exCellB at h
  rw [lk] at h
  obtain ⟨h1, h2⟩ := ba h
  rw [hc] at h1
  refine ⟨?_, ?_⟩
  · dsimp only at h1
    split at h1
    · next cl cld a csl e =>
      obtain rfl := of_decide_eq_true h1
      exact ⟨_, _, _, e⟩
    · cases h1
  · split at h2
    · next cda e0 =>
      split at h2
      · next ccl cdd vs ccs e =>
        split at h2
        · next file tf e3 =>
          obtain rfl := of_decide_eq_true h2
          exact ⟨_, _, _, _, _, _, e0, e, e3⟩
        · cases h2
      · cases h2
    · cases h2
def mroB (K : PySem.W.Frag) (C : Addr) : Bool := match PySem.W.clsIn K C with
  | some cd => decide (cd.mro = .ref C :: veBase) && cd.hasDict
  | none => false
theorem mroB_ok {K : PySem.W.Frag} {C : Addr} (h : mroB K C = true) : ∃ cd, PySem.W.clsIn K C = some cd ∧ cd.mro = .ref C :: veBase ∧ cd.hasDict = true := by
  unfold mroB at h
  split at h
  · next cd e => exact ⟨cd, e, of_decide_eq_true (ba h).1, (ba h).2⟩
  · cases h
def exB (K : PySem.W.Frag) (x f fl : Str) : Bool :=
  PySem.W.excInitIn K (ga K x) veBase "ValueError.__new__" && (mroB K (ga K x) && (eqO (PySem.W.findIn K (.ref (ga K x)) "__setattr__") (some (some (.builtin "object.__setattr__"))) && (eqO (PySem.W.findIn K (.ref (ga K x)) "__getattribute__") (some (some (.builtin "BaseException.__getattribute__"))) &&
  (eqO (PySem.W.findIn K (.ref (ga K x)) "__getattr__") (some none) && (eqO (PySem.W.findIn K (.ref (ga K x)) f) (some none) && (eqO (PySem.W.findIn K (.ref (ga K x)) "__init__") (some (some (.ref (ma K (ga K x) "__init__")))) &&
  (decide (PySem.W.typeIn K (.ref (ma K (ga K x) "__init__")) = some (.type "function")) && (PySem.W.keepIn K (.ref (ga K x)) && (decide (PySem.W.subIn K (.ref (ga K x)) (.type "BaseException") = some true) && (decide (PySem.W.typeIn K (.ref (ga K x)) = some (.type "type")) &&
  (PySem.W.hasDictIn K (ga K x) && (decide (PySem.W.subIn K (.ref (ga K x)) (.type "ValueError") = some true) && (decide (PySem.W.mroIn K (ga K x) (.ref (ga K x)) = some true) && (eqO (PySem.W.ks_superIn K (ga K x) (ga K x) "__init__") (some (some (.builtin "ValueError.__init__"))) &&
  (eqO (PySem.W.nsIn K cStatics "thirdparty.any") (some none) && (eqO (PySem.W.findIn K (.ref (ga K x)) "__class__") (some (some (.builtin "object.__class__"))) && (eqO (PySem.W.specialIn K (.builtin "object.__class__") "__get__") (some (some (.builtin "getset_descriptor.__get__"))) &&
  (decide (PySem.W.takesIn K (.builtin "object.__class__") = some true) && (decide (PySem.W.mroIn K (ga K x) (.type "object") = some true) && exCellB K (ma K (ga K x) "__init__") (ga K x) fl)))))))))))))))))))
theorem exB_ok {P : Program} {K : PySem.W.Frag} {mg : Str → Option Value} {x f p fl qual : Str} {params : Arguments} {scope : Scope} {q0 q1 q2 q3 q4 q5 q6 q7 q8 q9 : Pos} (h : exB K x f fl = true) (hm : mg x = some (.ref (ga K x))) (hs : mg "super" = none) (top : (P.main.scope.names.lookup ("super" : Str)).isSome = false) (hfl : ((P.main.file : Str) == fl) = true)
    {d : DefE} (hd : fnC K (d.at_ K) = d.val ∧ d.ok K = true) (e0 : d.at_ K = ma K (ga K x) "__init__") (e1 : d.name = "__init__") (e2 : d.qual = qual) (e3 : d.params = params) (e4 : d.body = exBody p f q0 q1 q2 q3 q4 q5 q6 q7 q8 q9) (e5 : d.scope = scope) (e6 : d.clo = (["__class__"] : List Str))
    (ar : ∃ ar, (params.posonlyargs ++ params.args).head? = some ar ∧ ar.arg = "self") (ln : (q2.endLine == q4.line) = true)
    (hb : ∀ (doc pm : Value) (an : Option Addr) (cdv ct : Value) (cc : Addr) (u v : Value), bindArgs (PySem.W.ksFn "__init__" qual params (exBody p f q0 q1 q2 q3 q4 q5 q6 q7 q8 q9) scope .none .none doc pm an cdv ct cc) ⟨[u, v], []⟩ = pure [(("self" : Str), u), (p, v)])
    (sc : scope.names.lookup ("super" : Str) = some .globalImplicit ∧ scope.names.lookup ("__class__" : Str) = some .free ∧ scope.names.lookup ("self" : Str) = some .local ∧ scope.names.lookup p = some .local ∧ (∀ x ∈ scope.names, x.2 ≠ .cell) ∧ scope.isCoroutine = false ∧ scope.isGenerator = false ∧ scope.kind = .function)
    (pne : (p == ("self" : Str)) = false) (pdb : (p == ("__debug__" : Str)) = false) : ExOk P K mg x f := by
  obtain ⟨a1, h⟩ := ba h
  obtain ⟨a2, h⟩ := ba h
  obtain ⟨a3, h⟩ := ba h
  obtain ⟨a4, h⟩ := ba h
  obtain ⟨a5, h⟩ := ba h
  obtain ⟨a6, h⟩ := ba h
  obtain ⟨a7, h⟩ := ba h
  obtain ⟨a8, h⟩ := ba h
  obtain ⟨a9, h⟩ := ba h
  obtain ⟨a10, h⟩ := ba h
  obtain ⟨a11, h⟩ := ba h
  obtain ⟨a12, h⟩ := ba h
  obtain ⟨a13, h⟩ := ba h
  obtain ⟨a14, h⟩ := ba h
  obtain ⟨a15, h⟩ := ba h
  obtain ⟨a16, h⟩ := ba h
  obtain ⟨a17, h⟩ := ba h
  obtain ⟨a18, h⟩ := ba h
  obtain ⟨a19, h⟩ := ba h
  obtain ⟨a20, a21⟩ := ba h
  obtain ⟨kp, oc, od, osl, doc, pm, an, cdv, ct, clo, lk, hcd, hq⟩ := DefE.fun_ hd.1 hd.2
  rw [e0] at lk
  subst e2 e3 e5
  obtain ⟨dat, dn, dq, dp, dbd, dsc, dcl⟩ := d
  dsimp only at e1 e4 e6 hq hcd lk sc ar hb
  subst e1 e4 e6
  match clo, hq with
  | [(n, cc)], hq =>
    obtain rfl : n = "__class__" := by simpa using hq
    obtain ⟨hcell, cda, ccl, cdd, vs, ccs, tf, c1, c2, c3⟩ := exCellB_ok a21 lk rfl
    dsimp only at c1
    subst c1
    refine ⟨p, ma K (ga K x) "__init__", "ValueError", "ValueError.__new__", "ValueError.__init__", veBase, ⟨hm, a1, mroB_ok a2, eqO_ok a3, eqO_ok a4, eqO_ok a5, eqO_ok a6, eqO_ok a7, of_decide_eq_true a8, a9, of_decide_eq_true a10, of_decide_eq_true a11, a12, of_decide_eq_true a13, of_decide_eq_true a14, eqO_ok a15, hs, eqO_ok a16, top, eqO_ok a17, eqO_ok a18, of_decide_eq_true a19, of_decide_eq_true a20, ?_, pne, pdb⟩, PySem.F.excBase_ValueError, PySem.W.kxs_ValueError, PySem.F.store_ValueError⟩
    exact ⟨oc, od, dq, dp, dsc, doc, pm, an, cda, cc, ct, osl, q0, q1, q2, q3, q4, q5, q6, q7, q8, q9, lk, hcd, hcell, ⟨ccl, cdd, vs, ccs, fl, tf, c2, c3, hfl⟩, ar, ln, fun s u v => .of_eq (hb doc pm an (.ref cda) ct cc u v), sc⟩
end L3
namespace L3
open PySem PySem.Spec L2
open PyProof.Rows hiding St
def topS (i : Nat) : Stmt := PySem.Challenge.pw_sentonward_k41_far_addresses_made.main.body.getD i (.Pass ⟨0, 0, 0, 0⟩)
def inClass (st : Stmt) (j : Nat) : Stmt := match st with
  | .ClassDef _ _ _ body _ _ _ _ _ _ _ => body.getD j (.Pass ⟨0, 0, 0, 0⟩)
  | _ => .Pass ⟨0, 0, 0, 0⟩
structure Blt (mg : Str → Option Value) : Prop where
  isinstance : mg "isinstance" = none
  str : mg "str" = none
  int : mg "int" = none
  bool : mg "bool" = none
  list : mg "list" = none
  tuple : mg "tuple" = none
  len : mg "len" = none
  all : mg "all" = none
  any : mg "any" = none
  sum : mg "sum" = none
  range : mg "range" = none
  repr : mg "repr" = none
  valueError : mg "ValueError" = none
def lettersS : Str := "abcdefghijklmnopqrstuvwxyz"
structure Cns (mg : Str → Option Value) : Prop where
  letters : ∃ t, mg "LETTERS" = some (.str lettersS t)
  pieces : ∃ u, mg "MOST_PIECES" = some u ∧ RelV (.int 20) u
  words : ∃ u, mg "MOST_WORDS" = some u ∧ RelV (.int 8) u
  times : ∃ u, mg "MOST_TIMES" = some u ∧ RelV (.int (10 ^ 30)) u
  longest : ∃ u, mg "LONGEST_WORD" = some u ∧ RelV (.int 8) u
section
variable {X : Cx} {W : WX} {pos : Pos}
theorem g_LETTERS (C : Cns X.mg) (hg : Gl X "LETTERS" := by rfl) : PE3 X W (.Name "LETTERS" pos) (t3C (.str lettersS)) := by
  obtain ⟨t, h⟩ := C.letters
  exact pe3_glob (v := .str lettersS) hg h ⟨t, rfl⟩ fun _ _ => .str _
theorem g_LONGEST_WORD (C : Cns X.mg) (hg : Gl X "LONGEST_WORD" := by rfl) : PE3 X W (.Name "LONGEST_WORD" pos) (t3C (.int 8)) := by
  obtain ⟨u, h, r⟩ := C.longest
  exact pe3_glob (v := .int 8) hg h r fun _ _ => .int _
theorem g_MOST_PIECES (C : Cns X.mg) (hg : Gl X "MOST_PIECES" := by rfl) : PE3 X W (.Name "MOST_PIECES" pos) (t3C (.int 20)) := by
  obtain ⟨u, h, r⟩ := C.pieces
  exact pe3_glob (v := .int 20) hg h r fun _ _ => .int _
theorem g_MOST_WORDS (C : Cns X.mg) (hg : Gl X "MOST_WORDS" := by rfl) : PE3 X W (.Name "MOST_WORDS" pos) (t3C (.int 8)) := by
  obtain ⟨u, h, r⟩ := C.words
  exact pe3_glob (v := .int 8) hg h r fun _ _ => .int _
theorem g_MOST_TIMES (C : Cns X.mg) (hg : Gl X "MOST_TIMES" := by rfl) : PE3 X W (.Name "MOST_TIMES" pos) (t3C (.int (10 ^ 30))) := by
  obtain ⟨u, h, r⟩ := C.times
  exact pe3_glob (v := .int (10 ^ 30)) hg h r fun _ _ => .int _
end
/-- is_word -/
def isLetterC (c : Nat) : Bool := decide (c ∈ lettersS.cps.toList)
def isWordS (z : Str) : Bool := decide (1 ≤ z.length) && decide (z.length ≤ 8) && z.cps.toList.all isLetterC
def isWordD : D → Bool
  | .str z => isWordS z
  | _ => false
section
variable {P : Program} {w : World} {K : PySem.W.Frag} {mg : Str → Option Value} {base : Heap} {f : Addr} {fd : FuncData}
abbrev FnD (K : PySem.W.Frag) (x : Str) (st : Stmt) (f : Addr) (fd : FuncData) : Prop := FunD K x x (defArgs st) (defBody st) (defScope st) [] [] f fd
theorem sc_is_word : FnScope ["value", "letter"] ["value"] (defScope (topS 5)) := ⟨rfl, rfl, rfl, by decide +kernel, rfl, by decide +kernel, by decide +kernel⟩
def spKnown (K : PySem.W.Frag) (f : D → Bool) : Sp3 := fun ds T R _ => ∃ v, ds = [v] ∧ Typed K T v ∧ R (.bl (f v)) T
set_option maxHeartbeats 400000 in
theorem ok_is_word (B : Blt mg) (C : Cns mg) (F : FnD K "is_word" (topS 5) f fd) : Fn3 P w K mg base 1 f fd ["value"] (spKnown K isWordD) := by
  refine fn3_ofS F sc_is_word (fun ds T R E ⟨v, h, _⟩ => by rw [h]; rfl) fun cdv A outer s H E hr tk => ⟨_, (pss3_cons (ps3_if (PW3.pt (pw3_or (pt3_not (pt3_val (pe3_isi (pv3 0) (by rfl) (by exact B.isinstance) (by rfl) (by exact B.str) (by first | exact boot_str | decide +kernel) (by decide)))) (pw3_or1 (pt3_not (pt3_chain o3_le o3_le pe3_int (pe3_callB c3_len (by rfl) (by exact B.len) (by first | exact boot_len | decide +kernel) (pa3_cons (pv3 0) pa3_nil)) (by exact g_LONGEST_WORD C)))))) (pss3_one (ps3_ret pe3_bl)) pss3_nil)
      (pss3_one (ps3_ret (pe3_callB (c3_all (by rfl)) (by rfl) (by exact B.all) (by first | exact boot_all | decide +kernel) (pa3_cons (pe3_lc (own := [("letter", 1)]) (by rfl) (by exact sc_is_word.nd) (pi3_str (pv3 0)) (by exact blkOk_by (N := ["value", "letter"]) (sc := defScope (topS 5)) (by decide +kernel)) (GC.name (by decide)) (fun _ _ _ _ _ => (pg_name (i := 1) (by exact sc_is_word.nd) (by rfl) (by first | exact Or.inl rfl | exact Or.inr rfl))) (fun _ _ _ _ _ => pts3_nil) (fun _ _ _ _ _ => (pe3_cmp o3_inS (pv3 1) (by exact g_LETTERS C) (by rfl)))) pa3_nil))))), ?_⟩
  rintro ds T R E ⟨v, rfl, ty, hR⟩
  refine Isi.of ty (is_str v) ?_
  refine Br.mk (fun h => ?_) (fun h => ?_)
  · refine Br.t rfl ?_
    have e : isWordD v = false := by cases v <;> first | rfl | cases h
    rw [e] at hR
    exact Lv.here hR
  cases v with
  | str z => ?_
  | _ => cases h
  refine CB.lenS ty ?_
  refine Br.mk (fun h1 => ?_) (fun h1 => ?_)
  · refine Br.mk (fun h2 => ?_) (fun h2 => ?_)
    · have e : isWordD (.str z) = false := by
        have h2' : decide ((z.length : Int) ≤ 8) = false := by simpa using h2
        have : decide (z.length ≤ 8) = false := by
          rw [decide_eq_false_iff_not] at h2' ⊢; omega
        show (decide (1 ≤ z.length) && decide (z.length ≤ 8) && _) = false
        rw [this]; simp
      rw [e] at hR
      exact Lv.here hR
    · intro p hp
      have hz : z.length ≤ 8 := by
        have h2' : decide ((z.length : Int) ≤ 8) = true := by simpa using h2
        rw [decide_eq_true_iff] at h2'; omega
      have h1z : 1 ≤ z.length := by
        rw [decide_eq_true_iff] at h1; omega
      refine comp3_pure (fun c => .str ⟨#[c]⟩) (fun c => .bl (isLetterC c)) (fun _ => true) rfl (by show z.cps.toList.length ≤ _; exact Nat.le_trans hz (by decide)) (fun _ => trivial) (fun c hc acc A B h3 h4 => ?_) ?_
      · exact Br.t rfl ⟨c, rfl, h3 rfl⟩
      · refine CB.all (bs := z.cps.toList.map isLetterC) (by rw [itemsOf_upd, filter_all, List.map_map]; rfl) ?_
        refine Lv.back (Ext.new hp) ?_
        have e : isWordD (.str z) = (z.cps.toList.map isLetterC).all id := by
          show (decide (1 ≤ z.length) && decide (z.length ≤ 8) && z.cps.toList.all isLetterC) = _
          rw [decide_eq_true h1z, decide_eq_true hz, List.all_map]; rfl
        rw [e] at hR
        exact hR
  · refine Br.t rfl ?_
    have e : isWordD (.str z) = false := by
      rw [decide_eq_false_iff_not] at h1
      have : ¬ 1 ≤ z.length := by omega
      show (decide (1 ≤ z.length) && _ && _) = false
      rw [decide_eq_false this]; rfl
    rw [e] at hR
    exact Lv.here hR

def spKnownT (K : PySem.W.Frag) (f : T3 → D → Bool) : Sp3 := fun ds T R _ => ∃ v, ds = [v] ∧ Typed K T v ∧ R (.bl (f T v)) T
def isIntegerD : D → Bool
  | .int _ => true
  | _ => false
theorem sc_is_integer : FnScope ["value"] ["value"] (defScope (topS 6)) := ⟨rfl, rfl, rfl, by decide +kernel, rfl, by decide +kernel, by decide +kernel⟩
theorem ok_is_integer (B : Blt mg) (F : FnD K "is_integer" (topS 6) f fd) : Fn3 P w K mg base 1 f fd ["value"] (spKnown K isIntegerD) := by
  refine fn3_ofS F sc_is_integer (fun ds T R E ⟨v, h, _⟩ => by rw [h]; rfl) fun cdv A outer s H E hr tk => ⟨_, (pss3_one (ps3_ret (pe3_and (pe3_isi (pv3 0) (by rfl) (by exact B.isinstance) (by rfl) (by exact B.int) (by first | exact boot_int | decide +kernel) (by decide)) (pe3_one (pe3_not (pe3_isi (pv3 0) (by rfl) (by exact B.isinstance) (by rfl) (by exact B.bool) (by first | exact boot_bool | decide +kernel) (by decide))))))), ?_⟩
  rintro ds T R E ⟨v, rfl, ty, hR⟩
  refine Isi.of ty (is_int v) ?_
  refine Br.mk (fun h => ?_) (fun h => ?_)
  · refine Isi.of ty (is_bool v) (Lv.here ?_)
    have e : isIntegerD v = !isBlD v := by cases v <;> first | rfl | cases h
    rw [← e]; exact hR
  · have e : isIntegerD v = false := by cases v <;> first | rfl | cases h
    rw [e] at hR
    exact Lv.here hR
theorem sc_is_list : FnScope ["value"] ["value"] (defScope (topS 7)) := ⟨rfl, rfl, rfl, by decide +kernel, rfl, by decide +kernel, by decide +kernel⟩
theorem ok_is_list (B : Blt mg) (F : FnD K "is_list" (topS 7) f fd) : Fn3 P w K mg base 1 f fd ["value"] (spKnownT K fun T v => (seqOf T v).isSome) := by
  refine fn3_ofS F sc_is_list (fun ds T R E ⟨v, h, _⟩ => by rw [h]; rfl) fun cdv A outer s H E hr tk => ⟨_, (pss3_one (ps3_ret (pe3_isi2 (pv3 0) (by rfl) (by exact B.isinstance) (by rfl) (by exact B.list) (by first | exact boot_list | decide +kernel) (by rfl) (by exact B.tuple) (by first | exact boot_tuple | decide +kernel) (by decide) (by decide)))), ?_⟩
  rintro ds T R E ⟨v, rfl, ty, hR⟩
  exact Isi.of ty (is_seq v) (Lv.here hR)
/-- a call's reading, its promise kept -/
theorem Go.known {K : PySem.W.Frag} {f : D → Bool} {v : D} {T : T3} {R : D → T3 → Prop} {E : EX3} (ty : Typed K T v) (h : R (.bl (f v)) T) : Go (spKnown K f) [v] T R E := ⟨v, rfl, ty, h⟩
theorem Go.knownT {K : PySem.W.Frag} {f : T3 → D → Bool} {v : D} {T : T3} {R : D → T3 → Prop} {E : EX3} (ty : Typed K T v) (h : R (.bl (f T v)) T) : Go (spKnownT K f) [v] T R E := ⟨v, rfl, ty, h⟩
end
end L3
namespace L3
open PySem PySem.Spec L2
open LamX hiding takes0
open PyProof.Rows hiding St
section
variable {P : Program} {w : World} {K : PySem.W.Frag} {mg : Str → Option Value} {base : Heap} {f : Addr} {fd : FuncData}
/-- is_piece -/
def isWordsD (T : T3) (v : D) : Bool := match seqOf T v with
  | some xs => decide (1 ≤ xs.length) && decide (xs.length ≤ 8) && xs.all isWordD
  | none => false
def isTimesD : D → Bool
  | .int i => decide (0 ≤ i) && decide (i ≤ 10 ^ 30)
  | _ => false
def isPieceD (T : T3) : D → Bool
  | .tup [a, b] => isWordsD T a && isTimesD b
  | _ => false
/-- a value whose parts, and theirs, are known -/
def Typed2 (K : PySem.W.Frag) (T : T3) (v : D) : Prop := Typed K T v ∧ ∀ ds, v = .tup ds → ∀ d ∈ ds, Typed K T d ∧ ∀ xs, seqOf T d = some xs → ∀ x ∈ xs, Typed K T x
theorem Typed2.tup {K : PySem.W.Frag} {T : T3} {ds : List D} (h : ∀ d ∈ ds, Ty1 K T d) : Typed2 K T (.tup ds) := ⟨trivial, fun es e => by cases e; exact h⟩
theorem Typed2.flat {K : PySem.W.Frag} {T : T3} {v : D} (h : Typed K T v) (n : ∀ ds, v ≠ .tup ds) : Typed2 K T v := ⟨h, fun ds e => absurd e (n ds)⟩
def spPiece (K : PySem.W.Frag) : Sp3 := fun ds T R _ => ∃ v, ds = [v] ∧ Typed2 K T v ∧ R (.bl (isPieceD T v)) T
theorem sc_is_piece : FnScope ["value", "segments", "times", "word"] ["value"] (defScope (topS 12)) := ⟨rfl, rfl, rfl, by decide +kernel, rfl, by decide +kernel, by decide +kernel⟩
theorem ok_is_piece (B : Blt mg) (C : Cns mg) (F : FnD K "is_piece" (topS 12) f fd) (F_is_word : DfOk P w K mg base "is_word" 1 ["value"] [] (spKnown K isWordD)) (F_is_integer : DfOk P w K mg base "is_integer" 1 ["value"] [] (spKnown K isIntegerD)) (F_is_list : DfOk P w K mg base "is_list" 1 ["value"] [] (spKnownT K fun T v => (seqOf T v).isSome)) :
    Fn3 P w K mg base 2 f fd ["value"] (spPiece K) := by
  refine fn3_ofS F sc_is_piece (fun ds T R E ⟨v, h, _⟩ => by rw [h]; rfl) fun cdv A outer s H E hr tk => ⟨_, (pss3_cons (ps3_if (PW3.pt (pw3_or (pt3_not (pt3_val (pe3_isi (pv3 0) (by rfl) (by exact B.isinstance) (by rfl) (by exact B.tuple) (by first | exact boot_tuple | decide +kernel) (by decide)))) (pw3_or (pt3_cmp (o3_ne (by exact hr.units)) (pe3_callB c3_len (by rfl) (by exact B.len) (by first | exact boot_len | decide +kernel) (pa3_cons (pv3 0) pa3_nil)) pe3_int (nomark _)) (pw3_or1 (pt3_not (pt3_val (pe3_callD (by exact F_is_list) tk (by exact hr.mono (by decide)) (by rfl) (pa3_cons (pe3_ix (pv3 0) pe3_int) pa3_nil)))))))) (pss3_one (ps3_ret pe3_bl)) pss3_nil)
      (pss3_cons (ps3_asg (pv3 0) (pg3_tup (n := 2) (by rfl) (pgs3_cons (pg3_name (i := 1) (by exact sc_is_piece.nd) (by rfl) (by first | exact Or.inl rfl | exact Or.inr rfl)) (pgs3_cons (pg3_name (i := 2) (by exact sc_is_piece.nd) (by rfl) (by first | exact Or.inl rfl | exact Or.inr rfl)) pgs3_nil))))
      (pss3_cons (ps3_if (PW3.pt (pw3_or (pt3_not (pt3_chain o3_le o3_le pe3_int (pe3_callB c3_len (by rfl) (by exact B.len) (by first | exact boot_len | decide +kernel) (pa3_cons (pv3 1) pa3_nil)) (by exact g_MOST_WORDS C))) (pw3_or1 (pt3_not (pt3_val (pe3_callB (c3_all (by rfl)) (by rfl) (by exact B.all) (by first | exact boot_all | decide +kernel) (pa3_cons (pe3_lc (own := [("word", 3)]) (by rfl) (by exact sc_is_piece.nd) ((pi3_tup (pv3 1)).or (pi3_list (pv3 1))) (by exact blkOk_by (N := ["value", "segments", "times", "word"]) (sc := defScope (topS 12)) (by decide +kernel)) (GC.name (by decide)) (fun _ _ _ _ _ => (pg_name (i := 3) (by exact sc_is_piece.nd) (by rfl) (by first | exact Or.inl rfl | exact Or.inr rfl))) (fun _ _ _ _ _ => pts3_nil) (fun _ _ _ _ _ => (pe3_callD (by exact F_is_word) takes0 (by exact hr.mono (by decide)) (by rfl) (pa3_cons (pv3 3) pa3_nil)))) pa3_nil))))))) (pss3_one (ps3_ret pe3_bl)) pss3_nil)
      (pss3_one (ps3_ret (pe3_and (pe3_callD (by exact F_is_integer) tk (by exact hr.mono (by decide)) (by rfl) (pa3_cons (pv3 2) pa3_nil)) (pe3_one (pe3_chain o3_le o3_le pe3_int (pv3 2) (by exact g_MOST_TIMES C))))))))), ?_⟩
  rintro ds T R E ⟨v, rfl, ⟨ty, ty2⟩, hR⟩
  refine Isi.of ty (is_tup v) ?_
  refine Br.mk (fun h => ?_) (fun h => ?_)
  · refine Br.t rfl ?_
    have e : isPieceD T v = false := by cases v <;> first | rfl | cases h
    rw [e] at hR
    exact Lv.here hR
  cases v with
  | tup ds => ?_
  | _ => cases h
  have ne : ∀ n : Nat, n ≠ 2 → (!eqN T 9 (.int (n : Int)) (.int 2)) = true := fun n hn => by
    show (!((n : Int) == 2)) = true
    have : ((n : Int) == 2) = false := by rw [beq_eq_false_iff_ne]; omega
    rw [this]; rfl
  have no : ds.length ≠ 2 → isPieceD T (.tup ds) = false := fun hn => by
    rcases ds with _ | ⟨a, _ | ⟨b, _ | ⟨c, r⟩⟩⟩ <;> first | rfl | exact absurd rfl hn
  by_cases hl : ds.length = 2
  case neg =>
    rw [no hl] at hR
    exact CB.len rfl ⟨rfl, rfl, Br.t (ne _ hl) (Br.t rfl (Lv.here hR))⟩
  obtain ⟨a, b, rfl⟩ : ∃ a b, ds = [a, b] := by
    rcases ds with _ | ⟨a, _ | ⟨b, _ | ⟨c, r⟩⟩⟩ <;> first | exact ⟨_, _, rfl⟩ | cases hl
  obtain ⟨ta, tas⟩ := ty2 _ rfl a (by simp)
  have tb := (ty2 _ rfl b (by simp)).1
  refine CB.len rfl ⟨rfl, rfl, Br.f rfl ?_⟩
  refine ⟨_, a, rfl, rfl, Go.knownT ta ?_⟩
  have ih : isPieceD T (.tup [a, b]) = (isWordsD T a && isTimesD b) := rfl
  cases hs : seqOf T a with
  | none =>
    refine Br.t rfl ?_
    rw [ih, show isWordsD T a = false by unfold isWordsD; rw [hs]] at hR
    exact Lv.here hR
  | some xs => ?_
  have ih2 : isWordsD T a = (decide (1 ≤ xs.length) && decide (xs.length ≤ 8) && xs.all isWordD) := by unfold isWordsD; rw [hs]
  refine Br.f rfl ?_
  refine ⟨rfl, ?_⟩
  refine ⟨rfl, ?_⟩
  refine CB.len hs ?_
  refine Br.mk (fun h1 => ?_) (fun h1 => ?_)
  case refine_2 =>
    have : decide (1 ≤ xs.length) = false := by
      rw [decide_eq_false_iff_not] at h1 ⊢; omega
    (repeat (first | refine Br.t rfl ?_ | refine Br.f rfl ?_))
    rw [ih, ih2, this] at hR
    exact Lv.here hR
  have h1' : decide (1 ≤ xs.length) = true := by
    rw [decide_eq_true_iff] at h1 ⊢; omega
  refine Br.mk (fun h2 => ?_) (fun h2 => ?_)
  · have h2' : decide ((xs.length : Int) ≤ 8) = false := by simpa using h2
    have : decide (xs.length ≤ 8) = false := by
      rw [decide_eq_false_iff_not] at h2' ⊢; omega
    rw [ih, ih2, this] at hR
    simp at hR
    (repeat (first | refine Br.t rfl ?_ | refine Br.f rfl ?_))
    exact Lv.here hR
  have h2' : decide (xs.length ≤ 8) = true := by
    have h2' : decide ((xs.length : Int) ≤ 8) = true := by simpa using h2
    rw [decide_eq_true_iff] at h2' ⊢; omega
  rw [h1', h2', Bool.and_true, Bool.true_and] at ih2
  refine it_seq (fun _ h => h) hs fun G hG p hp => ?_
  refine comp3_pure id (fun x => .bl (isWordD x)) (fun _ => true) (List.map_id _).symm (Nat.le_trans (of_decide_eq_true h2') (by decide)) (fun acc => hG _ (seqOf_ext (Ext.new hp) hs)) (fun x hx acc A B h3 h4 => ?_) ?_
  · exact Br.t rfl (Go.known ((tas xs hs x hx).ext (Ext.new hp)) (h3 rfl))
  refine CB.all (bs := xs.map isWordD) (by rw [itemsOf_upd, filter_all, List.map_map]; rfl) ?_
  have e3 : (xs.map isWordD).all id = xs.all isWordD := by rw [List.all_map]; rfl
  refine Br.mk (fun h3 => ?_) (fun h3 => ?_)
  · have : xs.all isWordD = false := by
      rw [← e3]; simpa using h3
    rw [ih, ih2, this] at hR
    (repeat (first | refine Br.t rfl ?_ | refine Br.f rfl ?_))
    exact Lv.back (Ext.new hp) hR
  have h3' : xs.all isWordD = true := by
    rw [← e3]; simpa using h3
  rw [h3'] at ih2
  rw [ih, ih2, Bool.true_and] at hR
  refine Go.known (tb.ext (Ext.new hp)) ?_
  refine Br.mk (fun h4 => ?_) (fun h4 => ?_)
  case refine_2 =>
    have : isTimesD b = false := by cases b <;> first | rfl | cases h4
    rw [this] at hR
    exact Lv.back (Ext.new hp) hR
  cases b with
  | int i => ?_
  | _ => cases h4
  refine Br.mk (fun h5 => ?_) (fun h5 => ?_)
  · have : isTimesD (.int i) = decide (i ≤ 10 ^ 30) := by
      show (decide (0 ≤ i) && decide (i ≤ 10 ^ 30)) = _
      rw [h5, Bool.true_and]
    rw [this] at hR
    exact Lv.back (Ext.new hp) hR
  · have : isTimesD (.int i) = false := by
      show (decide (0 ≤ i) && decide (i ≤ 10 ^ 30)) = _
      rw [h5, Bool.false_and]
    rw [this] at hR
    exact Lv.back (Ext.new hp) hR
/-- Far -/
abbrev MtD (K : PySem.W.Frag) (x qual : Str) (st : Stmt) (f : Addr) (fd : FuncData) : Prop := FunD K x qual (defArgs st) (defBody st) (defScope st) [] [] f fd
theorem sc_Far_state : FnScope ["self"] ["self"] (defScope (inClass (topS 13) 1)) := ⟨rfl, rfl, rfl, by decide +kernel, rfl, by decide +kernel, by decide +kernel⟩
theorem ok_Far_state (F : MtD K "state" "Far.state" (inClass (topS 13) 1) f fd) : Fn3 P w K mg base 1 f fd ["self"] (spGet K "own_state") := by
  refine fn3_ofS F sc_Far_state (fun ds T R E ⟨x, d, h, _⟩ => by rw [h]; rfl) fun cdv A outer s H E hr tk => ⟨_, (pss3_one (ps3_ret (pe3_fld (pv3 0)))), ?_⟩
  rintro ds T R E ⟨x, d, rfl, h, hR⟩
  exact ⟨d, h, Lv.here hR⟩
theorem sc_Far_pieces : FnScope ["self"] ["self"] (defScope (inClass (topS 13) 2)) := ⟨rfl, rfl, rfl, by decide +kernel, rfl, by decide +kernel, by decide +kernel⟩
theorem ok_Far_pieces (F : MtD K "pieces" "Far.pieces" (inClass (topS 13) 2) f fd) : Fn3 P w K mg base 1 f fd ["self"] (spGet K "own_pieces") := by
  refine fn3_ofS F sc_Far_pieces (fun ds T R E ⟨x, d, h, _⟩ => by rw [h]; rfl) fun cdv A outer s H E hr tk => ⟨_, (pss3_one (ps3_ret (pe3_fld (pv3 0)))), ?_⟩
  rintro ds T R E ⟨x, d, rfl, h, hR⟩
  exact ⟨d, h, Lv.here hR⟩
theorem isPieceD_inv {T : T3} {x : D} (h : isPieceD T x = true) : ∃ a b ys, x = .tup [a, b] ∧ seqOf T a = some ys ∧ isTimesD b = true := by
  unfold isPieceD at h
  split at h
  · next a b =>
    rw [Bool.and_eq_true] at h
    have h1 := h.1
    unfold isWordsD at h1
    cases e : seqOf T a with
    | none => rw [e] at h1; cases h1
    | some ys => exact ⟨a, b, ys, rfl, e, h.2⟩
  · cases h
theorem Typed2.ext {K : PySem.W.Frag} {T T' : T3} (xe : Sim T T') {v : D} (h : Typed2 K T v) : Typed2 K T' v :=
  ⟨h.1.sim xe, fun ds e d hd => ⟨(h.2 ds e d hd).1.sim xe, fun xs hs x hx => by
    rw [seqOf_typed xe (h.2 ds e d hd).1] at hs
    exact ((h.2 ds e d hd).2 xs hs x hx).sim xe⟩⟩
theorem isPieceD_ext {K : PySem.W.Frag} {T T' : T3} (xe : Sim T T') {v : D} (h : Typed2 K T v) : isPieceD T' v = isPieceD T v := by
  unfold isPieceD
  split
  · next a b =>
    unfold isWordsD
    rw [seqOf_typed xe (h.2 _ rfl a (by simp)).1]
  · rfl
def arePiecesD (T : T3) (v : D) : Bool := match seqOf T v with
  | some xs => decide (xs.length ≤ 20) && xs.all (isPieceD T)
  | none => false
def normPiece (T : T3) : D → D
  | .tup [a, b] => .tup [.tup ((seqOf T a).getD []), b]
  | d => d
def normPieces (T : T3) (v : D) : List D := ((seqOf T v).getD []).map (normPiece T)
def farFs (st : D) (pcs : List D) : List (Str × D) := [("own_state", st), ("own_pieces", .tup pcs)]
/-- a value whose items are known down to the words of pieces -/
def Typed3 (K : PySem.W.Frag) (T : T3) (v : D) : Prop := Typed K T v ∧ ∀ xs, seqOf T v = some xs → ∀ x ∈ xs, Typed2 K T x
def spFar (K : PySem.W.Frag) : Sp3 := fun ds T R E => ∃ p st pcs, ds = [.ref p, st, pcs] ∧ T p = some (.ins "Far" []) ∧ Typed K T st ∧ Typed3 K T pcs ∧
  (isWordD st = false → E "InvalidAddress" [("field", .str "state")] T) ∧ (isWordD st = true → arePiecesD T pcs = false → E "InvalidAddress" [("field", .str "pieces")] T) ∧
  (isWordD st = true → arePiecesD T pcs = true → R .non (updT T p (.ins "Far" (farFs st (normPieces T pcs)))))
theorem sc_Far___init__ : FnScope ["self", "state", "pieces", "piece", "segments", "times"] ["self", "state", "pieces"] (defScope (inClass (topS 13) 0)) := ⟨rfl, rfl, rfl, by decide +kernel, rfl, by decide +kernel, by decide +kernel⟩
theorem ok_Far (B : Blt mg) (C : Cns mg) (F : MtD K "__init__" "Far.__init__" (inClass (topS 13) 0) f fd) (F_is_word : DfOk P w K mg base "is_word" 1 ["value"] [] (spKnown K isWordD)) (F_is_list : DfOk P w K mg base "is_list" 1 ["value"] [] (spKnownT K fun T v => (seqOf T v).isSome))
    (F_is_piece : DfOk P w K mg base "is_piece" 2 ["value"] [] (spPiece K)) (X_InvalidAddress : ExOk P K mg "InvalidAddress" "field") (f1 : FldOk K "Far" "own_state") (f2 : FldOk K "Far" "own_pieces") :
    Fn3 P w K mg base 3 f fd ["self", "state", "pieces"] (spFar K) := by
  refine fn3_ofS F sc_Far___init__ (fun ds T R E ⟨p, st, pcs, h, _⟩ => by rw [h]; rfl) fun cdv A outer s H E hr tk => ⟨_, (pss3_cons (ps3_if (pt3_not (pt3_val (pe3_callD (by exact F_is_word) tk (by exact hr.mono (by decide)) (by rfl) (pa3_cons (pv3 1) pa3_nil)))) (pss3_one (ps3_raise (by exact X_InvalidAddress) (by rfl) tk (by exact hr) (by rfl) (pa3_cons pe3_str pa3_nil))) pss3_nil)
      (pss3_cons (ps3_if (PW3.pt (pw3_or (pt3_not (pt3_val (pe3_callD (by exact F_is_list) tk (by exact hr.mono (by decide)) (by rfl) (pa3_cons (pv3 2) pa3_nil)))) (pw3_or (pt3_cmp o3_gt (pe3_callB c3_len (by rfl) (by exact B.len) (by first | exact boot_len | decide +kernel) (pa3_cons (pv3 2) pa3_nil)) (by exact g_MOST_PIECES C) (nomark _)) (pw3_or1 (pt3_not (pt3_val (pe3_callB (c3_all (by rfl)) (by rfl) (by exact B.all) (by first | exact boot_all | decide +kernel) (pa3_cons (pe3_lc (own := [("piece", 3)]) (by rfl) (by exact sc_Far___init__.nd) ((pi3_tup (pv3 2)).or (pi3_list (pv3 2))) (by exact blkOk_by (N := ["self", "state", "pieces", "piece", "segments", "times"]) (sc := defScope (inClass (topS 13) 0)) (by decide +kernel)) (GC.name (by decide)) (fun _ _ _ _ _ => (pg_name (i := 3) (by exact sc_Far___init__.nd) (by rfl) (by first | exact Or.inl rfl | exact Or.inr rfl))) (fun _ _ _ _ _ => pts3_nil) (fun _ _ _ _ _ => (pe3_callD (by exact F_is_piece) takes0 (by exact hr.mono (by decide)) (by rfl) (pa3_cons (pv3 3) pa3_nil)))) pa3_nil)))))))) (pss3_one (ps3_raise (by exact X_InvalidAddress) (by rfl) tk (by exact hr) (by rfl) (pa3_cons pe3_str pa3_nil))) pss3_nil)
      (pss3_cons (ps3_fld (pv3 0) (pv3 1))
      (pss3_one (ps3_fld (pv3 0) (pe3_callTy c3_tuple (by rfl) (by exact B.tuple) (by first | exact boot_tuple | decide +kernel) (pa3_cons (pe3_lc (own := [("segments", 4), ("times", 5)]) (by rfl) (by exact sc_Far___init__.nd) ((pi3_tup (pv3 2)).or (pi3_list (pv3 2))) (by exact blkOk_by (N := ["self", "state", "pieces", "piece", "segments", "times"]) (sc := defScope (inClass (topS 13) 0)) (by decide +kernel)) (GC.tup (n := 2) (GCs.cons (GC.name (by decide)) (GCs.cons (GC.name (by decide)) GCs.nil))) (fun _ _ _ _ _ => (pg_tup (n := 2) (by rfl) (pgs_cons (pg_name (i := 4) (by exact sc_Far___init__.nd) (by rfl) (by first | exact Or.inl rfl | exact Or.inr rfl)) (pgs_cons (pg_name (i := 5) (by exact sc_Far___init__.nd) (by rfl) (by first | exact Or.inl rfl | exact Or.inr rfl)) pgs_nil)))) (fun _ _ _ _ _ => pts3_nil) (fun _ _ _ _ _ => (pe3_tup (pa3_cons (pe3_callTy c3_tuple (by rfl) (by exact B.tuple) (by first | exact boot_tuple | decide +kernel) (pa3_cons (pv3 4) pa3_nil)) (pa3_cons (pv3 5) pa3_nil))))) pa3_nil))))))), ?_⟩
  rintro ds T R E ⟨p, st, pcs, rfl, hp, t1, ⟨t2, t3⟩, e1, e2, hR⟩
  refine Go.known t1 ?_
  refine Br.mk (fun h => ?_) (fun h => ?_)
  · have : isWordD st = false := by simpa using h
    exact LvE.to (Sub.refl _) (e1 this)
  have hw : isWordD st = true := by simpa using h
  have e2 := e2 hw
  have hR := hR hw
  refine Go.knownT t2 ?_
  cases hs : seqOf T pcs with
  | none =>
    (repeat (first | refine Br.t rfl ?_ | refine Br.f rfl ?_))
    exact LvE.to (Sub.refl _) (e2 (by unfold arePiecesD; rw [hs]))
  | some xs => ?_
  have hA : arePiecesD T pcs = (decide (xs.length ≤ 20) && xs.all (isPieceD T)) := by unfold arePiecesD; rw [hs]
  have hN : normPieces T pcs = xs.map (normPiece T) := by unfold normPieces; rw [hs]; rfl
  refine Br.f rfl ?_
  refine CB.len hs ?_
  refine Br.mk (fun h2 => ?_) (fun h2 => ?_)
  · (repeat (first | refine Br.t rfl ?_ | refine Br.f rfl ?_))
    refine LvE.to (Sub.refl _) (e2 ?_)
    rw [hA]
    have : decide (xs.length ≤ 20) = false := by
      rw [decide_eq_true_iff] at h2
      rw [decide_eq_false_iff_not]; omega
    rw [this]; rfl
  have hl : xs.length ≤ 20 := by
    rw [decide_eq_false_iff_not] at h2; omega
  refine it_seq (fun _ h => h) hs fun G hG q hq => ?_
  have x1 : Ext T (updT T q (.lst [])) := Ext.new hq
  refine comp3_pure id (fun x => .bl (isPieceD T x)) (fun _ => true) (List.map_id _).symm (Nat.le_trans hl (by decide)) (fun acc => hG _ (seqOf_ext (Ext.new hq) hs)) (fun x hx acc A B h3 h4 => ?_) ?_
  · have ta := t3 xs hs x hx
    have xe : Ext T (updT T q (.lst acc)) := Ext.new hq
    refine Br.t rfl ⟨x, rfl, ta.ext xe.sim, ?_⟩
    rw [isPieceD_ext xe.sim ta]
    exact h3 rfl
  refine CB.all (bs := xs.map (isPieceD T)) (by rw [itemsOf_upd, filter_all, List.map_map]; rfl) ?_
  have e3 : (xs.map (isPieceD T)).all id = xs.all (isPieceD T) := by rw [List.all_map]; rfl
  refine Br.mk (fun h3 => ?_) (fun h3 => ?_)
  · have : xs.all (isPieceD T) = false := by
      rw [← e3]; simpa using h3
    (repeat (first | refine Br.t rfl ?_ | refine Br.f rfl ?_))
    exact LvE.to (Ext.new hq).sub (e2 (by rw [hA, this, Bool.and_false]))
  have h3' : xs.all (isPieceD T) = true := by
    rw [← e3]; simpa using h3
  have hR := hR (by rw [hA, h3', decide_eq_true hl]; rfl)
  (repeat (first | refine Br.t rfl ?_ | refine Br.f rfl ?_))
  have hq' : q ≠ p := fun z => by rw [z, hp] at hq; cases hq
  have xq : Ext T (updT T q (.lst (((xs.filter fun _ => true).map fun x => D.bl (isPieceD T x))))) := Ext.new hq
  refine ⟨"Far", [], xq _ _ hp, f1, by decide, ?_⟩
  have hp1 := xq _ _ hp
  have s1 : ∀ {d : D} {ys : List D}, seqOf T d = some ys → seqOf (updT (updT T q (.lst (((xs.filter fun _ => true).map fun x => D.bl (isPieceD T x))))) p (.ins "Far" (putD "own_state" st []))) d = some ys := fun h => seqOf_upd (items_ins hp1) (seqOf_ext xq h)
  refine it_seq (fun _ h => h) (s1 hs) fun G hG q2 hq2 => ?_
  have hq2' : T q2 = none := xq.none (updT_none hq2).1
  refine comp3_pure id (normPiece T) (fun _ => true) (List.map_id _).symm (Nat.le_trans hl (by decide)) (fun acc => hG _ (seqOf_ext (Ext.new hq2) (s1 hs))) (fun x hx acc A B h3 h4 => ?_) ?_
  · have hp : isPieceD T x = true := List.all_eq_true.mp h3' x hx
    obtain ⟨a, b, ys, rfl, hy, _⟩ := isPieceD_inv hp
    refine ⟨rfl, rfl, Br.t rfl ?_⟩
    refine CB.tuple (seqOf_ext (Ext.new hq2) (s1 hy)) ⟨by show 2 ≤ sizeLine; decide, ?_⟩
    have e : normPiece T (.tup [a, b]) = .tup [.tup ys, b] := by
      show D.tup [.tup ((seqOf T a).getD []), b] = _
      rw [hy]; rfl
    rw [← e]
    exact h3 rfl
  refine CB.tuple (xs := xs.map (normPiece T)) (by show itemsOf _ q2 = _; rw [itemsOf_upd, filter_all]) ?_
  refine ⟨"Far", putD "own_state" st [], Ext.new hq2 _ _ updT_same, f2, by show 1 < 1000; decide, ?_⟩
  rw [← hN]
  refine Lv.to (Sub.trans ?_ (Sub.refl _)) hR
  have k : SubBut p T T := (Sub.refl T).but
  exact (((k.new hq).own).new hq2').put
/-- size_of -/
def pieceSize : D → Int
  | .tup [.tup ys, .int t] => (ys.length : Int) * t
  | _ => 0
def sizeOfD (pcs : List D) : Int := (pcs.map pieceSize).sum
def NormPs (pcs : List D) : Prop := pcs.length ≤ 20 ∧ ∀ x ∈ pcs, ∃ ys t, x = .tup [.tup ys, .int t] ∧ ys.length ≤ 8 ∧ 0 ≤ t ∧ t ≤ 10 ^ 30
def spSize : Sp3 := fun ds T R _ => ∃ x st pcs, ds = [x] ∧ insOf T x = some (("Far" : Str), farFs st pcs) ∧ NormPs pcs ∧ R (.int (sizeOfD pcs)) T
theorem log2_le {n k : Nat} (h : n < 2 ^ k) : n.log2 ≤ k := by
  by_cases e : n = 0
  · subst e; simp
  · exact Nat.le_of_lt ((Nat.log2_lt e).mpr h)
theorem sc_size_of : FnScope ["far", "segments", "times"] ["far"] (defScope (topS 14)) := ⟨rfl, rfl, rfl, by decide +kernel, rfl, by decide +kernel, by decide +kernel⟩
theorem ok_size_of (B : Blt mg) (F : FnD K "size_of" (topS 14) f fd) (P_pieces : PrOk P w K mg base "Far" "pieces" 1 (spGet K "own_pieces")) (f2 : FldOk K "Far" "own_pieces") : Fn3 P w K mg base 3 f fd ["far"] spSize := by
  refine fn3_ofS F sc_size_of (fun ds T R E ⟨x, st, pcs, h, _⟩ => by rw [h]; rfl) fun cdv A outer s H E hr tk => ⟨_, (pss3_one (ps3_ret (pe3_callB (c3_sum (by rfl)) (by rfl) (by exact B.sum) (by first | exact boot_sum | decide +kernel) (pa3_cons (pe3_lc (own := [("segments", 1), ("times", 2)]) (by rfl) (by exact sc_size_of.nd) ((pi3_tup (pe3_propD (pv3 0) (by exact P_pieces) (by exact hr.mono (by decide)))).or (pi3_list (pe3_propD (pv3 0) (by exact P_pieces) (by exact hr.mono (by decide))))) (by exact blkOk_by (N := ["far", "segments", "times"]) (sc := defScope (topS 14)) (by decide +kernel)) (GC.tup (n := 2) (GCs.cons (GC.name (by decide)) (GCs.cons (GC.name (by decide)) GCs.nil))) (fun _ _ _ _ _ => (pg_tup (n := 2) (by rfl) (pgs_cons (pg_name (i := 1) (by exact sc_size_of.nd) (by rfl) (by first | exact Or.inl rfl | exact Or.inr rfl)) (pgs_cons (pg_name (i := 2) (by exact sc_size_of.nd) (by rfl) (by first | exact Or.inl rfl | exact Or.inr rfl)) pgs_nil)))) (fun _ _ _ _ _ => pts3_nil) (fun _ _ _ _ _ => (pe3_op o3_mul (pe3_callB c3_len (by rfl) (by exact B.len) (by first | exact boot_len | decide +kernel) (pa3_cons (pv3 1) pa3_nil)) (pv3 2)))) pa3_nil)))), ?_⟩
  rintro ds T R E ⟨x0, st, pcs, rfl, hx0, ⟨hl, hp⟩, hR⟩
  refine it_seq (a := .tup pcs) (fun R' h => ⟨_, hx0, ⟨_, _, rfl, ⟨⟨_, _, hx0, f2, rfl⟩⟩, h⟩⟩) rfl fun G hG q hq => ?_
  refine comp3_pure id (fun x => .int (pieceSize x)) (fun _ => true) (List.map_id _).symm (Nat.le_trans hl (by decide)) (fun acc => hG _ rfl) (fun x hx acc A B h3 h4 => ?_) ?_
  · obtain ⟨ys, t, rfl, h8, h0, h30⟩ := hp x hx
    refine ⟨rfl, rfl, Br.t rfl ?_⟩
    refine CB.len rfl ⟨?_, h3 rfl⟩
    show ((ys.length : Int)).natAbs.log2 + t.natAbs.log2 < 1000000
    have a1 : ((ys.length : Int)).natAbs.log2 ≤ 4 := log2_le (by omega)
    have a2 : t.natAbs.log2 ≤ 100 := log2_le (by
      have : t.natAbs ≤ 10 ^ 30 := by omega
      exact Nat.lt_of_le_of_lt this (by decide))
    omega
  refine CB.sum (ns := pcs.map pieceSize) (by rw [itemsOf_upd, filter_all, List.map_map]; rfl) ?_
  exact Lv.to (Ext.new hq).sub hR
end
end L3
namespace L3
open PySem PySem.Spec L2
open LamX hiding takes0
open PyProof.Rows hiding St
/-! ### the tape of the laws k40, k41, k43, k44 -/
def tapeO (c : Addr) (spot rest : Int) : O := .dct [(.str "cells", .ref c), (.str "spot", .int spot), (.str "rest", .int rest)]
structure Tape (T : T3) (a c : Addr) (cells : List Int) (spot rest : Int) : Prop where
  tape : T a = some (tapeO c spot rest)
  cell : T c = some (.lst (cells.map .int))
  full : cells ≠ []
theorem Tape.ext {T T' : T3} (x : Ext T T') {a c : Addr} {cells : List Int} {spot rest : Int} (h : Tape T a c cells spot rest) : Tape T' a c cells spot rest := ⟨x _ _ h.tape, x _ _ h.cell, h.full⟩
theorem Tape.ne {T : T3} {a c : Addr} {cells : List Int} {spot rest : Int} (h : Tape T a c cells spot rest) : c ≠ a := fun z => by
  have := h.cell
  rw [z, h.tape] at this
  cases this
theorem Tape.put {T : T3} {a c : Addr} {cells : List Int} {spot rest : Int} (h : Tape T a c cells spot rest) (spot' rest' : Int) : Tape (updT T a (tapeO c spot' rest')) a c cells spot' rest' := ⟨updT_same, by rw [updT_ne h.ne]; exact h.cell, h.full⟩
theorem Tape.dct {T : T3} {a c : Addr} {cells : List Int} {spot rest : Int} (h : Tape T a c cells spot rest) : Dct T a [(.str "cells", .ref c), (.str "spot", .int spot), (.str "rest", .int rest)] := ⟨h.tape, rfl⟩
theorem get_cells {c : Addr} {spot rest : Int} : getD3 [(.str "cells", .ref c), (.str "spot", .int spot), (.str "rest", .int rest)] (.inr "cells") = some (.ref c) := by rfl
theorem get_spot {c : Addr} {spot rest : Int} : getD3 [(.str "cells", .ref c), (.str "spot", .int spot), (.str "rest", .int rest)] (.inr "spot") = some (.int spot) := by rfl
theorem get_rest {c : Addr} {spot rest : Int} : getD3 [(.str "cells", .ref c), (.str "spot", .int spot), (.str "rest", .int rest)] (.inr "rest") = some (.int rest) := by rfl
theorem put_spot {c : Addr} {spot rest v : Int} : putD3 [(.str "cells", .ref c), (.str "spot", .int spot), (.str "rest", .int rest)] (.str "spot") (.inr "spot") (.int v) = [(.str "cells", .ref c), (.str "spot", .int v), (.str "rest", .int rest)] := by rfl
theorem put_rest {c : Addr} {spot rest v : Int} : putD3 [(.str "cells", .ref c), (.str "spot", .int spot), (.str "rest", .int rest)] (.str "rest") (.inr "rest") (.int v) = [(.str "cells", .ref c), (.str "spot", .int spot), (.str "rest", .int v)] := by rfl
/-- readings of the tape -/
theorem Tape.getCells {T : T3} {a c : Addr} {cells : List Int} {spot rest : Int} (h : Tape T a c cells spot rest) {R : D → T3 → Prop} (k : R (.ref c) T) : DG (.ref a) (.str "cells") T R := ⟨⟨_, _, _, h.dct, rfl, get_cells, k⟩⟩
theorem Tape.getSpot {T : T3} {a c : Addr} {cells : List Int} {spot rest : Int} (h : Tape T a c cells spot rest) {R : D → T3 → Prop} (k : R (.int spot) T) : DG (.ref a) (.str "spot") T R := ⟨⟨_, _, _, h.dct, rfl, get_spot, k⟩⟩
theorem Tape.getRest {T : T3} {a c : Addr} {cells : List Int} {spot rest : Int} (h : Tape T a c cells spot rest) {R : D → T3 → Prop} (k : R (.int rest) T) : DG (.ref a) (.str "rest") T R := ⟨⟨_, _, _, h.dct, rfl, get_rest, k⟩⟩
theorem Tape.putSpot {T : T3} {a c : Addr} {cells : List Int} {spot rest v : Int} (h : Tape T a c cells spot rest) {N : T3 → Prop} (k : N (updT T a (tapeO c v rest))) : putR3 (.ref a) (.str "spot") (.int v) T N := ⟨⟨_, _, h.dct, rfl, by show 3 < sizeLine; decide, by rw [put_spot]; exact k⟩⟩
theorem Tape.putRest {T : T3} {a c : Addr} {cells : List Int} {spot rest v : Int} (h : Tape T a c cells spot rest) {N : T3 → Prop} (k : N (updT T a (tapeO c spot v))) : putR3 (.ref a) (.str "rest") (.int v) T N := ⟨⟨_, _, h.dct, rfl, by show 3 < sizeLine; decide, by rw [put_rest]; exact k⟩⟩
theorem Tape.items {T : T3} {a c : Addr} {cells : List Int} {spot rest : Int} (h : Tape T a c cells spot rest) : itemsOf T c = some (cells.map .int) := by
  unfold itemsOf; rw [h.cell]
section
variable {P : Program} {w : World} {K : PySem.W.Frag} {mg : Str → Option Value} {base : Heap} {f : Addr} {fd : FuncData}
/-- a draw: any number below many; the tape goes on by one place at most -/
def spDraw : Sp3 := fun ds T R _ => ∃ a c cells spot rest many, ds = [.ref a, .int many] ∧ Tape T a c cells spot rest ∧ 0 < many ∧ many < 2 ^ 100 ∧ 0 ≤ spot ∧ spot < 2 ^ 40 ∧
  ∀ found spot' rest', 0 ≤ found → found < many → spot ≤ spot' → spot' ≤ spot + 1 → R (.int found) (updT T a (tapeO c spot' rest'))
theorem sc__law_draw : FnScope ["_law_tape", "_law_many", "_law_spot", "_law_size", "_law_cell", "_law_mixed", "_law_found"] ["_law_tape", "_law_many"] (defScope (topS 17)) := ⟨rfl, rfl, rfl, by decide +kernel, rfl, by decide +kernel, by decide +kernel⟩
theorem log2_int {i : Int} {k : Nat} (h0 : 0 ≤ i) (h : i < 2 ^ k) : i.natAbs.log2 ≤ k := log2_le (by
  have : (i.natAbs : Int) < 2 ^ k := by omega
  exact_mod_cast this)
theorem ok__law_draw (B : Blt mg) (F : FnD K "_law_draw" (topS 17) f fd) : Fn3 P w K mg base 1 f fd ["_law_tape", "_law_many"] spDraw := by
  refine fn3_ofS F sc__law_draw (fun ds T R E ⟨a, c, cells, spot, rest, many, h, _⟩ => by rw [h]; rfl) fun cdv A outer s H E hr tk => ⟨_, (pss3_cons (ps3_if (pt3_cmp o3_lt (pe3_dget (by exact hr.units) (pv3 0) pe3_str) (pv3 1) (nomark _)) (pss3_cons (ps3_par (i := 2) (j := 3) (by rfl) (by exact sc__law_draw.nd) (by rfl) (by rfl) (by decide) (by rfl) (by rfl) (pa3_cons (pe3_dget (by exact hr.units) (pv3 0) pe3_str) (pa3_cons (pe3_callB c3_len (by rfl) (by exact B.len) (by first | exact boot_len | decide +kernel) (pa3_cons (pe3_dget (by exact hr.units) (pv3 0) pe3_str) pa3_nil)) pa3_nil)) (by rfl))
      (pss3_cons (ps3_asg (pe3_tup (pa3_cons (pe3_ix (pe3_dget (by exact hr.units) (pv3 0) pe3_str) (pe3_op o3_mod (pe3_callTy c3_int (by rfl) (by exact B.int) (by first | exact boot_int | decide +kernel) (pa3_cons (pv3 2) pa3_nil)) (pv3 3))) (pa3_cons (pe3_op o3_add (pv3 2) pe3_int) pa3_nil))) (pg3_tup (n := 2) (by rfl) (pgs3_cons (pg3_name (i := 4) (by exact sc__law_draw.nd) (by rfl) (by first | exact Or.inl rfl | exact Or.inr rfl)) (pgs3_cons (pg3_dput (by exact hr.units) (pv3 0) pe3_str) pgs3_nil))))
      (pss3_cons (ps3_set (i := 5) (by exact sc__law_draw.nd) (by rfl) (by first | exact Or.inl rfl | exact Or.inr rfl) (pe3_op o3_add (pe3_op o3_add (pe3_op o3_mod (pe3_callTy c3_int (by rfl) (by exact B.int) (by first | exact boot_int | decide +kernel) (pa3_cons (pv3 4) pa3_nil)) pe3_int) (pe3_op o3_mul pe3_int (pv3 2))) pe3_int))
      (pss3_cons (ps3_dput (by exact hr.units) (pv3 0) pe3_str (pe3_op o3_mod (pe3_callTy c3_int (by rfl) (by exact B.int) (by first | exact boot_int | decide +kernel) (pa3_cons (pe3_op o3_add (pe3_op o3_pow (pv3 5) pe3_int) (pe3_op o3_mul pe3_int (pv3 2))) pa3_nil)) (pe3_op o3_add (pe3_op o3_pow pe3_int pe3_int) pe3_int)))
      (pss3_one (ps3_if (PW3.pt (pw3_and (pt3_cmp o3_ge (pv3 4) (pe3_op o3_pow pe3_int pe3_int) (nomark _)) (pw3_and1 (pt3_cmp o3_lt (pv3 2) (pv3 3) (nomark _))))) (pss3_one (ps3_dput (by exact hr.units) (pv3 0) pe3_str (pe3_op o3_sub (pv3 4) (pe3_op o3_pow pe3_int pe3_int)))) pss3_nil)))))) pss3_nil)
      (pss3_cons (ps3_asg (pe3_tup (pa3_cons (pe3_op o3_mod (pe3_callTy c3_int (by rfl) (by exact B.int) (by first | exact boot_int | decide +kernel) (pa3_cons (pe3_dget (by exact hr.units) (pv3 0) pe3_str) pa3_nil)) (pv3 1)) (pa3_cons (pe3_op o3_fdiv (pe3_dget (by exact hr.units) (pv3 0) pe3_str) (pv3 1)) pa3_nil))) (pg3_tup (n := 2) (by rfl) (pgs3_cons (pg3_name (i := 6) (by exact sc__law_draw.nd) (by rfl) (by first | exact Or.inl rfl | exact Or.inr rfl)) (pgs3_cons (pg3_dput (by exact hr.units) (pv3 0) pe3_str) pgs3_nil))))
      (pss3_one (ps3_ret (pv3 6))))), ?_⟩
  rintro ds T R E ⟨a, c, cells, spot, rest, many, rfl, tp, m0, m1, s0, s1, hR⟩
  have fin : ∀ sp rs, spot ≤ sp → sp ≤ spot + 1 → Tape (updT T a (tapeO c sp rs)) a c cells sp rs := fun sp rs _ _ => tp.put sp rs
  -- the last two statements, from a tape
  have last : ∀ (σ4 σ5 σ2 σ3 : Option D) (sp rs : Int) (T' : T3), spot ≤ sp → sp ≤ spot + 1 → Tape T' a c cells sp rs → (∀ rs', updT T' a (tapeO c sp rs') = updT T a (tapeO c sp rs')) →
      (t3Seq (t3Asg (t3Tup (t3Cons (t3Op (intR (fun i j => .int (i % j)) fun _ j => 0 < j) (t3CB intCR (t3Cons (t3Op dgetR (t3Var 0) (t3C (.str "rest"))) t3Nil)) (t3Var 1)) (t3Cons (t3Op (intR (fun i j => .int (i / j)) CDivW) (t3Op dgetR (t3Var 0) (t3C (.str "rest"))) (t3Var 1)) t3Nil))) (g3Tup 2 (g3Cons (g3Name 6) (g3Cons (g3DPut (t3Var 0) (t3C (.str "rest"))) g3Nil)))) (t3Ret (t3Var 6)))
        { nx := fun _ T' => Lv R .non T', rt := Lv R, ex := fun c fs _ T' => LvE E c fs T' } [some (.ref a), some (.int many), σ2, σ3, σ4, σ5, none] T' := fun σ4 σ5 σ2 σ3 sp rs T' a1 a2 t e => by
    refine t.getRest ⟨⟨m0, t.getRest ⟨⟨m0, Nat.lt_of_le_of_lt (log2_int (by omega) m1) (by decide)⟩, by show 2 ≤ sizeLine; decide, ?_⟩⟩⟩
    refine ⟨rfl, t.putRest ⟨rfl, ?_⟩⟩
    rw [e]
    exact Lv.here (hR _ _ _ (Int.emod_nonneg _ (by omega)) (Int.emod_lt_of_pos _ m0) a1 a2)
  refine tp.getRest ?_
  refine Br.mk (fun h => ?_) (fun h => ?_)
  case refine_2 =>
    exact last none none none none spot rest T (by omega) (by omega) tp fun _ => rfl
  refine tp.getSpot (tp.getCells (CB.len (xs := cells.map .int) tp.items ?_))
  have n0 : 0 < cells.length := List.length_pos_iff.mpr tp.full
  have hlen : ((cells.map D.int).length : Int) = (cells.length : Int) := by rw [List.length_map]
  have hix : ∃ v : Int, atI (cells.map D.int) (spot % (cells.length : Int)) = some (.int v) := by
    have h1 := Int.emod_nonneg spot (show (cells.length : Int) ≠ 0 by omega)
    have h2 := Int.emod_lt_of_pos spot (show 0 < (cells.length : Int) by omega)
    unfold atI ixN
    rw [if_pos h1, List.length_map, if_pos h2]
    refine ⟨cells[(spot % (cells.length : Int)).toNat]'(by omega), ?_⟩
    show (cells.map D.int)[(spot % (cells.length : Int)).toNat]? = _
    rw [List.getElem?_map, List.getElem?_eq_getElem (by omega)]; rfl
  obtain ⟨v, hv⟩ := hix
  rw [hlen]
  refine tp.getCells ⟨by omega, _, _, tp.items, hv, ?_⟩
  refine ⟨by show 2 ≤ sizeLine; decide, rfl, tp.putSpot ⟨rfl, ?_⟩⟩
  have tp1 := tp.put (spot + 1) rest
  have c31 : CMulW 31 spot := by
    show (31 : Int).natAbs.log2 + spot.natAbs.log2 < 1000000
    have := log2_int s0 s1
    have : (31 : Int).natAbs.log2 ≤ 5 := by decide
    omega
  have c52 : CMulW 52223 spot := by
    show (52223 : Int).natAbs.log2 + spot.natAbs.log2 < 1000000
    have := log2_int s0 s1
    have : (52223 : Int).natAbs.log2 ≤ 20 := by decide
    omega
  refine ⟨⟨by show (0 : Int) < 2305843009213693951; decide, c52, ?_⟩⟩
  have hv0 := Int.emod_nonneg v (show (2305843009213693951 : Int) ≠ 0 by decide)
  have hv1 := Int.emod_lt_of_pos v (show (0 : Int) < 2305843009213693951 by decide)
  have cp : CPow (v % 2305843009213693951 + 52223 * spot + 104729) 11 := by
    refine ⟨by decide, by decide, ?_⟩
    have s1' : spot < 1099511627776 := s1
    show (v % 2305843009213693951 + 52223 * spot + 104729).natAbs < 18446744073709551616
    omega
  have cp2 : CPow 10 49 := ⟨by decide, by decide, by decide⟩
  have cp3 : CPow 10 18 := ⟨by decide, by decide, by decide⟩
  refine ⟨cp, c31, ⟨⟨cp2, by show (0 : Int) < 10 ^ Int.toNat 49 + 9; decide +kernel, tp1.putRest ?_⟩⟩⟩
  generalize hrs : ((v % 2305843009213693951 + 52223 * spot + 104729) ^ Int.toNat 11 + 31 * spot) % (10 ^ Int.toNat 49 + 9) = rs
  rw [show updT (updT T a (tapeO c (spot + 1) rest)) a (tapeO c (spot + 1) rs) = updT T a (tapeO c (spot + 1) rs) from updT_upd]
  have tp2 := tp.put (spot + 1) rs
  have up : ∀ r1 r2 : Int, updT (updT T a (tapeO c (spot + 1) r1)) a (tapeO c (spot + 1) r2) = updT T a (tapeO c (spot + 1) r2) := fun _ _ => updT_upd
  refine ⟨cp3, ?_⟩
  refine Br.mk (fun h1 => ?_) (fun h1 => ?_)
  case refine_2 =>
    (repeat (first | refine Br.t rfl ?_ | refine Br.f rfl ?_))
    exact last _ _ _ _ (spot + 1) rs _ (by omega) (by omega) tp2 (up rs)
  refine Br.mk (fun h2 => ?_) (fun h2 => ?_)
  · refine ⟨cp3, tp2.putRest ?_⟩
    rw [up]
    exact last _ _ _ _ (spot + 1) _ _ (by omega) (by omega) (tp.put (spot + 1) _) (up _)
  · exact last _ _ _ _ (spot + 1) rs _ (by omega) (by omega) tp2 (up rs)
theorem Tape.sim {T : T3} {a c : Addr} {cells : List Int} {spot rest : Int} (h : Tape T a c cells spot rest) (s r : Int) : Sim T (updT T a (tapeO c s r)) := Sim.putD h.dct rfl
def spPick : Sp3 := fun ds T R _ => ∃ a c cells spot rest s xs, ds = [.ref a, s] ∧ Tape T a c cells spot rest ∧ seqOf T s = some xs ∧ xs ≠ [] ∧ xs.length ≤ sizeLine ∧ 0 ≤ spot ∧ spot < 2 ^ 40 ∧
  ∀ d spot' rest', d ∈ xs → spot ≤ spot' → spot' ≤ spot + 1 → R d (updT T a (tapeO c spot' rest'))
theorem sc__law_pick : FnScope ["_law_tape", "_law_some"] ["_law_tape", "_law_some"] (defScope (topS 18)) := ⟨rfl, rfl, rfl, by decide +kernel, rfl, by decide +kernel, by decide +kernel⟩
theorem ok__law_pick (B : Blt mg) (F : FnD K "_law_pick" (topS 18) f fd) (F__law_draw : DfOk P w K mg base "_law_draw" 1 ["_law_tape", "_law_many"] [] spDraw) : Fn3 P w K mg base 2 f fd ["_law_tape", "_law_some"] spPick := by
  refine fn3_ofS F sc__law_pick (fun ds T R E ⟨a, c, cells, spot, rest, s, xs, h, _⟩ => by rw [h]; rfl) fun cdv A outer s H E hr tk => ⟨_, (pss3_one (ps3_ret (pe3_ix (pv3 1) (pe3_callD (by exact F__law_draw) tk (by exact hr.mono (by decide)) (by rfl) (pa3_cons (pv3 0) (pa3_cons (pe3_callB c3_len (by rfl) (by exact B.len) (by first | exact boot_len | decide +kernel) (pa3_cons (pv3 1) pa3_nil)) pa3_nil)))))), ?_⟩
  rintro ds T R E ⟨a, c, cells, spot, rest, s, xs, rfl, tp, hs, hn, hl, s0, s1, hR⟩
  have n0 : 0 < xs.length := List.length_pos_iff.mpr hn
  have hz : sizeLine < 2 ^ 100 := by decide
  refine CB.len hs ⟨a, c, cells, spot, rest, _, rfl, tp, by omega, by omega, s0, s1, fun i sp rs h0 h1 h2 h3 => ?_⟩
  obtain ⟨x, hx, hi⟩ := atI_in h0 h1
  exact ⟨xs, x, seqOf_sim (tp.sim sp rs) hs, hi, Lv.here (hR x sp rs hx h2 h3)⟩
def spBegin : Sp3 := fun ds T R _ => ∃ (q : Addr) (ns : List Int), ds = [.ref q] ∧ itemsOf T q = some (ns.map .int) ∧ ∀ T' a c cells, Ext T T' → Tape T' a c cells 0 0 → R (.ref a) T'
theorem sc__law_begin : FnScope ["_law_script"] ["_law_script"] (defScope (topS 16)) := ⟨rfl, rfl, rfl, by decide +kernel, rfl, by decide +kernel, by decide +kernel⟩
theorem cut_map {α β : Type} (f : α → β) (xs : List α) (lo hi : Option Int) : cutL (xs.map f) lo hi = (cutL xs lo hi).map f := by
  unfold cutL
  rw [List.length_map, List.map_take, List.map_drop]
theorem ok__law_begin (F : FnD K "_law_begin" (topS 16) f fd) : Fn3 P w K mg base 1 f fd ["_law_script"] spBegin := by
  refine fn3_ofS F sc__law_begin (fun ds T R E ⟨q, ns, h, _⟩ => by rw [h]; rfl) fun cdv A outer s H E hr tk => ⟨_, (pss3_one (ps3_ret (pe3_disp (pps3_cons pe3_str (pe3_orT (pe3_slice (pv3 0) po3_none (po3_some pe3_int)) (pe3_one (pe3_lst (pa3_cons pe3_int pa3_nil)))) (pps3_cons pe3_str pe3_int (pps3_cons pe3_str pe3_int pps3_nil)))))), ?_⟩
  rintro ds T R E ⟨q, ns, rfl, hq, hR⟩
  intro p hp
  refine ⟨_, itemsOf_ext (Ext.new hp) hq, fun r hr => ?_⟩
  rw [cut_map]
  refine ⟨_, ⟨.inl ⟨_, itemsOf_upd, rfl⟩⟩, ?_⟩
  have x1 : Ext (updT T p (.dct [])) (updT (updT T p (.dct [])) r (.lst ((cutL ns none (some 63)).map .int))) := Ext.new hr
  have hrp : r ≠ p := (updT_none hr).2
  refine Br.mk (fun h => ?_) (fun h => ?_)
  · refine ⟨x1 _ _ updT_same, by show 3 ≤ 15; decide, _, rfl, ?_⟩
    refine Lv.here (hR _ p r (cutL ns none (some 63)) ?_ ⟨updT_same, ?_, ?_⟩)
    · intro b o e
      have e1 : b ≠ p := fun z => by rw [z, hp] at e; cases e
      have e2 : b ≠ r := fun z => by rw [z, (updT_none hr).1] at e; cases e
      rw [updT_ne e1, updT_ne e2, updT_ne e1]; exact e
    · rw [updT_ne hrp, updT_same]
    · intro z; rw [z] at h; cases h
  · refine ⟨by show 1 ≤ sizeLine; decide, fun r2 hr2 => ?_⟩
    have x2 := Ext.new (o := .lst [.int 0]) hr2
    have hr2p : r2 ≠ p := (updT_none (updT_none hr2).1).2
    refine ⟨x2 _ _ (x1 _ _ updT_same), by show 3 ≤ 15; decide, _, rfl, ?_⟩
    refine Lv.here (hR _ p r2 [0] ?_ ⟨updT_same, ?_, by decide⟩)
    · intro b o e
      have e1 : b ≠ p := fun z => by rw [z, hp] at e; cases e
      have e2 : b ≠ r := fun z => by rw [z, (updT_none hr).1] at e; cases e
      have e3 : b ≠ r2 := fun z => by rw [z, (updT_none (updT_none hr2).1).1] at e; cases e
      rw [updT_ne e1, updT_ne e3, updT_ne e2, updT_ne e1]; exact e
    · rw [updT_ne hr2p, updT_same]; rfl
theorem Tape.sims {T T' : T3} {a c : Addr} {cells : List Int} {spot rest s r : Int} (h : Tape T a c cells spot rest) (h' : Tape T' a c cells s r) (x : ExtB a T T') : Sim T T' := x.sim h.dct h'.dct
theorem Go.draw {T : T3} {a c : Addr} {cells : List Int} {spot rest many : Int} {R : D → T3 → Prop} {E : EX3} (tp : Tape T a c cells spot rest) (m0 : 0 < many) (m1 : many < 2 ^ 100) (s0 : 0 ≤ spot) (s1 : spot < 2 ^ 40)
    (k : ∀ i sp T', 0 ≤ i → i < many → spot ≤ sp → sp ≤ spot + 1 → (∃ rs, Tape T' a c cells sp rs) → ExtB a T T' → R (.int i) T') : Go spDraw [.ref a, .int many] T R E :=
  ⟨a, c, cells, spot, rest, many, rfl, tp, m0, m1, s0, s1, fun i sp rs h0 h1 h2 h3 => k i sp _ h0 h1 h2 h3 ⟨rs, tp.put sp rs⟩ ExtB.at_⟩
theorem Go.pick {T : T3} {a c : Addr} {cells : List Int} {spot rest : Int} {s : D} {xs : List D} {R : D → T3 → Prop} {E : EX3} (tp : Tape T a c cells spot rest) (hs : seqOf T s = some xs) (hn : xs ≠ []) (hl : xs.length ≤ sizeLine) (s0 : 0 ≤ spot) (s1 : spot < 2 ^ 40)
    (k : ∀ d sp T', d ∈ xs → spot ≤ sp → sp ≤ spot + 1 → (∃ rs, Tape T' a c cells sp rs) → ExtB a T T' → R d T') : Go spPick [.ref a, s] T R E :=
  ⟨a, c, cells, spot, rest, s, xs, rfl, tp, hs, hn, hl, s0, s1, fun d sp rs h0 h2 h3 => k d sp _ h0 h2 h3 ⟨rs, tp.put sp rs⟩ ExtB.at_⟩
end
end L3
namespace L3
open PySem PySem.Spec L2
open LamX hiding takes0
open PyProof.Rows hiding St
section
variable {P : Program} {w : World} {K : PySem.W.Frag} {mg : Str → Option Value} {base : Heap} {f : Addr} {fd : FuncData}
def spPieceL (K : PySem.W.Frag) : Sp3 := fun ds T R _ => ∃ a c cells spot rest, ds = [.ref a] ∧ Tape T a c cells spot rest ∧ 0 ≤ spot ∧ spot + 20 < 2 ^ 40 ∧
  ∀ v b sp T', spot ≤ sp → sp ≤ spot + 20 → (∃ rs, Tape T' a c cells sp rs) → ExtB a T T' → Typed2 K (News T T') v → isPieceD (News T T') v = b → R (.tup [v, .bl b]) T'
theorem sc__law_piece : FnScope ["_law_tape", "_law_words", "_law_times", "_law_some", "_law_k"] ["_law_tape"] (defScope (topS 19)) := ⟨rfl, rfl, rfl, by decide +kernel, rfl, by decide +kernel, by decide +kernel⟩
def wordsD : List D := [.str "a", .str "b", .str "x", .str "abcdefgh"]
theorem words_ok : ∀ d ∈ wordsD, isWordD d = true := by decide +kernel
theorem ok__law_piece (B : Blt mg) (F : FnD K "_law_piece" (topS 19) f fd) (F__law_draw : DfOk P w K mg base "_law_draw" 1 ["_law_tape", "_law_many"] [] spDraw) (F__law_pick : DfOk P w K mg base "_law_pick" 2 ["_law_tape", "_law_some"] [] spPick) :
    Fn3 P w K mg base 3 f fd ["_law_tape"] (spPieceL K) := by
  refine fn3_ofS F sc__law_piece (fun ds T R E ⟨a, c, cells, spot, rest, h, _⟩ => by rw [h]; rfl) fun cdv A outer s H E hr tk => ⟨_, (pss3_cons (ps3_setLc (i := 1) (own := [("_law_k", 4)]) (by rfl) (by exact sc__law_piece.nd) (by rfl) (by rfl) (by exact sw_true rfl rfl rfl (by decide +kernel)) (pi3_range1 (by rfl) (by exact B.range) (pa3_cons (pe3_op o3_add pe3_int (pe3_callD (by exact F__law_draw) tk (by exact hr.mono (by decide)) (by rfl) (pa3_cons (pv3 0) (pa3_cons pe3_int pa3_nil)))) pa3_nil)) (by exact blkOk_by (N := ["_law_tape", "_law_words", "_law_times", "_law_some", "_law_k"]) (sc := defScope (topS 19)) (by decide +kernel)) (GC.name (by decide)) (fun _ _ _ _ _ => (pg_name (i := 4) (by exact sc__law_piece.nd) (by rfl) (by first | exact Or.inl rfl | exact Or.inr rfl))) (fun _ _ _ _ _ => pts3_nil) (fun _ _ _ _ _ => (pe3_callD (by exact F__law_pick) takes0 (by exact hr.mono (by decide)) (by rfl) (pa3_cons (pv3 0) (pa3_cons (pe3_lst (pa3_cons pe3_str (pa3_cons pe3_str (pa3_cons pe3_str (pa3_cons pe3_str pa3_nil))))) pa3_nil)))))
      (pss3_cons (ps3_set (i := 2) (by exact sc__law_piece.nd) (by rfl) (by first | exact Or.inl rfl | exact Or.inr rfl) (pe3_callD (by exact F__law_pick) tk (by exact hr.mono (by decide)) (by rfl) (pa3_cons (pv3 0) (pa3_cons (pe3_lst (pa3_cons pe3_int (pa3_cons pe3_int (pa3_cons pe3_int (pa3_cons (pe3_op o3_pow pe3_int pe3_int) (pa3_cons (pe3_callD (by exact F__law_draw) tk (by exact hr.mono (by decide)) (by rfl) (pa3_cons (pv3 0) (pa3_cons (pe3_op o3_pow pe3_int pe3_int) pa3_nil))) pa3_nil)))))) pa3_nil))))
      (pss3_cons (ps3_if (pt3_cmp o3_gt (pe3_callD (by exact F__law_draw) tk (by exact hr.mono (by decide)) (by rfl) (pa3_cons (pv3 0) (pa3_cons pe3_int pa3_nil))) pe3_int (nomark _)) (pss3_one (ps3_ret (pe3_tup (pa3_cons (pe3_callD (by exact F__law_pick) tk (by exact hr.mono (by decide)) (by rfl) (pa3_cons (pv3 0) (pa3_cons (pe3_lst (pa3_cons (pe3_tup (pa3_cons (pv3 1) (pa3_cons (pv3 2) pa3_nil))) (pa3_cons (pe3_tup (pa3_cons (pe3_callTy c3_tuple (by rfl) (by exact B.tuple) (by first | exact boot_tuple | decide +kernel) (pa3_cons (pv3 1) pa3_nil)) (pa3_cons (pv3 2) pa3_nil))) pa3_nil))) pa3_nil))) (pa3_cons pe3_bl pa3_nil))))) pss3_nil)
      (pss3_cons (ps3_set (i := 3) (by exact sc__law_piece.nd) (by rfl) (by first | exact Or.inl rfl | exact Or.inr rfl) (pe3_lst (pa3_cons (pe3_tup (pa3_cons (pe3_lst pa3_nil) (pa3_cons pe3_int pa3_nil))) (pa3_cons (pe3_tup (pa3_cons (pe3_op o3_mul (pv3 1) pe3_int) (pa3_cons pe3_int pa3_nil))) (pa3_cons (pe3_tup (pa3_cons (pe3_op o3_add (pv3 1) (pe3_lst (pa3_cons pe3_str pa3_nil))) (pa3_cons pe3_int pa3_nil))) (pa3_cons (pe3_tup (pa3_cons (pe3_op o3_add (pe3_slice (pv3 1) po3_none (po3_some pe3_int)) (pe3_lst (pa3_cons pe3_int pa3_nil))) (pa3_cons pe3_int pa3_nil))) (pa3_cons (pe3_tup (pa3_cons (pv3 1) (pa3_cons (pe3_neg pe3_int) pa3_nil))) (pa3_cons (pe3_tup (pa3_cons (pv3 1) (pa3_cons (pe3_op o3_add (pe3_op o3_pow pe3_int pe3_int) pe3_int) pa3_nil))) pa3_nil))))))))
      (pss3_cons (ps3_set (i := 3) (by exact sc__law_piece.nd) (by rfl) (by first | exact Or.inl rfl | exact Or.inr rfl) (pe3_op o3_add (pv3 3) (pe3_lst (pa3_cons (pe3_tup (pa3_cons (pv3 1) (pa3_cons pe3_bl pa3_nil))) (pa3_cons (pe3_lst (pa3_cons (pv3 1) (pa3_cons (pv3 2) pa3_nil))) (pa3_cons (pe3_tup (pa3_cons (pv3 1) pa3_nil)) (pa3_cons (pe3_tup (pa3_cons (pv3 1) (pa3_cons (pv3 2) (pa3_cons pe3_int pa3_nil)))) (pa3_cons pe3_str (pa3_cons pe3_non (pa3_cons (pe3_tup (pa3_cons pe3_str (pa3_cons pe3_int pa3_nil))) (pa3_cons (pe3_tup (pa3_cons (pv3 1) (pa3_cons pe3_str pa3_nil))) (pa3_cons (pe3_tup (pa3_cons pe3_dnew (pa3_cons pe3_int pa3_nil))) pa3_nil))))))))))))
      (pss3_one (ps3_ret (pe3_tup (pa3_cons (pe3_callD (by exact F__law_pick) tk (by exact hr.mono (by decide)) (by rfl) (pa3_cons (pv3 0) (pa3_cons (pv3 3) pa3_nil))) (pa3_cons pe3_bl pa3_nil)))))))))), ?_⟩
  rintro ds T R E ⟨a, c, cells, spot, rest, rfl, tp, s0, s1, hR⟩
  refine Go.draw tp (by decide) (by decide) s0 (by omega) fun n sp1 T1 n0 n1 a1 b1 ⟨rs1, tp1⟩ x1 => ?_
  refine ⟨by omega, by omega, fun q hq => ?_⟩
  have hqa : q ≠ a := fun z => by rw [z, tp1.tape] at hq; cases hq
  refine comp3_inv (fun acc T' => T' q = some (.lst acc) ∧ (∀ y ∈ acc, y ∈ wordsD) ∧ (∃ sp rs, Tape T' a c cells sp rs ∧ sp1 ≤ sp ∧ sp ≤ sp1 + acc.length) ∧ ExtB a T1 T') ?_ (fun _ _ _ => trivial) ⟨updT_same, by simp, ⟨sp1, rs1, tp1.ext (Ext.new hq), by omega, by simp⟩, (Ext.new hq).b⟩ (fun x hx acc Tc hl ⟨j1, j2, ⟨sp, rs, tpc, j3, j4⟩, j5⟩ A B hA => ?_) (fun ws T2 hlen ⟨hq2, hws, ⟨sp2, rs2, tp2, a2, b2⟩, x2⟩ => ?_)
  · rw [rangeD_len]
    have : (1 + n).toNat ≤ 8 := by omega
    exact Nat.le_trans this (by decide)
  · rw [rangeD_len] at hl
    refine Br.t rfl ⟨by show 4 ≤ sizeLine; decide, fun r hr => ?_⟩
    have hrq : q ≠ r := fun z => by rw [← z, j1] at hr; cases hr
    refine Go.pick (xs := wordsD) (tpc.ext (Ext.new hr)) itemsOf_upd (by decide) (by decide) (by omega) (by omega) fun d sp' T' hd c1 c2 ⟨rs', tp'⟩ x' => ?_
    have hq' : T' q = some (.lst acc) := x' _ _ hqa (Ext.new hr _ _ j1)
    refine hA d T' hq' ⟨updT_same, ?_, ⟨sp', rs', ?_, by omega, ?_⟩, ?_⟩
    · intro y hy
      rcases List.mem_append.mp hy with hy | hy
      · exact j2 y hy
      · rw [List.mem_singleton] at hy; rw [hy]; exact hd
    · have hcq : c ≠ q := fun z => by
        have := tp1.cell
        rw [z, hq] at this; cases this
      exact ⟨by rw [updT_ne (Ne.symm hqa)]; exact tp'.tape, by rw [updT_ne hcq]; exact tp'.cell, tp'.full⟩
    · rw [List.length_append, List.length_singleton]; push_cast; omega
    · intro b o hb e
      have hbq : b ≠ q := fun z => by rw [z, hq] at e; cases e
      rw [updT_ne hbq]
      exact x' _ _ hb (Ext.new hr _ _ (j5 _ _ hb e))
  rw [rangeD_len] at hlen
  have hw1 : 1 ≤ ws.length := by omega
  have hw8 : ws.length ≤ 8 := by omega
  have xT2 : ExtB a T T2 := x1.trans x2
  -- times
  refine ⟨⟨by decide, by decide, by decide⟩, ?_⟩
  refine ⟨⟨by decide, by decide, by decide⟩, ?_⟩
  refine Go.draw tp2 (by decide +kernel) (by decide +kernel) (by omega) (by omega) fun i sp3 T3a i0 i1 a3 b3 ⟨rs3, tp3⟩ x3 => ?_
  refine ⟨by show 5 ≤ sizeLine; decide, fun r hr => ?_⟩
  obtain ⟨T3b, e3b, x3b, g3b⟩ := alloc (.lst [.int 0, .int 1, .int 2, .int (10 ^ Int.toNat 30), .int i]) hr
  rw [e3b]
  refine Go.pick (tp3.ext x3b) (items_lst g3b) (by simp) (by show 5 ≤ sizeLine; decide) (by omega) (by omega) fun t sp4 T4 ht a4 b4 ⟨rs4, tp4⟩ x4 => ?_
  have htt : isTimesD t = true := by
    simp only [List.mem_cons, List.not_mem_nil, or_false] at ht
    rcases ht with rfl | rfl | rfl | rfl | rfl
    · decide
    · decide
    · decide
    · decide +kernel
    · have i1' : i < 1000000000 := i1
      show (decide (0 ≤ i) && decide (i ≤ 1000000000000000000000000000000)) = true
      rw [decide_eq_true i0, decide_eq_true (by omega)]; rfl
  obtain ⟨ti, rfl⟩ : ∃ j, t = .int j := by
    cases t with
    | int j => exact ⟨j, rfl⟩
    | _ => cases htt
  have xT4 : ExtB a T2 T4 := (x3.trans x3b.b).trans x4
  have hq4 : T4 q = some (.lst ws) := xT4 _ _ hqa hq2
  refine Go.draw tp4 (by decide) (by decide) (by omega) (by omega) fun j sp5 T5 j0 j1 a5 b5 ⟨rs5, tp5⟩ x5 => ?_
  have hq5 : T5 q = some (.lst ws) := x5 _ _ hqa hq4
  have xT5 : ExtB a T T5 := (xT2.trans xT4).trans x5
  have hwords : ∀ T', itemsOf T' q = some ws → isWordsD T' (.ref q) = true := fun T' h => by
    show (match itemsOf T' q with
      | some xs => decide (1 ≤ xs.length) && decide (xs.length ≤ 8) && xs.all isWordD
      | none => false) = true
    rw [h]
    dsimp only
    rw [decide_eq_true hw1, decide_eq_true hw8, List.all_eq_true.mpr fun y hy => words_ok y (hws y hy)]; rfl
  have hwordsT : ∀ T', isWordsD T' (.tup ws) = true := fun T' => by
    show (decide (1 ≤ ws.length) && decide (ws.length ≤ 8) && ws.all isWordD) = true
    rw [decide_eq_true hw1, decide_eq_true hw8, List.all_eq_true.mpr fun y hy => words_ok y (hws y hy)]; rfl
  have hwt : ∀ T', ∀ x ∈ ws, Typed K T' x := fun T' x hx => by
    have := hws x hx
    unfold wordsD at this
    simp only [List.mem_cons, List.not_mem_nil, or_false] at this
    rcases this with rfl | rfl | rfl | rfl <;> (show _ ≤ sizeLine; decide)
  refine Br.mk (fun h => ?_) (fun h => ?_)
  · -- a piece
    refine ⟨by show 2 ≤ sizeLine; decide, ?_⟩
    refine CB.tuple (items_lst hq5) ⟨by show 2 ≤ sizeLine; decide, by show 2 ≤ sizeLine; decide, fun r2 hr2 => ?_⟩
    obtain ⟨T6, e6, x6, g6⟩ := alloc (.lst [.tup [.ref q, .int ti], .tup [.tup ws, .int ti]]) hr2
    rw [e6]
    refine Go.pick (tp5.ext x6) (items_lst g6) (by simp) (by show 2 ≤ sizeLine; decide) (by omega) (by omega) fun v sp7 T7 hv a7 b7 ⟨rs7, tp7⟩ x7 => ?_
    have hq7 := News.items (T := T) (x1.none hq hqa) (items_lst (x7 _ _ hqa (x6 _ _ hq5)))
    refine ⟨by show 2 ≤ sizeLine; decide, Lv.here (hR v true sp7 T7 (by omega) (by omega) ⟨rs7, tp7⟩ ((xT5.trans x6.b).trans x7) ?_ ?_)⟩
    · simp only [List.mem_cons, List.not_mem_nil, or_false] at hv
      rcases hv with rfl | rfl
      · refine Typed2.tup fun d hd => ?_
        simp only [List.mem_cons, List.not_mem_nil, or_false] at hd
        rcases hd with rfl | rfl
        · exact Ty1.lst hq7 (hwt _)
        · exact Ty1.flat trivial rfl
      · refine Typed2.tup fun d hd => ?_
        simp only [List.mem_cons, List.not_mem_nil, or_false] at hd
        rcases hd with rfl | rfl
        · exact Ty1.tup (hwt _)
        · exact Ty1.flat trivial rfl
    · simp only [List.mem_cons, List.not_mem_nil, or_false] at hv
      rcases hv with rfl | rfl
      · show (isWordsD (News T T7) (.ref q) && isTimesD (.int ti)) = true
        rw [hwords _ hq7, htt]; rfl
      · show (isWordsD (News T T7) (.tup ws) && isTimesD (.int ti)) = true
        rw [hwordsT, htt]; rfl
  · -- none
    have le2 : ∀ x y : D, [x, y].length ≤ sizeLine := fun _ _ => by show 2 ≤ sizeLine; decide
    have hz : 9 * 8 ≤ sizeLine := by decide
    refine ⟨by show 0 ≤ sizeLine; decide, fun r1 h1 => ?_⟩
    obtain ⟨T6, e6, x6, g6⟩ := alloc (.lst []) h1
    rw [e6]
    have q6 := x6 _ _ hq5
    refine ⟨le2 _ _, ⟨ws, q6, by decide, by decide, by show ws.length * 9 ≤ sizeLine; omega, fun r2 h2 => ?_⟩⟩
    obtain ⟨T7, e7, x7, g7⟩ := alloc (.lst (List.replicate (Int.toNat 9) ws).flatten) h2
    rw [e7]
    have q7 := x7 _ _ q6
    refine ⟨le2 _ _, by show 1 ≤ sizeLine; decide, fun r3 h3 => ?_⟩
    obtain ⟨T8, e8, x8, g8⟩ := alloc (.lst [.str "abcdefghi"]) h3
    rw [e8]
    have q8 := x8 _ _ q7
    refine ⟨ws, _, q8, g8, by show ws.length + 1 ≤ sizeLine; omega, fun r4 h4 => ?_⟩
    obtain ⟨T9, e9, x9, g9⟩ := alloc (.lst (ws ++ [.str "abcdefghi"])) h4
    rw [e9]
    have q9 := x9 _ _ q8
    refine ⟨le2 _ _, ws, items_lst q9, fun r5 h5 => ?_⟩
    obtain ⟨T10, e10, x10, g10⟩ := alloc (.lst (cutL ws none (some 7))) h5
    rw [e10]
    have q10 := x10 _ _ q9
    refine ⟨by show 1 ≤ sizeLine; decide, fun r6 h6 => ?_⟩
    obtain ⟨T11, e11, x11, g11⟩ := alloc (.lst [.int 1]) h6
    rw [e11]
    have q11 := x11 _ _ q10
    have hcut : (cutL ws none (some 7)).length ≤ ws.length := by
      unfold cutL
      rw [List.length_take, List.length_drop]; omega
    refine ⟨_, _, x11 _ _ g10, g11, by show (cutL ws none (some 7)).length + 1 ≤ sizeLine; omega, fun r7 h7 => ?_⟩
    obtain ⟨T12, e12, x12, g12⟩ := alloc (.lst (cutL ws none (some 7) ++ [.int 1])) h7
    rw [e12]
    have q12 := x12 _ _ q11
    refine ⟨le2 _ _, le2 _ _, ⟨by decide, by decide, by decide⟩, le2 _ _, by show 6 ≤ sizeLine; decide, fun r8 h8 => ?_⟩
    obtain ⟨T13, e13, x13, g13⟩ := alloc (.lst [.tup [.ref r1, .int 1], .tup [.ref r2, .int 1], .tup [.ref r4, .int 1], .tup [.ref r7, .int 1], .tup [.ref q, .int (-1)], .tup [.ref q, .int (10 ^ Int.toNat 30 + 1)]]) h8
    rw [e13]
    have q13 := x13 _ _ q12
    refine ⟨le2 _ _, le2 _ _, fun r9 h9 => ?_⟩
    obtain ⟨T14, e14, x14, g14⟩ := alloc (.lst [.ref q, .int ti]) h9
    rw [e14]
    have q14 := x14 _ _ q13
    refine ⟨by show 1 ≤ sizeLine; decide, by show 3 ≤ sizeLine; decide, le2 _ _, le2 _ _, fun r10 h10 => ?_⟩
    obtain ⟨T15, e15, x15, g15⟩ := alloc (.dct []) h10
    rw [e15]
    have q15 := x15 _ _ q14
    refine ⟨le2 _ _, by show 9 ≤ sizeLine; decide, fun r11 h11 => ?_⟩
    obtain ⟨T16, e16, x16, g16⟩ := alloc (.lst [.tup [.ref q, .bl true], .ref r9, .tup [.ref q], .tup [.ref q, .int ti, .int 1], .str "ab", .non, .tup [.str "a", .int 1], .tup [.ref q, .str "1"], .tup [.ref r10, .int 1]]) h11
    rw [e16]
    have q16 := x16 _ _ q15
    refine ⟨_, _, x16 _ _ (x15 _ _ (x14 _ _ g13)), g16, by show 6 + 9 ≤ sizeLine; decide, fun r12 h12 => ?_⟩
    obtain ⟨T17, e17, x17, g17⟩ := alloc (.lst ([.tup [.ref r1, .int 1], .tup [.ref r2, .int 1], .tup [.ref r4, .int 1], .tup [.ref r7, .int 1], .tup [.ref q, .int (-1)], .tup [.ref q, .int (10 ^ Int.toNat 30 + 1)]] ++ [.tup [.ref q, .bl true], .ref r9, .tup [.ref q], .tup [.ref q, .int ti, .int 1], .str "ab", .non, .tup [.str "a", .int 1], .tup [.ref q, .str "1"], .tup [.ref r10, .int 1]])) h12
    rw [e17]
    have q17 := x17 _ _ q16
    have y15 : Ext T15 T17 := x16.trans x17
    have y14 : Ext T14 T17 := x15.trans y15
    have y12 : Ext T12 T17 := x13.trans (x14.trans y14)
    have y9 : Ext T9 T17 := x10.trans (x11.trans (x12.trans y12))
    have y7 : Ext T7 T17 := x8.trans (x9.trans y9)
    have y6 : Ext T6 T17 := x7.trans y7
    have y5 : Ext T5 T17 := x6.trans y6
    refine Go.pick (tp5.ext y5) (items_lst g17) (by simp) (by show 15 ≤ sizeLine; decide) (by omega) (by omega) fun v sp7 T18 hv a7 b7 ⟨rs7, tp7⟩ x18 => ?_
    have sm : Sim T17 T18 := (tp5.ext y5).sims tp7 x18
    have frs : ∀ {r : Addr} {Tk : T3}, Ext T5 Tk → Tk r = none → T r = none := fun {r Tk} y h => by
      have h5 := y.none h
      exact xT5.none h5 fun z => by rw [z, tp5.tape] at h5; cases h5
    have w7 := x6.trans x7
    have w8 := w7.trans x8
    have w9 := w8.trans x9
    have w11 := (w9.trans x10).trans x11
    have w13 := (w11.trans x12).trans x13
    have w14 := w13.trans x14
    have i1 := News.items (T := T) (frs (Ext.refl _) h1) (sm.items _ _ (items_lst (y6 _ _ g6)))
    have i2 := News.items (T := T) (frs x6 h2) (sm.items _ _ (items_lst (y7 _ _ g7)))
    have i4 := News.items (T := T) (frs w8 h4) (sm.items _ _ (items_lst (y9 _ _ g9)))
    have i7 := News.items (T := T) (frs w11 h7) (sm.items _ _ (items_lst (y12 _ _ g12)))
    have i9 := News.items (T := T) (frs w13 h9) (sm.items _ _ (items_lst (y14 _ _ g14)))
    have iq := News.items (T := T) (x1.none hq hqa) (sm.items _ _ (items_lst q17))
    obtain ⟨kvs, d10'⟩ := sm.dct _ _ (⟨y15 _ _ g15, rfl⟩ : Dct T17 r10 [])
    have d10 := News.dct (T := T) (frs w14 h10) d10'
    have tq : Ty1 K (News T T18) (.ref q) := Ty1.lst iq (hwt _)
    have t1 : Ty1 K (News T T18) (.ref r1) := Ty1.lst i1 (by simp)
    have t2 : Ty1 K (News T T18) (.ref r2) := Ty1.lst i2 fun x hx => by
      obtain ⟨l, hl, hx⟩ := List.mem_flatten.mp hx
      rw [List.eq_of_mem_replicate hl] at hx
      exact hwt _ x hx
    have t4 : Ty1 K (News T T18) (.ref r4) := Ty1.lst i4 fun x hx => by
      rcases List.mem_append.mp hx with hx | hx
      · exact hwt _ x hx
      · rw [List.mem_singleton] at hx; subst hx; show _ ≤ sizeLine; decide
    have t7 : Ty1 K (News T T18) (.ref r7) := Ty1.lst i7 fun x hx => by
      rcases List.mem_append.mp hx with hx | hx
      · exact hwt _ x (List.mem_of_mem_drop (List.mem_of_mem_take hx))
      · rw [List.mem_singleton] at hx; subst hx; trivial
    have tint : ∀ j : Int, Ty1 K (News T T18) (.int j) := fun j => Ty1.flat trivial rfl
    have tpair : ∀ x y : D, Ty1 K (News T T18) x → Ty1 K (News T T18) y → Typed2 K (News T T18) (.tup [x, y]) := fun x y hx hy => Typed2.tup fun d hd => by
      simp only [List.mem_cons, List.not_mem_nil, or_false] at hd
      rcases hd with rfl | rfl <;> assumption
    have bad : ∀ (p : Addr) (ys : List D) (u : D), itemsOf (News T T18) p = some ys → (decide (1 ≤ ys.length) && decide (ys.length ≤ 8) && ys.all isWordD) = false → isPieceD (News T T18) (.tup [.ref p, u]) = false := fun p ys u h1 h2 => by
      show ((match itemsOf (News T T18) p with
        | some xs => decide (1 ≤ xs.length) && decide (xs.length ≤ 8) && xs.all isWordD
        | none => false) && isTimesD u) = false
      rw [h1]
      dsimp only
      rw [h2]; rfl
    have badT : ∀ (u x : D), isTimesD u = false → isPieceD (News T T18) (.tup [x, u]) = false := fun u x h => by
      show (isWordsD (News T T18) x && isTimesD u) = false
      rw [h, Bool.and_false]
    have res : Typed2 K (News T T18) v ∧ isPieceD (News T T18) v = false := by
      simp only [List.mem_append, List.mem_cons, List.not_mem_nil, or_false] at hv
      rcases hv with (rfl | rfl | rfl | rfl | rfl | rfl) | (rfl | rfl | rfl | rfl | rfl | rfl | rfl | rfl | rfl)
      · exact ⟨tpair _ _ t1 (tint _), bad _ _ _ i1 rfl⟩
      · refine ⟨tpair _ _ t2 (tint _), bad _ _ _ i2 ?_⟩
        have : (List.replicate (Int.toNat 9) ws).flatten.length = 9 * ws.length := by
          show (List.replicate 9 ws).flatten.length = _
          simp <;> omega
        rw [this, decide_eq_false (show ¬ 9 * ws.length ≤ 8 by omega)]; simp
      · refine ⟨tpair _ _ t4 (tint _), bad _ _ _ i4 ?_⟩
        rw [List.all_append, show ([D.str "abcdefghi"].all isWordD) = false by decide +kernel]; simp
      · refine ⟨tpair _ _ t7 (tint _), bad _ _ _ i7 ?_⟩
        rw [List.all_append, show ([D.int 1].all isWordD) = false from rfl]; simp
      · exact ⟨tpair _ _ tq (tint _), badT _ _ (by decide)⟩
      · exact ⟨tpair _ _ tq (tint _), badT _ _ (by decide +kernel)⟩
      · exact ⟨tpair _ _ tq (Ty1.flat trivial rfl), badT _ _ rfl⟩
      · exact ⟨Typed2.flat (.inl ⟨_, i9⟩) (fun ds z => by cases z), rfl⟩
      · exact ⟨Typed2.tup (fun d hd => by rw [List.mem_singleton] at hd; subst hd; exact tq), rfl⟩
      · refine ⟨Typed2.tup fun d hd => ?_, rfl⟩
        simp only [List.mem_cons, List.not_mem_nil, or_false] at hd
        rcases hd with rfl | rfl | rfl
        · exact tq
        · exact tint _
        · exact tint _
      · exact ⟨Typed2.flat (by show _ ≤ sizeLine; decide) fun ds z => (by cases z), rfl⟩
      · exact ⟨Typed2.flat trivial fun ds z => (by cases z), rfl⟩
      · exact ⟨tpair _ _ (Ty1.flat (by show _ ≤ sizeLine; decide) rfl) (tint _), rfl⟩
      · exact ⟨tpair _ _ tq (Ty1.flat (by show _ ≤ sizeLine; decide) rfl), badT _ _ rfl⟩
      · refine ⟨tpair _ _ (Ty1.flat (.inr (.inl ⟨kvs, d10⟩)) (items_dct d10.at_)) (tint _), ?_⟩
        show ((match itemsOf (News T T18) r10 with
          | some xs => decide (1 ≤ xs.length) && decide (xs.length ≤ 8) && xs.all isWordD
          | none => false) && isTimesD (.int 1)) = false
        rw [items_dct d10.at_]; rfl
    exact ⟨le2 _ _, Lv.here (hR v false sp7 T18 (by omega) (by omega) ⟨rs7, tp7⟩ ((xT5.trans y5.b).trans x18) res.1 res.2)⟩
/-- _law_fault -/
def tFault (K : PySem.W.Frag) (l : D) (tb : EX3 → T3 → (D → T3 → Prop) → Prop) : TS3 :=
  t3Seq (t3TryAs K "InvalidAddress" 1 (t3Drop (t3Act l tb)) (fun a d c _ => t3Ret (t3Lst (t3Cons (t3ExF a d c "InvalidAddress" "field" (t3Var 1)) (t3Cons (t3IsX K a d c "InvalidAddress" "ValueError" (t3Var 1)) t3Nil))))) (t3Ret (t3C .non))
theorem sc__law_fault : FnScope ["_law_call", "e"] ["_law_call"] (defScope (topS 20)) := ⟨rfl, rfl, rfl, by decide +kernel, rfl, by decide +kernel, by decide +kernel⟩
theorem ok__law_fault (B : Blt mg) (F : FnD K "_law_fault" (topS 20) f fd) (hm : mg "_law_fault" = some (.ref f)) (hb : Binds K fd ["_law_call"] []) (X_InvalidAddress : ExOk P K mg "InvalidAddress" "field") : LamOk P w K mg base "_law_fault" "_law_call" ["_law_call", "e"] (tFault K) := by
  obtain ⟨oc, od, dV, kV, doc, pm, an, cdv, ct, osl, rfl, lk, hcd, _, _⟩ := F.ex
  refine ⟨⟨f, _, _, _, dV, kV, doc, pm, cdv, ct, oc, an, od, osl, hm, F.kp, lk, hcd, hb, sc__law_fault, rfl, Or.inl rfl, fun A stack s H l tbT act => ?_⟩⟩
  obtain ⟨p, fI, Bn, newId, initId, bmB, T, FB, KF, SF⟩ := X_InvalidAddress.ex
  exact pss3_cons (ps3_try_as (i := 1) rfl rfl (by exact sc__law_fault.nd) (by rfl) (by rfl) ⟨by rfl, by decide, Or.inl T.gC⟩ takes0 (fun W pn xe tk _ => pss3_one (ps3_expr (by exact act W pn xe _ _ tk)))
    (fun a oe c d fs pn hz hf => pss3_one (ps3_ret (by exact (pe3_lst (pa3_cons (by exact pe3_exf X_InvalidAddress hz hf (pv3 1)) (pa3_cons (by exact pe3_isx X_InvalidAddress hz hf (pv3 1) (by rfl) B.isinstance (by rfl) B.valueError (by first | exact boot_ValueError | decide +kernel)) pa3_nil)))))))
    (pss3_one (ps3_ret pe3_non))
def lamQ : Str := (envOfC "law" (defScope (topS 21)) 0 0 .none).qual ++ "<lambda>"
def spLaw (P : Addr) : List D → T3 → Prop := fun ds T => ∃ (q : Addr) (ns : List Int), ds = [.ref q] ∧ itemsOf T q = some (ns.map .int) ∧ T P = some (.tab lamQ)
end
end L3
namespace L3
open PySem PySem.Spec L2
open LamX hiding takes0
open PyProof.Rows hiding St
section
variable {P : Program} {w : World} {K : PySem.W.Frag} {mg : Str → Option Value} {base : Heap} {f : Addr} {fd : FuncData}
theorem Typed3.sim {T T' : T3} (x : Sim T T') {v : D} (h : Typed3 K T v) : Typed3 K T' v := ⟨h.1.sim x, fun xs e => by
  rw [seqOf_typed x h.1] at e
  exact fun y hy => (h.2 xs e y hy).ext x⟩
theorem arePieces_sim {T T' : T3} (x : Sim T T') {v : D} (h : Typed3 K T v) : arePiecesD T' v = arePiecesD T v := by
  unfold arePiecesD
  rw [seqOf_typed x h.1]
  cases e : seqOf T v with
  | none => rfl
  | some xs =>
    dsimp only
    congr 1
    rw [Bool.eq_iff_iff, List.all_eq_true, List.all_eq_true]
    exact ⟨fun k y hy => by rw [← isPieceD_ext x (h.2 xs e y hy)]; exact k y hy, fun k y hy => by rw [isPieceD_ext x (h.2 xs e y hy)]; exact k y hy⟩
/-- a state's beginning: what the law draws -/
def begins : List D := [.str "s", .str "s", .str "abcdefgh", .str "", .str "A", .int 1, .non, .str "abcdefghi"]
theorem begins_ok {d : D} (h : d ∈ begins) : (∀ T, Typed K T d) ∧ (∀ T, okN T 8 d = true) ∧ ∀ T, inN T d [.str "s", .str "abcdefgh"] = isWordD d := by
  unfold begins at h
  simp only [List.mem_cons, List.not_mem_nil, or_false] at h
  rcases h with rfl | rfl | rfl | rfl | rfl | rfl | rfl | rfl
  all_goals refine ⟨fun T => ?_, fun T => rfl, fun T => ?_⟩
  all_goals first | trivial | (show _ ≤ sizeLine; decide) | (show inN (fun _ => none) _ _ = _; decide +kernel) | rfl
/-- what is due, told by the beginning and by whether the pieces are right -/
def DueOk (T : T3) (wd ok : Bool) (due : D) : Prop :=
  (wd = false ∧ ∃ r, due = .ref r ∧ itemsOf T r = some [.str "state", .bl true]) ∨ (wd = true ∧ ok = false ∧ ∃ r, due = .ref r ∧ itemsOf T r = some [.str "pieces", .bl true]) ∨ (wd = true ∧ ok = true ∧ due = .non)
theorem DueOk.ext {T T' : T3} (x : Ext T T') {wd ok : Bool} {due : D} (h : DueOk T wd ok due) : DueOk T' wd ok due := by
  rcases h with ⟨h1, r, h2, h3⟩ | ⟨h1, h0, r, h2, h3⟩ | h
  · exact .inl ⟨h1, r, h2, itemsOf_ext x h3⟩
  · exact .inr (.inl ⟨h1, h0, r, h2, itemsOf_ext x h3⟩)
  · exact .inr (.inr h)
theorem due_step {D' : Ends3} {T : T3} {d : D} {s0 s1 s2 s3 s4 s6 s7 s8 s9 s10 s11 s12 s13 s14 : Option D} (hd : d ∈ begins)
    (k : ∀ due T', Ext T T' → ((isWordD d = true ∧ due = .non) ∨ (isWordD d = false ∧ ∃ r, due = .ref r ∧ itemsOf T' r = some [.str "state", .bl true])) → D'.nx [s0, s1, s2, s3, s4, some d, some due, s7, s8, s9, s10, s11, s12, s13, s14] T') :
    t3Asg (t3If (t3T (t3Op (inR false) (t3Var 5) (t3Tup (t3Cons (t3C (.str "s")) (t3Cons (t3C (.str "abcdefgh")) t3Nil))))) (t3C .non) (t3Lst (t3Cons (t3C (.str "state")) (t3Cons (t3C (.bl true)) t3Nil)))) (g3Name 6) D' [s0, s1, s2, s3, s4, some d, s6, s7, s8, s9, s10, s11, s12, s13, s14] T := by
  obtain ⟨h1, h2, h3⟩ := begins_ok (K := []) hd
  refine ⟨by show 2 ≤ sizeLine; decide, _, rfl, h2 T, rfl, ?_⟩
  show Br (inN T d [.str "s", .str "abcdefgh"]) _ _
  rw [h3 T]
  refine Br.mk (fun h => k _ _ (Ext.refl _) (.inl ⟨h, rfl⟩)) (fun h => ⟨by show 2 ≤ sizeLine; decide, fun r hr => ?_⟩)
  exact k _ _ (Ext.new hr) (.inr ⟨h, r, rfl, itemsOf_upd⟩)
theorem due2_step {D' : Ends3} {T : T3} {d due : D} {p pw : Addr} {xs ws : List D} {ok : Bool} {s0 s1 s2 s4 s8 s9 s10 s11 s12 s13 s14 : Option D} (h1 : itemsOf T p = some xs) (h2 : itemsOf T pw = some ws) (hok : ok = (decide (xs.length ≤ 20) && ws.isEmpty))
    (hdue : (isWordD d = true ∧ due = .non) ∨ (isWordD d = false ∧ ∃ r, due = .ref r ∧ itemsOf T r = some [.str "state", .bl true]))
    (k : ∀ due T', Ext T T' → DueOk T' (isWordD d) ok due → D'.nx [s0, s1, s2, some (.ref p), s4, some d, some due, some (.ref pw), s8, s9, s10, s11, s12, s13, s14] T') :
    t3IfS (t3And (t3T (t3Op (isR false) (t3Var 6) (t3C .non))) (t3Or (t3T (t3Op (intR0 fun i j => .bl (decide (j < i))) (t3CB lenR (t3Cons (t3Var 3) t3Nil)) (t3C (.int 20)))) (t3T (t3Op neER (t3Var 7) (t3Lst t3Nil)))))
      (t3Asg (t3Lst (t3Cons (t3C (.str "pieces")) (t3Cons (t3C (.bl true)) t3Nil))) (g3Name 6)) t3Next D' [s0, s1, s2, some (.ref p), s4, some d, some due, some (.ref pw), s8, s9, s10, s11, s12, s13, s14] T := by
  rcases hdue with ⟨hw, rfl⟩ | ⟨hw, r, rfl, hr⟩
  · refine Br.t rfl (CB.len (xs := xs) h1 ?_)
    have bad : ∀ T', Ext T T' → ok = false → t3Asg (t3Lst (t3Cons (t3C (.str "pieces")) (t3Cons (t3C (.bl true)) t3Nil))) (g3Name 6) D' [s0, s1, s2, some (.ref p), s4, some d, some .non, some (.ref pw), s8, s9, s10, s11, s12, s13, s14] T' := fun T' x e =>
      ⟨by show 2 ≤ sizeLine; decide, fun r hr => k _ _ (x.trans (Ext.new hr)) (.inr (.inl ⟨hw, e, r, rfl, itemsOf_upd⟩))⟩
    refine Br.mk (fun h => Br.t rfl (bad T (Ext.refl _) ?_)) (fun h => ⟨by show 0 ≤ sizeLine; decide, fun r hr => ⟨ws, itemsOf_ext (Ext.new hr) h2, itemsOf_upd, ?_⟩⟩)
    · have : decide (xs.length ≤ 20) = false := by
        rw [decide_eq_true_iff] at h
        rw [decide_eq_false_iff_not]; omega
      rw [hok, this]; rfl
    · have hl : decide (xs.length ≤ 20) = true := by
        rw [decide_eq_false_iff_not] at h
        rw [decide_eq_true_iff]; omega
      refine Br.mk (fun h => bad _ (Ext.new hr) ?_) (fun h => k _ _ (Ext.new hr) (.inr (.inr ⟨hw, ?_, rfl⟩)))
      · rw [hok, hl]; simpa using h
      · rw [hok, hl]; simpa using h
  · exact Br.f rfl (Br.f rfl (k _ _ (Ext.refl _) (.inl ⟨hw, r, rfl, hr⟩)))
theorem okN_ref {T : T3} {p : Addr} {xs : List D} {n : Nat} (h : itemsOf T p = some xs) (k : xs.all (okN T n) = true) : okN T (n + 1) (.ref p) = true := by
  show (match itemsOf T p with
    | some xs => xs.all (okN T n)
    | none => false) = true
  rw [h]; exact k
theorem eqN_ref {T : T3} {p q : Addr} {xs ys : List D} {n : Nat} (h : itemsOf T p = some xs) (k : itemsOf T q = some ys) : eqN T (n + 1) (.ref p) (.ref q) = (xs.length == ys.length && (List.zipWith (eqN T n) xs ys).all id) := by
  show (match itemsOf T p, itemsOf T q with
    | some xs, some ys => xs.length == ys.length && (List.zipWith (eqN T n) xs ys).all id
    | _, _ => false) = _
  rw [h, k]
/-- _law_fault(lambda: ..), read -/
theorem fault_read {E : EX3} {σ : St3} {T : T3} {R : D → T3 → Prop} {Pt : Addr} {q0 : Str} {Ng : List Str} {tb : TE3} (hNg : Ng = (["_law_call", "e"] : List Str)) (eIA : PySem.W.exmOne K (.ref (He.ga K "InvalidAddress")) (.ref (He.ga K "InvalidAddress")) = some true) (vIA : PySem.W.kitOne K (.ref (He.ga K "InvalidAddress")) (.type "ValueError") = some true)
    (hP : T Pt = some (.tab q0)) (h : ∀ (E' : EX3) (R' : D → T3 → Prop), (∀ fld T', (∀ r, T' r = none → R (.ref r) (updT T' r (.lst [.str fld, .bl true]))) → E' "InvalidAddress" [("field", .str fld)] T') → (∀ v T', R .non T' → R' v T') → tb E' σ T R') :
    t3Lam Pt q0 Ng (tFault K) tb E σ T R := by
  subst hNg
  refine ⟨hP, fun f c' vs hf hc => ⟨rfl, h _ _ (fun fld T' k => ⟨true, eIA, fun _ a d ha hd => ?_, fun z => by cases z⟩) fun v T' k => k⟩⟩
  exact ⟨rfl, rfl, rfl, rfl, .str fld, rfl, rfl, rfl, rfl, rfl, true, vIA, by show 2 ≤ sizeLine; decide, fun r hr => k r hr⟩
/-- two lists alike: a text and True -/
theorem alike {T : T3} {r q : Addr} {fld : Str} (h : itemsOf T r = some [.str fld, .bl true]) (k : itemsOf T q = some [.str fld, .bl true]) : okN T 9 (.ref r) = true ∧ okN T 9 (.ref q) = true ∧ eqN T 9 (.ref r) (.ref q) = true := by
  refine ⟨okN_ref h rfl, okN_ref k rfl, ?_⟩
  rw [eqN_ref h k]
  show (true && ((fld == fld) && (true && true))) = true
  simp
theorem lam1_step {D' : Ends3} {T : T3} {d due : D} {r1 Pt : Addr} {q0 : Str} {Ng : List Str} {ok : Bool} {s0 s1 s2 s3 s7 s8 s9 s10 s11 s12 s13 s14 : Option D} (hNg : Ng = (["_law_call", "e"] : List Str))
    (eIA : PySem.W.exmOne K (.ref (He.ga K "InvalidAddress")) (.ref (He.ga K "InvalidAddress")) = some true) (vIA : PySem.W.kitOne K (.ref (He.ga K "InvalidAddress")) (.type "ValueError") = some true)
    (hP : T Pt = some (.tab q0)) (td : Typed K T d) (tp : Typed3 K T (.ref r1)) (hok : arePiecesD T (.ref r1) = ok) (hdue : DueOk T (isWordD d) ok due)
    (k : ∀ T', Ext T T' → D'.nx [s0, s1, s2, s3, some (.ref r1), some d, some due, s7, s8, s9, s10, s11, s12, s13, s14] T') :
    t3IfS (t3T (t3Op neR (t3Lam Pt q0 Ng (tFault K) (t3Make "Far" (spFar K) [] (t3Cons (t3Var 5) (t3Cons (t3Var 4) t3Nil)))) (t3Var 6))) (t3Ret (t3C (.bl false))) t3Next D' [s0, s1, s2, s3, some (.ref r1), some d, some due, s7, s8, s9, s10, s11, s12, s13, s14] T := by
  refine fault_read (E := exE D' [s0, s1, s2, s3, some (.ref r1), some d, some due, s7, s8, s9, s10, s11, s12, s13, s14]) hNg eIA vIA hP fun E' R' hE hR => ?_
  intro p hp
  have x1 : Ext T (updT T p (.ins "Far" [])) := Ext.new hp
  have hok' : arePiecesD (updT T p (.ins "Far" [])) (.ref r1) = ok := by rw [arePieces_sim x1.sim tp, hok]
  refine ⟨⟨p, d, .ref r1, rfl, updT_same, td.sim x1.sim, tp.sim x1.sim, fun hw => hE "state" _ fun r hr => ?_, fun hw hn => hE "pieces" _ fun r hr => ?_, fun hw hn => ⟨rfl, hR _ _ ?_⟩⟩⟩
  · have x2 := x1.trans (Ext.new (o := .lst [.str "state", .bl true]) hr)
    rcases hdue with ⟨h1, rd, rfl, h2⟩ | ⟨h1, _⟩ | ⟨h1, _⟩
    · obtain ⟨a1, a2, a3⟩ := alike (fld := _) itemsOf_upd (itemsOf_ext x2 h2)
      exact ⟨a1, a2, by rw [a3]; exact Br.f rfl (k _ x2)⟩
    · rw [hw] at h1; cases h1
    · rw [hw] at h1; cases h1
  · have x2 := x1.trans (Ext.new (o := .lst [.str "pieces", .bl true]) hr)
    rw [hok'] at hn
    rcases hdue with ⟨h1, _⟩ | ⟨_, h0, rd, rfl, h2⟩ | ⟨_, h0, _⟩
    · rw [hw] at h1; cases h1
    · obtain ⟨a1, a2, a3⟩ := alike (fld := _) itemsOf_upd (itemsOf_ext x2 h2)
      exact ⟨a1, a2, by rw [a3]; exact Br.f rfl (k _ x2)⟩
    · rw [hn] at h0; cases h0
  · rw [hok'] at hn
    rcases hdue with ⟨h1, _⟩ | ⟨_, h0, _⟩ | ⟨_, _, rfl⟩
    · rw [hw] at h1; cases h1
    · rw [hn] at h0; cases h0
    · refine ⟨rfl, rfl, Br.f rfl (k _ ?_)⟩
      rw [updT_upd]
      exact Ext.new hp
theorem lam2_step {D' : Ends3} {T : T3} {a c : Addr} {cells : List Int} {spot rest : Int} {Pt : Addr} {q0 : Str} {Ng : List Str} {s0 s2 s3 s4 s5 s6 s7 s8 s9 s10 s11 s12 s13 s14 : Option D} (hNg : Ng = (["_law_call", "e"] : List Str))
    (eIA : PySem.W.exmOne K (.ref (He.ga K "InvalidAddress")) (.ref (He.ga K "InvalidAddress")) = some true) (vIA : PySem.W.kitOne K (.ref (He.ga K "InvalidAddress")) (.type "ValueError") = some true)
    (hP : T Pt = some (.tab q0)) (tp : Tape T a c cells spot rest) (h0 : 0 ≤ spot) (h1 : spot < 2 ^ 40)
    (k : ∀ T' sp, spot ≤ sp → sp ≤ spot + 1 → (∃ rs, Tape T' a c cells sp rs) → ExtB a T T' → D'.nx [s0, some (.ref a), s2, s3, s4, s5, s6, s7, s8, s9, s10, s11, s12, s13, s14] T') :
    t3IfS (t3T (t3Op neR (t3Lam Pt q0 Ng (tFault K) (t3Make "Far" (spFar K) [] (t3Cons (t3C (.str "s")) (t3Cons (t3Call spPick [] (t3Cons (t3Var 1) (t3Cons (t3Lst (t3Cons (t3C .non) (t3Cons (t3C (.str "ab")) (t3Cons t3DNew (t3Cons (t3C (.int 1)) (t3Cons (t3C (.bl true)) (t3Cons (t3C (.str "s")) t3Nil))))))) t3Nil))) t3Nil))))
      (t3Lst (t3Cons (t3C (.str "pieces")) (t3Cons (t3C (.bl true)) t3Nil))))) (t3Ret (t3C (.bl false))) t3Next D' [s0, some (.ref a), s2, s3, s4, s5, s6, s7, s8, s9, s10, s11, s12, s13, s14] T := by
  refine fault_read (E := exE D' [s0, some (.ref a), s2, s3, s4, s5, s6, s7, s8, s9, s10, s11, s12, s13, s14]) hNg eIA vIA hP fun E' R' hE hR => ?_
  intro r hr
  obtain ⟨T1, e1, x1, g1⟩ := alloc (.dct []) hr
  rw [e1]
  refine ⟨by show 6 ≤ sizeLine; decide, fun l hl => ?_⟩
  obtain ⟨T2, e2, x2, g2⟩ := alloc (.lst [.non, .str "ab", .ref r, .int 1, .bl true, .str "s"]) hl
  rw [e2]
  refine Go.pick ((tp.ext x1).ext x2) (items_lst g2) (by simp) (by show 6 ≤ sizeLine; decide) h0 h1 fun d sp T3 hd a1 b1 ⟨rs, tp3⟩ x3 => ?_
  intro p hp
  have x4 : Ext T3 (updT T3 p (.ins "Far" [])) := Ext.new hp
  have hra : r ≠ a := fun z => by rw [z, tp.tape] at hr; cases hr
  have g3 : T3 r = some (.dct []) := x3 _ _ hra (x2 _ _ g1)
  have tdn : Typed3 K T3 d ∧ seqOf T3 d = none := by
    simp only [List.mem_cons, List.not_mem_nil, or_false] at hd
    rcases hd with rfl | rfl | rfl | rfl | rfl | rfl
    · exact ⟨⟨trivial, fun xs e => by cases e⟩, rfl⟩
    · exact ⟨⟨by show _ ≤ sizeLine; decide, fun xs e => by cases e⟩, rfl⟩
    · have hn : seqOf T3 (.ref r) = none := items_dct g3
      exact ⟨⟨.inr (.inl ⟨[], g3, rfl⟩), fun xs e => by rw [hn] at e; cases e⟩, hn⟩
    · exact ⟨⟨trivial, fun xs e => by cases e⟩, rfl⟩
    · exact ⟨⟨trivial, fun xs e => by cases e⟩, rfl⟩
    · exact ⟨⟨by show _ ≤ sizeLine; decide, fun xs e => by cases e⟩, rfl⟩
  have hno : arePiecesD (updT T3 p (.ins "Far" [])) d = false := by
    rw [arePieces_sim x4.sim tdn.1]
    unfold arePiecesD
    rw [tdn.2]
  have hws : isWordD (.str "s") = true := by decide +kernel
  refine ⟨⟨p, .str "s", d, rfl, updT_same, by show _ ≤ sizeLine; decide, tdn.1.sim x4.sim, (fun hw => by rw [hws] at hw; cases hw), fun hw hn => hE "pieces" _ fun r2 hr2 => ?_, fun hw hn => by rw [hno] at hn; cases hn⟩⟩
  refine ⟨by show 2 ≤ sizeLine; decide, fun r3 hr3 => ?_⟩
  have x5 := Ext.new (o := .lst [.str "pieces", .bl true]) hr2
  have x6 := Ext.new (o := .lst [.str "pieces", .bl true]) hr3
  obtain ⟨c1, c2, c3⟩ := alike (itemsOf_ext x6 itemsOf_upd) itemsOf_upd
  refine ⟨c1, c2, ?_⟩
  rw [c3]
  refine Br.f rfl (k _ sp a1 b1 ⟨rs, ((tp3.ext x4).ext x5).ext x6⟩ ?_)
  exact ((x1.trans x2).b.trans x3).trans ((x4.trans x5).trans x6).b
end
end L3
namespace L3
open PySem PySem.Spec L2
open LamX hiding takes0
open PyProof.Rows hiding St
/-! ### shown texts -/
structure Sh (b n : Nat) (d : D) : Prop where
  ex : ∃ p : PyData, pd d = some p ∧ p.showable = true ∧ p.leavesShort 40 = true ∧ p.hasDict = false ∧ p.depth ≤ n ∧ p.bulk ≤ b
theorem Sh.tupL {b n : Nat} : ∀ {ds : List D}, (∀ d ∈ ds, Sh b n d) → ∃ ps, pdL ds = some ps ∧ PyData.showableAll ps = true ∧ PyData.leavesShortAll 40 ps = true ∧ PyData.hasDictAll ps = false ∧ PyData.depthAll ps ≤ n ∧ PyData.bulkAll ps ≤ ds.length * (b + 1)
  | [], _ => ⟨[], rfl, rfl, rfl, rfl, Nat.zero_le _, Nat.zero_le _⟩
  | d :: ds, h => by
    obtain ⟨p, e, h1, h2, h3, h4, h5⟩ := (h d (List.mem_cons_self ..)).ex
    obtain ⟨ps, es, k1, k2, k3, k4, k5⟩ := Sh.tupL fun x hx => h x (List.mem_cons_of_mem _ hx)
    refine ⟨p :: ps, ?_, ?_, ?_, ?_, ?_, ?_⟩
    · show (pd d).bind (fun x => (pdL ds).map (x :: ·)) = _
      rw [e, es]; rfl
    · simp only [PyData.showableAll, h1, k1, Bool.and_self]
    · simp only [PyData.leavesShortAll, h2, k2, Bool.and_self]
    · simp only [PyData.hasDictAll, h3, k3, Bool.or_self]
    · simp only [PyData.depthAll]; omega
    · simp only [PyData.bulkAll, List.length_cons, Nat.add_mul, Nat.one_mul]; omega
theorem Sh.tup {b n : Nat} {ds : List D} (h : ∀ d ∈ ds, Sh b n d) : Sh (ds.length * (b + 1)) (n + 1) (.tup ds) := by
  obtain ⟨ps, e, h1, h2, h3, h4, h5⟩ := Sh.tupL h
  refine ⟨⟨.tuple ps, ?_, by simpa only [PyData.showable] using h1, by simpa only [PyData.leavesShort] using h2, by simpa only [PyData.hasDict] using h3, by simp only [PyData.depth]; omega, by simpa only [PyData.bulk] using h5⟩⟩
  show (pdL ds).map PyData.tuple = _
  rw [e]; rfl
theorem Sh.le {b b' n n' : Nat} {d : D} (h : Sh b n d) (hb : b ≤ b') (hn : n ≤ n') : Sh b' n' d := by
  obtain ⟨p, e, h1, h2, h3, h4, h5⟩ := h.ex
  exact ⟨⟨p, e, h1, h2, h3, Nat.le_trans h4 hn, Nat.le_trans h5 hb⟩⟩
theorem Sh.word {d : D} (h : isWordD d = true) : Sh 8 0 d := by
  cases d with
  | str z => ?_
  | _ => cases h
  have h' : (decide (1 ≤ z.length) && decide (z.length ≤ 8) && z.cps.toList.all isLetterC) = true := h
  rw [Bool.and_eq_true, Bool.and_eq_true] at h'
  refine ⟨⟨.str z, rfl, by simp only [PyData.showable], ?_, by simp only [PyData.hasDict], by simp only [PyData.depth]; omega, ?_⟩⟩
  · simp only [PyData.leavesShort]
    rw [List.all_eq_true] at h' ⊢
    intro c hc
    have hm : c ∈ lettersS.cps.toList := of_decide_eq_true (h'.2 c hc)
    have hall : ∀ c ∈ lettersS.cps.toList, c < 16 ^ 8 := by decide +kernel
    exact decide_eq_true (hall c hm)
  · simp only [PyData.bulk]
    exact of_decide_eq_true h'.1.2
theorem int_len40 {i : Int} (h : i.natAbs < 10 ^ 39) : (PyData.shown (.int i)).length ≤ 40 := by
  have k := int_text_length_le10 (k := 39) (by omega) h
  show (Str.ofString (toString i)).length ≤ 40
  first | rw [PyProof.Rows.ofString_len] | rw [PySem.ofString_length] | rw [ofString_len]
  exact k
theorem Sh.int {i : Int} (h : i.natAbs < 10 ^ 39) : Sh 0 0 (.int i) := by
  refine ⟨⟨.int i, rfl, ?_, ?_, by simp only [PyData.hasDict], by simp only [PyData.depth]; omega, by simp only [PyData.bulk]; omega⟩⟩
  · simp only [PyData.showable]
    have : i.natAbs.log2 ≤ 200 := log2_le (Nat.lt_of_lt_of_le h (by decide))
    exact decide_eq_true (by omega)
  · simp only [PyData.leavesShort]
    exact decide_eq_true (int_len40 h)
theorem Sh.repr {b n : Nat} {d : D} (h : Sh b n d) (hb : b ≤ 300000) (hn : n ≤ 32) : ∃ z : Str, ∀ T (R : D → T3 → Prop), R (.str z) T → CB reprR [d] T R := by
  obtain ⟨p, e, h1, h2, h3, h4, h5⟩ := h.ex
  refine ⟨p.shown, fun T R hR => ⟨⟨p, e, h1, ?_, by omega, h3, hR⟩⟩⟩
  have k := PyData.shown_le_bulk 40 (by omega) p h2
  have e2 : sizeLine = 16777216 := by decide
  rw [e2]
  omega
theorem ne_str {z : Str} {T : T3} {R : D → T3 → Prop} (h : R (.bl false) T) : neR (.str z) (.str z) T R := by
  refine ⟨rfl, rfl, ?_⟩
  have e : eqN T 9 (.str z) (.str z) = true := by
    show (z == z) = true
    simp
  rw [e]; exact h
/-! ### pieces, put in order -/
theorem piece_norm {T : T3} {x : D} (h : isPieceD T x = true) : ∃ a ys t, x = .tup [a, .int t] ∧ seqOf T a = some ys ∧ normPiece T x = .tup [.tup ys, .int t] ∧ ys.length ≤ 8 ∧ (∀ y ∈ ys, isWordD y = true) ∧ 0 ≤ t ∧ t ≤ 10 ^ 30 := by
  obtain ⟨a, b, ys, rfl, hy, hb⟩ := isPieceD_inv h
  cases b with
  | int t => ?_
  | _ => cases hb
  have h1 : (isWordsD T a && isTimesD (.int t)) = true := h
  rw [Bool.and_eq_true] at h1
  have h2 := h1.1
  unfold isWordsD at h2
  rw [hy] at h2
  have h2 : (decide (1 ≤ ys.length) && decide (ys.length ≤ 8) && ys.all isWordD) = true := h2
  rw [Bool.and_eq_true, Bool.and_eq_true] at h2
  have h3 : (decide (0 ≤ t) && decide (t ≤ 10 ^ 30)) = true := hb
  rw [Bool.and_eq_true] at h3
  refine ⟨a, ys, t, rfl, hy, ?_, of_decide_eq_true h2.1.2, List.all_eq_true.mp h2.2, of_decide_eq_true h3.1, of_decide_eq_true h3.2⟩
  show D.tup [.tup ((seqOf T a).getD []), .int t] = _
  rw [hy]; rfl
theorem norm_ext {T T' : T3} (xe : Ext T T') {x : D} (h : isPieceD T x = true) : normPiece T' x = normPiece T x := by
  obtain ⟨a, ys, t, rfl, hy, e, _⟩ := piece_norm h
  rw [e]
  show D.tup [.tup ((seqOf T' a).getD []), .int t] = _
  rw [seqOf_ext xe hy]; rfl
theorem sum_bd {α : Type} (f : α → Int) (B : Nat) : ∀ xs : List α, (∀ x ∈ xs, 0 ≤ f x ∧ f x ≤ (B : Int)) → 0 ≤ (xs.map f).sum ∧ (xs.map f).sum ≤ ((xs.length * B : Nat) : Int)
  | [], _ => ⟨Int.le_refl _, by simp⟩
  | x :: xs, h => by
    have h1 := h x (List.mem_cons_self ..)
    have h2 := sum_bd f B xs fun y hy => h y (List.mem_cons_of_mem _ hy)
    simp only [List.map_cons, List.sum_cons, List.length_cons, Nat.add_mul, Nat.one_mul]
    omega
theorem norm_all {T : T3} {xs : List D} (hl : xs.length ≤ 20) (h : ∀ x ∈ xs, isPieceD T x = true) : NormPs (xs.map (normPiece T)) ∧ Sh 3000 3 (.tup (xs.map (normPiece T))) ∧ (sizeOfD (xs.map (normPiece T))).natAbs < 10 ^ 39 := by
  refine ⟨⟨by simpa using hl, fun x hx => ?_⟩, ?_, ?_⟩
  · obtain ⟨z, hz, rfl⟩ := List.mem_map.mp hx
    obtain ⟨a, ys, t, rfl, hy, e, h8, _, h0, h1⟩ := piece_norm (h z hz)
    exact ⟨ys, t, e, h8, h0, h1⟩
  · refine Sh.le (b := (xs.map (normPiece T)).length * (146 + 1)) (n := 2 + 1) (Sh.tup fun x hx => ?_) ?_ (Nat.le_refl _)
    · obtain ⟨z, hz, rfl⟩ := List.mem_map.mp hx
      obtain ⟨a, ys, t, rfl, hy, e, h8, hw, h0, h1⟩ := piece_norm (h z hz)
      rw [e]
      refine Sh.le (b := [D.tup ys, D.int t].length * (72 + 1)) (n := 1 + 1) (Sh.tup fun d hd => ?_) ?_ (Nat.le_refl _)
      · simp only [List.mem_cons, List.not_mem_nil, or_false] at hd
        rcases hd with rfl | rfl
        · exact Sh.le (b := ys.length * (8 + 1)) (n := 0 + 1) (Sh.tup fun y hy => Sh.word (hw y hy)) (by omega) (by omega)
        · exact (Sh.int (by omega)).le (by omega) (by omega)
      · exact Nat.le_refl _
    · rw [List.length_map]; omega
  · have := sum_bd pieceSize (8 * 10 ^ 30) (xs.map (normPiece T)) fun x hx => ?_
    · unfold sizeOfD
      rw [List.length_map] at this
      omega
    · obtain ⟨z, hz, rfl⟩ := List.mem_map.mp hx
      obtain ⟨a, ys, t, rfl, hy, e, h8, hw, h0, h1⟩ := piece_norm (h z hz)
      rw [e]
      show 0 ≤ (ys.length : Int) * t ∧ (ys.length : Int) * t ≤ _
      refine ⟨Int.mul_nonneg (by omega) h0, ?_⟩
      exact Int.le_trans (Int.mul_le_mul (show (ys.length : Int) ≤ 8 by omega) h1 h0 (by omega)) (by decide)
section
variable {P : Program} {w : World} {K : PySem.W.Frag} {mg : Str → Option Value} {base : Heap} {f : Addr} {fd : FuncData}
/-- Far(d, pcs), right -/
theorem Go.far {T : T3} {p : Addr} {d pcs : D} {R : D → T3 → Prop} {E : EX3} (hp : T p = some (.ins "Far" [])) (td : Typed K T d) (tp : Typed3 K T pcs) (hw : isWordD d = true) (ha : arePiecesD T pcs = true) (h : R .non (updT T p (.ins "Far" (farFs d (normPieces T pcs))))) : Go (spFar K) [.ref p, d, pcs] T R E :=
  ⟨p, d, pcs, rfl, hp, td, tp, fun e => (by rw [hw] at e; cases e), fun _ e => (by rw [ha] at e; cases e), fun _ _ => h⟩
theorem normPs_ext {T T' : T3} (xe : Ext T T') {v : D} {xs : List D} (hs : seqOf T v = some xs) (hs' : seqOf T' v = some xs) (h : ∀ x ∈ xs, isPieceD T x = true) : normPieces T' v = xs.map (normPiece T) := by
  unfold normPieces
  rw [hs']
  exact List.map_congr_left fun x hx => norm_ext xe (h x hx)
theorem made_step {D' : Ends3} {T : T3} {d due : D} {r1 : Addr} {ok : Bool} {s0 s1 s2 s3 s7 s8 s9 s10 s11 s12 s13 s14 : Option D}
    (f1 : FldOk K "Far" "own_state") (f2 : FldOk K "Far" "own_pieces") (cc : CmpC K (He.ga K "Far"))
    (td : Typed K T d) (tp : Typed3 K T (.ref r1)) (hok : arePiecesD T (.ref r1) = ok) (hdue : DueOk T (isWordD d) ok due)
    (k : ∀ T' x8 x9, Ext T T' → D'.nx [s0, s1, s2, s3, some (.ref r1), some d, some due, s7, x8, x9, s10, s11, s12, s13, s14] T') :
    t3IfS (t3T (t3Op (isR false) (t3Var 6) (t3C .non)))
      (t3Seq (t3Asg (t3MakeK ([("state" : Str), "pieces"] : List Str).length "Far" (spFar K) (t3Cons (t3Var 5) (t3Cons (t3CB tupleR (t3Cons (t3Var 4) t3Nil)) t3Nil))) (g3Name 8))
      (t3Seq (t3Asg (t3CB tupleR (t3Cons (t3Lc (fun E σ T R => i3Tup (t3Var 4) E σ T R ∨ i3Lst (t3Var 4) E σ T R) (g3Tup 2 (g3Cons (g3Name 10) (g3Cons (g3Name 14) g3Nil))) t3Yes (t3Tup (t3Cons (t3CB tupleR (t3Cons (t3Var 10) t3Nil)) (t3Cons (t3Var 14) t3Nil))) (List.map (fun x => x.2) [(("_law_words" : Str), 10), ("_law_times", 14)])) t3Nil)) (g3Name 9))
      (t3Seq (t3IfS (t3Or (t3T (t3Op (eqIR K) (t3Var 8) (t3Make "Far" (spFar K) [] (t3Cons (t3Var 5) (t3Cons (t3Var 4) t3Nil)))))
          (t3T (t3Op neR (t3CB reprR (t3Cons (t3Tup (t3Cons (t3Prop "Far" (spGet K "own_state") [] (t3Var 8)) (t3Cons (t3Prop "Far" (spGet K "own_pieces") [] (t3Var 8)) t3Nil))) t3Nil)) (t3CB reprR (t3Cons (t3Tup (t3Cons (t3Var 5) (t3Cons (t3Var 9) t3Nil))) t3Nil)))))
        (t3Ret (t3C (.bl false))) t3Next)
      (t3IfS (t3T (t3Op neR (t3CB reprR (t3Cons (t3CallK ([("far" : Str)] : List Str).length spSize (t3Cons (t3Var 8) t3Nil)) t3Nil))
          (t3CB reprR (t3Cons (t3CB sumR (t3Cons (t3Lc (fun E σ T R => i3Tup (t3Var 9) E σ T R ∨ i3Lst (t3Var 9) E σ T R) (g3Tup 2 (g3Cons (g3Name 10) (g3Cons (g3Name 14) g3Nil))) t3Yes (t3Op mulR (t3CB lenR (t3Cons (t3Var 10) t3Nil)) (t3Var 14)) (List.map (fun x => x.2) [(("_law_words" : Str), 10), ("_law_times", 14)])) t3Nil)) t3Nil))))
        (t3Ret (t3C (.bl false))) t3Next))))
      t3Next D' [s0, s1, s2, s3, some (.ref r1), some d, some due, s7, s8, s9, s10, s11, s12, s13, s14] T := by
  have skip : ∀ r, due = .ref r → isWordD d = isWordD d → due = .non → False := fun r e _ e2 => by rw [e] at e2; cases e2
  rcases hdue with ⟨_, r, rfl, _⟩ | ⟨_, _, r, rfl, _⟩ | ⟨hw, ho, rfl⟩
  · exact Br.f rfl (k _ _ _ (Ext.refl _))
  · exact Br.f rfl (k _ _ _ (Ext.refl _))
  subst ho
  obtain ⟨xs, hs, hl, hp⟩ : ∃ xs, seqOf T (.ref r1) = some xs ∧ xs.length ≤ 20 ∧ ∀ x ∈ xs, isPieceD T x = true := by
    unfold arePiecesD at hok
    cases e : seqOf T (.ref r1) with
    | none => rw [e] at hok; cases hok
    | some xs =>
      rw [e] at hok
      have hok : (decide (xs.length ≤ 20) && xs.all (isPieceD T)) = true := hok
      rw [Bool.and_eq_true] at hok
      exact ⟨xs, rfl, of_decide_eq_true hok.1, List.all_eq_true.mp hok.2⟩
  obtain ⟨np, sh, sb⟩ := norm_all hl hp
  obtain ⟨z1, hz1⟩ := Sh.repr (d := .tup [d, .tup (xs.map (normPiece T))]) (b := [d, .tup (xs.map (normPiece T))].length * (3000 + 1)) (n := 3 + 1) (Sh.tup fun y hy => by
    simp only [List.mem_cons, List.not_mem_nil, or_false] at hy
    rcases hy with rfl | rfl
    · exact (Sh.word hw).le (by omega) (by omega)
    · exact sh) (by show 2 * (3000 + 1) ≤ 300000; omega) (by omega)
  obtain ⟨z2, hz2⟩ := Sh.repr (Sh.int sb) (by omega) (by omega)
  have ar : ∀ {T' : T3} {v : D}, Ext T T' → seqOf T' v = some xs → arePiecesD T' v = true := fun {T' v} xe e => by
    unfold arePiecesD
    rw [e]
    show (decide (xs.length ≤ 20) && xs.all (isPieceD T')) = true
    rw [decide_eq_true hl, Bool.true_and, List.all_eq_true]
    intro x hx
    rw [isPieceD_ext xe.sim (tp.2 xs hs x hx)]
    exact hp x hx
  refine Br.t rfl ?_
  refine CB.tuple hs ⟨rfl, fun p hp0 => ?_⟩
  have x1 : Ext T (updT T p (.ins "Far" [])) := Ext.new hp0
  have t3 : Typed3 K (updT T p (.ins "Far" [])) (.tup xs) := Typed3.sim x1.sim ⟨trivial, fun ys e => by cases e; exact tp.2 xs hs⟩
  refine Go.far updT_same (td.sim x1.sim) t3 hw (ar x1 rfl) ⟨rfl, ?_⟩
  rw [normPs_ext (v := .tup xs) x1 rfl rfl hp, updT_upd]
  generalize hpc : xs.map (normPiece T) = pcs at *
  have x2 : Ext T (updT T p (.ins "Far" (farFs d pcs))) := Ext.new hp0
  have g2 : (updT T p (.ins "Far" (farFs d pcs))) p = some (.ins "Far" (farFs d pcs)) := updT_same
  generalize updT T p (.ins "Far" (farFs d pcs)) = T2 at *
  refine it_seq (fun _ h => h) (seqOf_ext x2 hs) fun G hG q2 hq2 => ?_
  refine comp3_pure id (normPiece T) (fun _ => true) (List.map_id _).symm (Nat.le_trans hl (by decide)) (fun acc => hG _ (seqOf_ext (Ext.new hq2) (seqOf_ext x2 hs))) (fun x hx acc A B h3 h4 => ?_) ?_
  · obtain ⟨a, ys, t, rfl, hy, e, _⟩ := piece_norm (hp x hx)
    refine ⟨rfl, rfl, Br.t rfl ?_⟩
    refine CB.tuple (seqOf_ext (Ext.new hq2) (seqOf_ext x2 hy)) ⟨by show 2 ≤ sizeLine; decide, ?_⟩
    rw [← e]
    exact h3 rfl
  rw [filter_all, hpc]
  refine CB.tuple (xs := pcs) itemsOf_upd ?_
  have x3 : Ext T2 (updT T2 q2 (.lst pcs)) := Ext.new hq2
  have g3 := x3 _ _ g2
  have x03 := x2.trans x3
  generalize updT T2 q2 (.lst pcs) = T3' at *
  intro q hq
  have x4 : Ext T3' (updT T3' q (.ins "Far" [])) := Ext.new hq
  refine Go.far updT_same (td.sim (x03.trans x4).sim) (tp.sim (x03.trans x4).sim) hw (ar (x03.trans x4) (seqOf_ext (x03.trans x4) hs)) ⟨rfl, ?_⟩
  rw [updT_upd]
  generalize normPieces (updT T3' q (.ins "Far" [])) (.ref r1) = pcs2
  have x5 : Ext T3' (updT T3' q (.ins "Far" (farFs d pcs2))) := Ext.new hq
  have g5 := x5 _ _ g3
  have hpq : decide (p = q) = false := decide_eq_false (fun z => by rw [← z, g3] at hq; cases hq)
  refine ⟨"Far", _, "Far", _, g5, updT_same, cc, cc, ?_⟩
  refine Br.f hpq ?_
  have x05 := x03.trans x5
  generalize updT T3' q (.ins "Far" (farFs d pcs2)) = T5 at *
  have gi : insOf T5 (.ref p) = some (("Far" : Str), farFs d pcs) := by unfold insOf; dsimp only; rw [g5]
  refine ⟨_, gi, ⟨_, _, rfl, ⟨⟨_, _, gi, f1, rfl⟩⟩, ?_⟩⟩
  refine ⟨_, gi, ⟨_, _, rfl, ⟨⟨_, _, gi, f2, rfl⟩⟩, ?_⟩⟩
  refine ⟨by show 2 ≤ sizeLine; decide, hz1 _ _ ⟨by show 2 ≤ sizeLine; decide, hz1 _ _ ?_⟩⟩
  refine ne_str (Br.f rfl ?_)
  refine ⟨rfl, ⟨_, _, _, rfl, gi, np, hz2 _ _ ?_⟩⟩
  refine it_seq (a := .tup pcs) (fun _ h => h) rfl fun G hG q3 hq3 => ?_
  refine comp3_pure id (fun x => .int (pieceSize x)) (fun _ => true) (List.map_id _).symm (Nat.le_trans np.1 (by decide)) (fun acc => hG _ rfl) (fun x hx acc A B h3 h4 => ?_) ?_
  · obtain ⟨ys, t, rfl, h8, h0, h30⟩ := np.2 x hx
    refine ⟨rfl, rfl, Br.t rfl ?_⟩
    refine CB.len rfl ⟨?_, h3 rfl⟩
    show ((ys.length : Int)).natAbs.log2 + t.natAbs.log2 < 1000000
    have a1 : ((ys.length : Int)).natAbs.log2 ≤ 4 := log2_le (by omega)
    have a2 : t.natAbs.log2 ≤ 100 := log2_le (by
      have : t.natAbs ≤ 10 ^ 30 := by omega
      exact Nat.lt_of_le_of_lt this (by decide))
    omega
  refine CB.sum (ns := pcs.map pieceSize) (by rw [itemsOf_upd, filter_all, List.map_map]; rfl) ?_
  exact hz2 _ _ (ne_str (Br.f rfl (k _ _ _ (x05.trans (Ext.new hq3)))))
end
end L3
namespace L3
open PySem PySem.Spec L2
open LamX hiding takes0
open PyProof.Rows hiding St
section
variable {P : Program} {w : World} {K : PySem.W.Frag} {mg : Str → Option Value} {base : Heap} {f : Addr} {fd : FuncData}
def pr2 (y : D × Bool) : D := .tup [y.1, .bl y.2]
theorem all_none (ys : List (D × Bool)) : ((ys.filter fun y => !y.2).map (·.1)).isEmpty = ys.all (·.2) := by
  induction ys with
  | nil => rfl
  | cons y ys ih =>
    rw [List.filter_cons, List.all_cons]
    cases y.2 with
    | true => simpa using ih
    | false => rfl
theorem sc_law : FnScope ["_law_script", "_law_tape", "_law_turn", "_law_drawn", "_law_parts", "_law_begin_here", "_law_due", "_law_wrong", "_law_made", "_law_kept", "_law_words", "_law_k", "_law_piece_here", "_law_is_one", "_law_times"] ["_law_script"] (defScope (topS 21)) := ⟨rfl, rfl, rfl, by decide +kernel, rfl, by decide +kernel, by decide +kernel⟩
theorem ok_law {cdv : Value} {c Pt : Addr} (B : Blt mg) (hcode : cdv = .ref c) (TB : TabB base mg c Pt)
    (F__law_begin : DfOk P w K mg base "_law_begin" 1 ["_law_script"] [] spBegin) (F__law_pick : DfOk P w K mg base "_law_pick" 2 ["_law_tape", "_law_some"] [] spPick) (F__law_piece : DfOk P w K mg base "_law_piece" 3 ["_law_tape"] [] (spPieceL K))
    (L__law_fault : LamOk P w K mg base "_law_fault" "_law_call" ["_law_call", "e"] (tFault K)) (C_Far : CtOk P w K mg base "Far" 3 ["self", "state", "pieces"] [] (spFar K)) (CK_Far : CkOk P w K mg base "Far" 3 ["self", "state", "pieces"] ["state", "pieces"] (spFar K))
    (F_size_of : DfOk P w K mg base "size_of" 3 ["far"] [] spSize) (FK_size_of : DkOk P w K mg base "size_of" 3 ["far"] ["far"] spSize) (P_state : PrOk P w K mg base "Far" "state" 1 (spGet K "own_state")) (P_pieces : PrOk P w K mg base "Far" "pieces" 1 (spGet K "own_pieces"))
    (f1 : FldOk K "Far" "own_state") (f2 : FldOk K "Far" "own_pieces") (cc : CmpC K (He.ga K "Far")) (eIA : PySem.W.exmOne K (.ref (He.ga K "InvalidAddress")) (.ref (He.ga K "InvalidAddress")) = some true) (vIA : PySem.W.kitOne K (.ref (He.ga K "InvalidAddress")) (.type "ValueError") = some true)
    {A : Around} {outer : List Env} {s : Shared} {H : Hp} {E : XK} (hgd : A.guards = some []) (hr : Room 6 (A.deeper (envOfC "law" (defScope (topS 21)) s.heap.objs.size f cdv)))
    (tk : Takes (cxOf (L2.CX P w) P w K mg base ["_law_script", "_law_tape", "_law_turn", "_law_drawn", "_law_parts", "_law_begin_here", "_law_due", "_law_wrong", "_law_made", "_law_kept", "_law_words", "_law_k", "_law_piece_here", "_law_is_one", "_law_times"] "law" (defScope (topS 21)) f cdv A outer s H E) (wE E)) :
    ∃ t, PSs3 (cxOf (L2.CX P w) P w K mg base ["_law_script", "_law_tape", "_law_turn", "_law_drawn", "_law_parts", "_law_begin_here", "_law_due", "_law_wrong", "_law_made", "_law_kept", "_law_words", "_law_k", "_law_piece_here", "_law_is_one", "_law_times"] "law" (defScope (topS 21)) f cdv A outer s H E) (wE E) (defBody (topS 21)) t ∧
      ∀ ds T, spLaw Pt ds T → t { nx := fun _ _ => False, rt := fun d _ => d = .bl true } (start3 ["_law_script", "_law_tape", "_law_turn", "_law_drawn", "_law_parts", "_law_begin_here", "_law_due", "_law_wrong", "_law_made", "_law_kept", "_law_words", "_law_k", "_law_piece_here", "_law_is_one", "_law_times"] ds) T := by
  refine ⟨_, (pss3_cons (ps3_set (i := 1) (by exact sc_law.nd) (by rfl) (by first | exact Or.inl rfl | exact Or.inr rfl) (pe3_callD (by exact F__law_begin) tk (by exact hr.mono (by decide)) (by rfl) (pa3_cons (pv3 0) pa3_nil)))
      (pss3_cons (ps3_for (by exact passes_of rfl) (by rfl) (pi3_range1 (by rfl) (by exact B.range) (pa3_cons pe3_int pa3_nil)) (pg3_name (i := 2) (by exact sc_law.nd) (by rfl) (by first | exact Or.inl rfl | exact Or.inr rfl)) (pss3_cons (ps3_setLc (i := 3) (own := [("_law_k", 11)]) (by rfl) (by exact sc_law.nd) (by rfl) (by rfl) (by exact sw_true rfl rfl rfl (by decide +kernel)) (pi3_range1 (by rfl) (by exact B.range) (pa3_cons (pe3_callD (by exact F__law_pick) tk (by exact hr.mono (by decide)) (by rfl) (pa3_cons (pv3 1) (pa3_cons (pe3_lst (pa3_cons pe3_int (pa3_cons pe3_int (pa3_cons pe3_int (pa3_cons pe3_int (pa3_cons pe3_int (pa3_cons pe3_int pa3_nil))))))) pa3_nil))) pa3_nil)) (by exact blkOk_by (N := ["_law_script", "_law_tape", "_law_turn", "_law_drawn", "_law_parts", "_law_begin_here", "_law_due", "_law_wrong", "_law_made", "_law_kept", "_law_words", "_law_k", "_law_piece_here", "_law_is_one", "_law_times"]) (sc := defScope (topS 21)) (by decide +kernel)) (GC.name (by decide)) (fun _ _ _ _ _ => (pg_name (i := 11) (by exact sc_law.nd) (by rfl) (by first | exact Or.inl rfl | exact Or.inr rfl))) (fun _ _ _ _ _ => pts3_nil) (fun _ _ _ _ _ => (pe3_callD (by exact F__law_piece) takes0 (by exact hr.mono (by decide)) (by rfl) (pa3_cons (pv3 1) pa3_nil))))
      (pss3_cons (ps3_set (i := 4) (by exact sc_law.nd) (by rfl) (by first | exact Or.inl rfl | exact Or.inr rfl) (pe3_lc (own := [("_law_piece_here", 12), ("_law_is_one", 13)]) (by rfl) (by exact sc_law.nd) ((pi3_tup (pv3 3)).or (pi3_list (pv3 3))) (by exact blkOk_by (N := ["_law_script", "_law_tape", "_law_turn", "_law_drawn", "_law_parts", "_law_begin_here", "_law_due", "_law_wrong", "_law_made", "_law_kept", "_law_words", "_law_k", "_law_piece_here", "_law_is_one", "_law_times"]) (sc := defScope (topS 21)) (by decide +kernel)) (GC.tup (n := 2) (GCs.cons (GC.name (by decide)) (GCs.cons (GC.name (by decide)) GCs.nil))) (fun _ _ _ _ _ => (pg_tup (n := 2) (by rfl) (pgs_cons (pg_name (i := 12) (by exact sc_law.nd) (by rfl) (by first | exact Or.inl rfl | exact Or.inr rfl)) (pgs_cons (pg_name (i := 13) (by exact sc_law.nd) (by rfl) (by first | exact Or.inl rfl | exact Or.inr rfl)) pgs_nil)))) (fun _ _ _ _ _ => pts3_nil) (fun _ _ _ _ _ => (pv3 12))))
      (pss3_cons (ps3_set (i := 5) (by exact sc_law.nd) (by rfl) (by first | exact Or.inl rfl | exact Or.inr rfl) (pe3_callD (by exact F__law_pick) tk (by exact hr.mono (by decide)) (by rfl) (pa3_cons (pv3 1) (pa3_cons (pe3_lst (pa3_cons pe3_str (pa3_cons pe3_str (pa3_cons pe3_str (pa3_cons pe3_str (pa3_cons pe3_str (pa3_cons pe3_int (pa3_cons pe3_non (pa3_cons pe3_str pa3_nil))))))))) pa3_nil))))
      (pss3_cons (ps3_set (i := 6) (by exact sc_law.nd) (by rfl) (by first | exact Or.inl rfl | exact Or.inr rfl) (pe3_ifExp (pt3_cmp (o3_in (by exact hr.units)) (pv3 5) (pe3_tup (pa3_cons pe3_str (pa3_cons pe3_str pa3_nil))) (by rfl)) pe3_non (pe3_lst (pa3_cons pe3_str (pa3_cons pe3_bl pa3_nil)))))
      (pss3_cons (ps3_setLc (i := 7) (own := [("_law_piece_here", 12), ("_law_is_one", 13)]) (by rfl) (by exact sc_law.nd) (by rfl) (by rfl) (by exact sw_true rfl rfl rfl (by decide +kernel)) ((pi3_tup (pv3 3)).or (pi3_list (pv3 3))) (by exact blkOk_by (N := ["_law_script", "_law_tape", "_law_turn", "_law_drawn", "_law_parts", "_law_begin_here", "_law_due", "_law_wrong", "_law_made", "_law_kept", "_law_words", "_law_k", "_law_piece_here", "_law_is_one", "_law_times"]) (sc := defScope (topS 21)) (by decide +kernel)) (GC.tup (n := 2) (GCs.cons (GC.name (by decide)) (GCs.cons (GC.name (by decide)) GCs.nil))) (fun _ _ _ _ _ => (pg_tup (n := 2) (by rfl) (pgs_cons (pg_name (i := 12) (by exact sc_law.nd) (by rfl) (by first | exact Or.inl rfl | exact Or.inr rfl)) (pgs_cons (pg_name (i := 13) (by exact sc_law.nd) (by rfl) (by first | exact Or.inl rfl | exact Or.inr rfl)) pgs_nil)))) (fun _ _ _ _ _ => (pts3_one (pt3_not (pt3_val (pv3 13))))) (fun _ _ _ _ _ => (pv3 12)))
      (pss3_cons (ps3_if (PW3.pt (pw3_and (pt3_cmp o3_is (pv3 6) pe3_non (nomark _)) (pw3_and1 (PW3.pt (pw3_or (pt3_cmp o3_gt (pe3_callB c3_len (by rfl) (by exact B.len) (by first | exact boot_len | decide +kernel) (pa3_cons (pv3 3) pa3_nil)) pe3_int (nomark _)) (pw3_or1 (pt3_cmp (o3_neE (by exact hr.units)) (pv3 7) (pe3_lst pa3_nil) (nomark _)))))))) (pss3_one (ps3_set (i := 6) (by exact sc_law.nd) (by rfl) (by first | exact Or.inl rfl | exact Or.inr rfl) (pe3_lst (pa3_cons pe3_str (pa3_cons pe3_bl pa3_nil))))) pss3_nil)
      (pss3_cons (ps3_if (pt3_cmp (o3_ne (by exact hr.units)) (pe3_lamD (k := 4) (by exact L__law_fault) (by rfl) (by exact TB) (by exact hcode) (by exact hr.mono (by decide)) (by exact lamS_by (sc := defScope (topS 21)) (by decide +kernel)) (by rfl) (by exact fun _ _ _ _ _ => by rfl) (fun _ _ _ _ _ _ _ hr tk => (pe3_makeD (by exact C_Far) tk (by exact hr.mono (by decide)) (by rfl) (pa3_cons (pv3 5) (pa3_cons (pv3 4) pa3_nil))))) (pv3 6) (nomark _)) (pss3_one (ps3_ret pe3_bl)) pss3_nil)
      (pss3_cons (ps3_if (pt3_cmp o3_is (pv3 6) pe3_non (nomark _)) (pss3_cons (ps3_set (i := 8) (by exact sc_law.nd) (by rfl) (by first | exact Or.inl rfl | exact Or.inr rfl) (pe3_makeK (by exact CK_Far) tk (by exact hr.mono (by decide)) (by rfl) (pk3_cons (pv3 5) (pk3_cons (pe3_callTy c3_tuple (by rfl) (by exact B.tuple) (by first | exact boot_tuple | decide +kernel) (pa3_cons (pv3 4) pa3_nil)) pk3_nil))))
      (pss3_cons (ps3_set (i := 9) (by exact sc_law.nd) (by rfl) (by first | exact Or.inl rfl | exact Or.inr rfl) (pe3_callTy c3_tuple (by rfl) (by exact B.tuple) (by first | exact boot_tuple | decide +kernel) (pa3_cons (pe3_lc (own := [("_law_words", 10), ("_law_times", 14)]) (by rfl) (by exact sc_law.nd) ((pi3_tup (pv3 4)).or (pi3_list (pv3 4))) (by exact blkOk_by (N := ["_law_script", "_law_tape", "_law_turn", "_law_drawn", "_law_parts", "_law_begin_here", "_law_due", "_law_wrong", "_law_made", "_law_kept", "_law_words", "_law_k", "_law_piece_here", "_law_is_one", "_law_times"]) (sc := defScope (topS 21)) (by decide +kernel)) (GC.tup (n := 2) (GCs.cons (GC.name (by decide)) (GCs.cons (GC.name (by decide)) GCs.nil))) (fun _ _ _ _ _ => (pg_tup (n := 2) (by rfl) (pgs_cons (pg_name (i := 10) (by exact sc_law.nd) (by rfl) (by first | exact Or.inl rfl | exact Or.inr rfl)) (pgs_cons (pg_name (i := 14) (by exact sc_law.nd) (by rfl) (by first | exact Or.inl rfl | exact Or.inr rfl)) pgs_nil)))) (fun _ _ _ _ _ => pts3_nil) (fun _ _ _ _ _ => (pe3_tup (pa3_cons (pe3_callTy c3_tuple (by rfl) (by exact B.tuple) (by first | exact boot_tuple | decide +kernel) (pa3_cons (pv3 10) pa3_nil)) (pa3_cons (pv3 14) pa3_nil))))) pa3_nil)))
      (pss3_cons (ps3_if (PW3.pt (pw3_or (pt3_cmp (o3_eqI (by exact hr.units)) (pv3 8) (pe3_makeD (by exact C_Far) tk (by exact hr.mono (by decide)) (by rfl) (pa3_cons (pv3 5) (pa3_cons (pv3 4) pa3_nil))) (nomark _)) (pw3_or1 (pt3_cmp (o3_ne (by exact hr.units)) (pe3_callB (c3_repr (by exact hgd) (by exact hr.units)) (by rfl) (by exact B.repr) (by first | exact boot_repr | decide +kernel) (pa3_cons (pe3_tup (pa3_cons (pe3_propD (pv3 8) (by exact P_state) (by exact hr.mono (by decide))) (pa3_cons (pe3_propD (pv3 8) (by exact P_pieces) (by exact hr.mono (by decide))) pa3_nil))) pa3_nil)) (pe3_callB (c3_repr (by exact hgd) (by exact hr.units)) (by rfl) (by exact B.repr) (by first | exact boot_repr | decide +kernel) (pa3_cons (pe3_tup (pa3_cons (pv3 5) (pa3_cons (pv3 9) pa3_nil))) pa3_nil)) (nomark _))))) (pss3_one (ps3_ret pe3_bl)) pss3_nil)
      (pss3_one (ps3_if (pt3_cmp (o3_ne (by exact hr.units)) (pe3_callB (c3_repr (by exact hgd) (by exact hr.units)) (by rfl) (by exact B.repr) (by first | exact boot_repr | decide +kernel) (pa3_cons (pe3_callK (by exact FK_size_of) tk (by exact hr.mono (by decide)) (by rfl) (pk3_cons (pv3 8) pk3_nil)) pa3_nil)) (pe3_callB (c3_repr (by exact hgd) (by exact hr.units)) (by rfl) (by exact B.repr) (by first | exact boot_repr | decide +kernel) (pa3_cons (pe3_callB (c3_sum (by rfl)) (by rfl) (by exact B.sum) (by first | exact boot_sum | decide +kernel) (pa3_cons (pe3_lc (own := [("_law_words", 10), ("_law_times", 14)]) (by rfl) (by exact sc_law.nd) ((pi3_tup (pv3 9)).or (pi3_list (pv3 9))) (by exact blkOk_by (N := ["_law_script", "_law_tape", "_law_turn", "_law_drawn", "_law_parts", "_law_begin_here", "_law_due", "_law_wrong", "_law_made", "_law_kept", "_law_words", "_law_k", "_law_piece_here", "_law_is_one", "_law_times"]) (sc := defScope (topS 21)) (by decide +kernel)) (GC.tup (n := 2) (GCs.cons (GC.name (by decide)) (GCs.cons (GC.name (by decide)) GCs.nil))) (fun _ _ _ _ _ => (pg_tup (n := 2) (by rfl) (pgs_cons (pg_name (i := 10) (by exact sc_law.nd) (by rfl) (by first | exact Or.inl rfl | exact Or.inr rfl)) (pgs_cons (pg_name (i := 14) (by exact sc_law.nd) (by rfl) (by first | exact Or.inl rfl | exact Or.inr rfl)) pgs_nil)))) (fun _ _ _ _ _ => pts3_nil) (fun _ _ _ _ _ => (pe3_op o3_mul (pe3_callB c3_len (by rfl) (by exact B.len) (by first | exact boot_len | decide +kernel) (pa3_cons (pv3 10) pa3_nil)) (pv3 14)))) pa3_nil)) pa3_nil)) (nomark _)) (pss3_one (ps3_ret pe3_bl)) pss3_nil))))) pss3_nil)
      (pss3_one (ps3_if (pt3_cmp (o3_ne (by exact hr.units)) (pe3_lamD (k := 4) (by exact L__law_fault) (by rfl) (by exact TB) (by exact hcode) (by exact hr.mono (by decide)) (by exact lamS_by (sc := defScope (topS 21)) (by decide +kernel)) (by rfl) (by exact fun _ _ _ _ _ => by rfl) (fun _ _ _ _ _ _ _ hr tk => (pe3_makeD (by exact C_Far) tk (by exact hr.mono (by decide)) (by rfl) (pa3_cons pe3_str (pa3_cons (pe3_callD (by exact F__law_pick) tk (by exact hr.mono (by decide)) (by rfl) (pa3_cons (pv3 1) (pa3_cons (pe3_lst (pa3_cons pe3_non (pa3_cons pe3_str (pa3_cons pe3_dnew (pa3_cons pe3_int (pa3_cons pe3_bl (pa3_cons pe3_str pa3_nil))))))) pa3_nil))) pa3_nil))))) (pe3_lst (pa3_cons pe3_str (pa3_cons pe3_bl pa3_nil))) (nomark _)) (pss3_one (ps3_ret pe3_bl)) pss3_nil)))))))))))
      (pss3_cons (ps3_asg (pe3_tup (pa3_cons (pe3_lst (pa3_cons pe3_str (pa3_cons pe3_str pa3_nil))) (pa3_cons (pe3_lst pa3_nil) pa3_nil))) (pg3_tup (n := 2) (by rfl) (pgs3_cons (pg3_name (i := 10) (by exact sc_law.nd) (by rfl) (by first | exact Or.inl rfl | exact Or.inr rfl)) (pgs3_cons (pg3_name (i := 4) (by exact sc_law.nd) (by rfl) (by first | exact Or.inl rfl | exact Or.inr rfl)) pgs3_nil))))
      (pss3_cons (ps3_expr (pe3_bm PySem.F.plainAttrs_list PySem.F.slot_list_append PySem.F.type_list_append m3_append (pv3 4) (pa3_cons (pe3_tup (pa3_cons (pv3 10) (pa3_cons pe3_int pa3_nil))) pa3_nil)))
      (pss3_cons (ps3_set (i := 8) (by exact sc_law.nd) (by rfl) (by first | exact Or.inl rfl | exact Or.inr rfl) (pe3_makeD (by exact C_Far) tk (by exact hr.mono (by decide)) (by rfl) (pa3_cons pe3_str (pa3_cons (pv3 4) pa3_nil))))
      (pss3_cons (ps3_expr (pe3_bm PySem.F.plainAttrs_list PySem.F.slot_list_append PySem.F.type_list_append m3_append (pv3 10) (pa3_cons pe3_str pa3_nil)))
      (pss3_cons (ps3_expr (pe3_bm PySem.F.plainAttrs_list PySem.F.slot_list_append PySem.F.type_list_append m3_append (pv3 4) (pa3_cons (pe3_tup (pa3_cons (pe3_lst (pa3_cons pe3_str pa3_nil)) (pa3_cons pe3_int pa3_nil))) pa3_nil)))
      (pss3_one (ps3_ret (pe3_and (pe3_cmp (o3_eq (by exact hr.units)) (pe3_propD (pv3 8) (by exact P_pieces) (by exact hr.mono (by decide))) (pe3_tup (pa3_cons (pe3_tup (pa3_cons (pe3_tup (pa3_cons pe3_str (pa3_cons pe3_str pa3_nil))) (pa3_cons pe3_int pa3_nil))) pa3_nil)) (nomark _)) (pe3_and (pe3_cmp (o3_eq (by exact hr.units)) (pe3_callD (by exact F_size_of) tk (by exact hr.mono (by decide)) (by rfl) (pa3_cons (pv3 8) pa3_nil)) pe3_int (nomark _)) (pe3_one (pe3_cmp (o3_eq (by exact hr.units)) (pe3_callD (by exact F_size_of) tk (by exact hr.mono (by decide)) (by rfl) (pa3_cons (pe3_makeD (by exact C_Far) tk (by exact hr.mono (by decide)) (by rfl) (pa3_cons pe3_str (pa3_cons (pe3_lst pa3_nil) pa3_nil))) pa3_nil)) pe3_int (nomark _)))))))))))))), ?_⟩
  rintro ds T ⟨q, ns, rfl, hq, hP⟩
  refine ⟨q, ns, rfl, hq, fun T1 a c cells x1 tp1 => ?_⟩
  have hPt1 := x1 _ _ hP
  have hPa : Pt ≠ a := fun z => by
    have := tp1.tape
    rw [← z, hPt1] at this; cases this
  refine ⟨by decide, by decide, ?_⟩
  refine loop3_inv (fun k σ T' => (∃ v2 v3 v4 v5 v6 v7 v8 v9 v10 v11 v12 v13 v14, σ = [some (.ref q), some (.ref a), v2, v3, v4, v5, v6, v7, v8, v9, v10, v11, v12, v13, v14]) ∧ (∃ sp rs, Tape T' a c cells sp rs ∧ 0 ≤ sp ∧ sp ≤ 1000 * (k : Int)) ∧ T' Pt = some (.tab lamQ)) (fun _ _ _ _ => trivial) ⟨⟨_, _, _, _, _, _, _, _, _, _, _, _, _, rfl⟩, ⟨_, _, tp1, by omega, by omega⟩, hPt1⟩ ?_ ?_
  · rintro k x σ Tk N hk ⟨⟨v2, v3, v4, v5, v6, v7, v8, v9, v10, v11, v12, v13, v14, rfl⟩, ⟨sp0, rs0, tp0, n0, n1⟩, hPk⟩ hN
    have hk8 : k < 8 := by
      have := (List.getElem?_eq_some_iff.mp hk).1
      rw [rangeD_len] at this
      exact this
    refine ⟨by show 6 ≤ sizeLine; decide, fun r hr => ?_⟩
    obtain ⟨Ta, ea, xa, ga⟩ := alloc (.lst [.int 0, .int 1, .int 2, .int 3, .int 20, .int 21]) hr
    rw [ea]
    refine Go.pick (tp0.ext xa) (items_lst ga) (by simp) (by show 6 ≤ sizeLine; decide) n0 (by omega) fun m sp1 Tb hm a1 b1 ⟨rs1, tpb⟩ xb => ?_
    obtain ⟨j, rfl, j0, j1⟩ : ∃ j, m = .int j ∧ 0 ≤ j ∧ j ≤ 21 := by
      simp only [List.mem_cons, List.not_mem_nil, or_false] at hm
      rcases hm with rfl | rfl | rfl | rfl | rfl | rfl <;> exact ⟨_, rfl, by decide, by decide⟩
    refine ⟨by omega, by omega, fun p hp => ?_⟩
    have hpa : p ≠ a := fun z => by rw [z, tpb.tape] at hp; cases hp
    have hcp : c ≠ p := fun z => by
      have := tpb.cell
      rw [z, hp] at this; cases this
    have hPb : Tb Pt = some (.tab lamQ) := xb _ _ hPa (xa _ _ hPk)
    refine comp3_inv (fun acc T' => ∃ ys : List (D × Bool), acc = ys.map pr2 ∧ T' p = some (.lst acc) ∧ (∃ sp rs, Tape T' a c cells sp rs ∧ sp1 ≤ sp ∧ sp ≤ sp1 + 20 * acc.length) ∧ ExtB a Tb T' ∧ ∃ S, S p = none ∧ S a = none ∧ Ext S T' ∧ ∀ y ∈ ys, Typed2 K S y.1 ∧ isPieceD S y.1 = y.2) ?_ (fun _ _ _ => trivial)
      ⟨[], rfl, updT_same, ⟨sp1, rs1, tpb.ext (Ext.new hp), by omega, by simp⟩, (Ext.new hp).b, fun _ => none, rfl, rfl, fun _ _ e => (by cases e), fun y hy => (by cases hy)⟩ (fun x hx acc Tc hl ⟨ys, j2, je, ⟨sp, rs, tpc, j3, j4⟩, j5, S, Sp, Sa, xS, hys⟩ A B hA => ?_) (fun acc T2 hlen ⟨ys, j2, e2, ⟨sp2, rs2, tp2, a2, b2⟩, x2, S, Sp, Sa, xS, hys⟩ => ?_)
    · rw [rangeD_len]
      have : j.toNat ≤ 21 := by omega
      exact Nat.le_trans this (by decide)
    · rw [rangeD_len] at hl
      refine Br.t rfl ⟨a, c, cells, sp, rs, rfl, tpc, by omega, by omega, fun v b sp' T' c1 c2 ⟨rs', tp'⟩ x' ty ip => hA _ T' (x' _ _ hpa je) ⟨ys ++ [(v, b)], by rw [j2, List.map_append]; rfl, updT_same, ⟨sp', rs', ⟨by rw [updT_ne (Ne.symm hpa)]; exact tp'.tape, by rw [updT_ne hcp]; exact tp'.cell, tp'.full⟩, by omega, by rw [List.length_append, List.length_singleton]; push_cast; omega⟩, ?_, Both S (News Tc T'), ?_, ?_, ?_, ?_⟩⟩
      · intro b o hb e
        have hbp : b ≠ p := fun z => by rw [z, hp] at e; cases e
        rw [updT_ne hbp]
        exact x' _ _ hb (j5 _ _ hb e)
      · exact Both.none Sp (News.old je)
      · exact Both.none Sa (News.old tpc.tape)
      · exact (Both.ext (xS.exb Sa x') (News.ext Tc T')).upd (Both.none Sp (News.old je))
      · intro y hy
        rcases List.mem_append.mp hy with hy | hy
        · obtain ⟨h1, h2⟩ := hys y hy
          exact ⟨h1.ext (Both.left S _).sim, by rw [isPieceD_ext (Both.left S (News Tc T')).sim h1]; exact h2⟩
        · rw [List.mem_singleton] at hy
          subst hy
          have xr := Both.right (xS.exb Sa x') (News.ext Tc T')
          exact ⟨ty.ext xr.sim, by rw [isPieceD_ext xr.sim ty]; exact ip⟩
    rw [rangeD_len] at hlen
    subst j2
    rw [List.length_map] at hlen b2
    have hy21 : ys.length ≤ 21 := by omega
    have hPt2 : T2 Pt = some (.tab lamQ) := x2 _ _ hPa hPb
    refine it_seq (a := .ref p) (fun _ h => h) (items_lst e2) fun G hG p4 hp4 => ?_
    refine comp3_pure pr2 (·.1) (fun _ => true) rfl (Nat.le_trans hy21 (by decide)) (fun acc => hG _ (items_lst (Ext.new hp4 _ _ e2))) (fun y hy acc A B h3 h4 => ⟨rfl, rfl, Br.t rfl (h3 rfl)⟩) ?_
    rw [filter_all]
    obtain ⟨T3, e3, x3, g3⟩ := alloc (.lst (ys.map (·.1))) hp4
    rw [e3]
    have hp4a : p4 ≠ a := fun z => by rw [z, tp2.tape] at hp4; cases hp4
    refine ⟨by show 8 ≤ sizeLine; decide, fun r5 hr5 => ?_⟩
    obtain ⟨T4, e4, x4, g4⟩ := alloc (.lst begins) hr5
    refine Go.pick (xs := begins) (((tp2.ext x3).ext (Ext.new hr5))) itemsOf_upd (by simp [begins]) (by show 8 ≤ sizeLine; decide) (by omega) (by omega) fun d sp5 T5 hd a5 b5 ⟨rs5, tp5⟩ x5 => ?_
    have x4 : Ext T3 _ := Ext.new (o := .lst begins) hr5
    have S5 : Ext S T5 := ((xS.trans x3).trans x4).exb Sa x5
    have P5 : T5 Pt = some (.tab lamQ) := x5 _ _ hPa (x4 _ _ (x3 _ _ hPt2))
    have D5 : itemsOf T5 p = some (ys.map pr2) := items_lst (x5 _ _ hpa (x4 _ _ (x3 _ _ e2)))
    have E5 : itemsOf T5 p4 = some (ys.map (·.1)) := items_lst (x5 _ _ hp4a (x4 _ _ g3))
    have fin : ∀ T', Ext S T' → itemsOf T' p4 = some (ys.map (·.1)) → Typed3 K T' (.ref p4) ∧ arePiecesD T' (.ref p4) = (decide (ys.length ≤ 20) && ys.all (·.2)) := fun T' xe e => by
      refine ⟨⟨.inl ⟨_, e⟩, fun xs ee x hx => ?_⟩, ?_⟩
      · have ee : itemsOf T' p4 = some xs := ee
        rw [e] at ee
        cases ee
        obtain ⟨y, hy, rfl⟩ := List.mem_map.mp hx
        exact (hys y hy).1.ext xe.sim
      · have e' : seqOf T' (.ref p4) = some (ys.map (·.1)) := e
        unfold arePiecesD
        rw [e']
        show (decide ((ys.map (·.1)).length ≤ 20) && (ys.map (·.1)).all (isPieceD T')) = _
        rw [List.length_map, List.all_map]
        congr 1
        rw [Bool.eq_iff_iff, List.all_eq_true, List.all_eq_true]
        refine ⟨fun k y hy => ?_, fun k y hy => ?_⟩
        · rw [← (hys y hy).2, ← isPieceD_ext xe.sim (hys y hy).1]; exact k y hy
        · show isPieceD T' y.1 = true
          rw [isPieceD_ext xe.sim (hys y hy).1, (hys y hy).2]; exact k y hy
    refine due_step hd fun due T6 x6 hdue => ?_
    refine it_seq (a := .ref p) (fun _ h => h) (itemsOf_ext x6 D5) fun G hG p7 hp7 => ?_
    refine comp3_pure pr2 (·.1) (fun y => !y.2) rfl (Nat.le_trans hy21 (by decide)) (fun acc => hG _ (itemsOf_ext (Ext.new hp7) (itemsOf_ext x6 D5))) (fun y hy acc A B h3 h4 => ⟨rfl, rfl, Br.mk h3 h4⟩) ?_
    have x7 : Ext T6 (updT T6 p7 (.lst ((ys.filter fun y => !y.2).map (·.1)))) := Ext.new hp7
    have hdue : (isWordD d = true ∧ due = .non) ∨ (isWordD d = false ∧ ∃ r, due = .ref r ∧ itemsOf (updT T6 p7 (.lst ((ys.filter fun y => !y.2).map (·.1)))) r = some [.str "state", .bl true]) := by
      rcases hdue with h | ⟨h, r, h2, h3⟩
      · exact .inl h
      · exact .inr ⟨h, r, h2, itemsOf_ext x7 h3⟩
    refine due2_step (ok := decide (ys.length ≤ 20) && ys.all (·.2)) (itemsOf_ext (x6.trans x7) D5) itemsOf_upd ?_ hdue fun due T8 x8 hdue => ?_
    · rw [List.length_map, all_none]
    have x58 := (x6.trans x7).trans x8
    obtain ⟨ty8, ar8⟩ := fin T8 (S5.trans x58) (itemsOf_ext x58 E5)
    have td : ∀ T, Typed K T d := (begins_ok hd).1
    refine lam1_step rfl eIA vIA (x58 _ _ P5) (td _) ty8 ar8 hdue fun T9 x9 => ?_
    have x59 := x58.trans x9
    obtain ⟨ty9, ar9⟩ := fin T9 (S5.trans x59) (itemsOf_ext x59 E5)
    refine made_step f1 f2 cc (td _) ty9 ar9 (hdue.ext x9) fun T10 y8 y9 x10 => ?_
    have x510 := x59.trans x10
    refine lam2_step rfl eIA vIA (x510 _ _ P5) (tp5.ext x510) (by omega) (by omega) fun T11 sp11 a11 b11 ⟨rs11, tp11⟩ x11 => ?_
    exact hN _ _ ⟨⟨_, _, _, _, _, _, _, _, _, _, _, _, _, rfl⟩, ⟨sp11, rs11, tp11, by omega, by push_cast; omega⟩, x11 _ _ hPa (x510 _ _ P5)⟩
  · rintro σ T8 ⟨⟨v2, v3, v4, v5, v6, v7, v8, v9, v10, v11, v12, v13, v14, rfl⟩, ⟨sp0, rs0, tp0, n0, n1⟩, hPk⟩
    refine ⟨by show 2 ≤ sizeLine; decide, fun r1 h1 => ?_⟩
    obtain ⟨T1, e1, x1, g1⟩ := alloc (.lst [.str "a", .str "b"]) h1
    rw [e1]
    refine ⟨by show 0 ≤ sizeLine; decide, fun r2 h2 => ?_⟩
    have ne12 : r1 ≠ r2 := fun z => by rw [← z, g1] at h2; cases h2
    obtain ⟨T2, e2, x2, g2⟩ := alloc (.lst []) h2
    rw [e2]
    have g12 := x2 _ _ g1
    refine ⟨by show 2 ≤ sizeLine; decide, rfl, rfl, ?_⟩
    refine ⟨.inr rfl, by show tyD T2 (.ref r2) = "list"; unfold tyD; dsimp only; rw [g2], by show 2 ≤ sizeLine; decide, ⟨[], g2, by show 0 < sizeLine; decide, ?_⟩⟩
    have g3 : (updT T2 r2 (.lst ([] ++ [.tup [.ref r1, .int 2]]))) r2 = some (.lst [.tup [.ref r1, .int 2]]) := updT_same
    have g13 : (updT T2 r2 (.lst ([] ++ [.tup [.ref r1, .int 2]]))) r1 = some (.lst [.str "a", .str "b"]) := by rw [updT_ne ne12]; exact g12
    generalize updT T2 r2 (.lst ([] ++ [.tup [.ref r1, .int 2]])) = T3 at *
    intro p hp
    have x4 : Ext T3 (updT T3 p (.ins "Far" [])) := Ext.new hp
    obtain ⟨T4, e4⟩ : ∃ T4, updT T3 p (.ins "Far" []) = T4 := ⟨_, rfl⟩
    have i2 : itemsOf T4 r2 = some [.tup [.ref r1, .int 2]] := by rw [← e4]; exact items_lst (x4 _ _ g3)
    have i1 : itemsOf T4 r1 = some [.str "a", .str "b"] := by rw [← e4]; exact items_lst (x4 _ _ g13)
    have ta : ∀ T, Typed K T (.str "a") := fun _ => by show _ ≤ sizeLine; decide
    have tb : ∀ T, Typed K T (.str "b") := fun _ => by show _ ≤ sizeLine; decide
    have ts : ∀ T, Typed K T (.str "s") := fun _ => by show _ ≤ sizeLine; decide
    have hws : isWordD (.str "s") = true := by decide +kernel
    have ty2 : Typed3 K T4 (.ref r2) := ⟨.inl ⟨_, i2⟩, fun xs e x hx => by
      have e : itemsOf T4 r2 = some xs := e
      rw [i2] at e
      cases e
      rw [List.mem_singleton] at hx
      subst hx
      refine Typed2.tup fun d hd => ?_
      simp only [List.mem_cons, List.not_mem_nil, or_false] at hd
      rcases hd with rfl | rfl
      · refine Ty1.lst i1 fun x hx => ?_
        simp only [List.mem_cons, List.not_mem_nil, or_false] at hx
        rcases hx with rfl | rfl
        · exact ta _
        · exact tb _
      · exact Ty1.flat trivial rfl⟩
    have ar2 : arePiecesD T4 (.ref r2) = true := by
      unfold arePiecesD
      rw [show seqOf T4 (.ref r2) = some [.tup [.ref r1, .int 2]] from i2]
      show (decide (1 ≤ 20) && [D.tup [.ref r1, .int 2]].all (isPieceD T4)) = true
      show (true && ((isWordsD T4 (.ref r1) && isTimesD (.int 2)) && true)) = true
      unfold isWordsD
      rw [show seqOf T4 (.ref r1) = some [.str "a", .str "b"] from i1]
      decide +kernel
    have nm2 : normPieces T4 (.ref r2) = [.tup [.tup [.str "a", .str "b"], .int 2]] := by
      unfold normPieces
      rw [show seqOf T4 (.ref r2) = some [.tup [.ref r1, .int 2]] from i2]
      show [D.tup [.tup ((seqOf T4 (.ref r1)).getD []), .int 2]] = _
      rw [show seqOf T4 (.ref r1) = some [.str "a", .str "b"] from i1]; rfl
    rw [e4]
    refine Go.far (by rw [← e4]; exact updT_same) (ts _) ty2 hws ar2 ⟨rfl, ?_⟩
    rw [nm2, ← e4, updT_upd]
    have x5 : Ext T3 (updT T3 p (.ins "Far" (farFs (.str "s") [.tup [.tup [.str "a", .str "b"], .int 2]]))) := Ext.new hp
    have g5 : (updT T3 p (.ins "Far" (farFs (.str "s") [.tup [.tup [.str "a", .str "b"], .int 2]]))) p = some (.ins "Far" (farFs (.str "s") [.tup [.tup [.str "a", .str "b"], .int 2]])) := updT_same
    generalize updT T3 p (.ins "Far" (farFs (.str "s") [.tup [.tup [.str "a", .str "b"], .int 2]])) = T5 at *
    have g15 := x5 _ _ g13
    have g25 := x5 _ _ g3
    have np1 : p ≠ r1 := fun z => by rw [← z, hp] at g13; cases g13
    have np2 : p ≠ r2 := fun z => by rw [← z, hp] at g3; cases g3
    refine ⟨.inr rfl, by show tyD T5 (.ref r1) = "list"; unfold tyD; dsimp only; rw [g15], ⟨_, g15, by show 2 < sizeLine; decide, ?_⟩⟩
    have g26 : (updT T5 r1 (.lst ([.str "a", .str "b"] ++ [.str "c"]))) r2 = some (.lst [.tup [.ref r1, .int 2]]) := by rw [updT_ne (Ne.symm ne12)]; exact g25
    have g6 : (updT T5 r1 (.lst ([.str "a", .str "b"] ++ [.str "c"]))) p = some (.ins "Far" (farFs (.str "s") [.tup [.tup [.str "a", .str "b"], .int 2]])) := by rw [updT_ne np1]; exact g5
    generalize updT T5 r1 (.lst ([.str "a", .str "b"] ++ [.str "c"])) = T6 at *
    refine ⟨.inr rfl, by show tyD T6 (.ref r2) = "list"; unfold tyD; dsimp only; rw [g26], by show 1 ≤ sizeLine; decide, fun r3 h3 => ?_⟩
    obtain ⟨T7, e7, x7, g7⟩ := alloc (.lst [.str "a"]) h3
    rw [e7]
    refine ⟨by show 2 ≤ sizeLine; decide, ⟨_, x7 _ _ g26, by show 1 < sizeLine; decide, ?_⟩⟩
    have g8 : (updT T7 r2 (.lst ([.tup [.ref r1, .int 2]] ++ [.tup [.ref r3, .int 1]]))) p = some (.ins "Far" (farFs (.str "s") [.tup [.tup [.str "a", .str "b"], .int 2]])) := by rw [updT_ne np2]; exact x7 _ _ g6
    generalize updT T7 r2 (.lst ([.tup [.ref r1, .int 2]] ++ [.tup [.ref r3, .int 1]])) = T9 at *
    have gi : insOf T9 (.ref p) = some (("Far" : Str), farFs (.str "s") [.tup [.tup [.str "a", .str "b"], .int 2]]) := by unfold insOf; dsimp only; rw [g8]
    refine ⟨_, gi, ⟨_, _, rfl, ⟨⟨_, _, gi, f2, rfl⟩⟩, ?_⟩⟩
    refine ⟨by show 2 ≤ sizeLine; decide, by show 2 ≤ sizeLine; decide, by show 1 ≤ sizeLine; decide, ⟨rfl, rfl, ?_⟩⟩
    refine Br.t (by rfl) ?_
    refine ⟨_, _, _, rfl, gi, ⟨by show 1 ≤ 20; decide, fun x hx => ?_⟩, ⟨rfl, rfl, Br.t (by rfl) ?_⟩⟩
    · rw [List.mem_singleton] at hx
      exact ⟨_, _, hx, by show 2 ≤ 8; decide, by decide, by decide⟩
    refine ⟨by show 0 ≤ sizeLine; decide, fun r5 h5 => ?_⟩
    obtain ⟨T10, e10, x10, g10⟩ := alloc (.lst []) h5
    rw [e10]
    intro p2 hp2
    have xb : Ext T10 (updT T10 p2 (.ins "Far" [])) := Ext.new hp2
    have g11 := xb _ _ g10
    refine Go.far updT_same (ts _) ⟨.inl ⟨_, items_lst g11⟩, fun xs e x hx => ?_⟩ hws ?_ ⟨rfl, ?_⟩
    · have e : itemsOf _ r5 = some xs := e
      rw [items_lst g11] at e
      cases e; cases hx
    · unfold arePiecesD
      rw [show seqOf _ (.ref r5) = some [] from items_lst g11]; rfl
    · have nm : normPieces (updT T10 p2 (.ins "Far" [])) (.ref r5) = [] := by
        unfold normPieces
        rw [show seqOf _ (.ref r5) = some [] from items_lst g11]; rfl
      rw [nm]
      refine ⟨_, _, _, rfl, by unfold insOf; dsimp only; rw [updT_same], ⟨by show 0 ≤ 20; decide, fun x hx => (by cases hx)⟩, ⟨rfl, rfl, ?_⟩⟩
      rfl
end
end L3
namespace L3
open PySem PySem.Spec L2 He
open LamX hiding takes0
open PyProof.Rows hiding St
/-! ### the head -/
def dG (x : Str) (st : Stmt) : DefE := ⟨fun K => ga K x, x, x, defArgs st, defBody st, defScope st, []⟩
def dM (c m q : Str) (st : Stmt) : DefE := ⟨fun K => ma K (ga K c) m, m, q, defArgs st, defBody st, defScope st, []⟩
def dP (c m q : Str) (st : Stmt) : DefE := ⟨fun K => pget K c m, m, q, defArgs st, defBody st, defScope st, []⟩
def dX (c : Str) (q : Str) (st : Stmt) : DefE := ⟨fun K => ma K (ga K c) "__init__", "__init__", q, defArgs st, defBody st, defScope st, ["__class__"]⟩
def fns : List DefE := [dG "is_word" (topS 5), dG "is_integer" (topS 6), dG "is_list" (topS 7), dG "is_piece" (topS 12), dM "Far" "__init__" "Far.__init__" (inClass (topS 13) 0), dP "Far" "state" "Far.state" (inClass (topS 13) 1), dP "Far" "pieces" "Far.pieces" (inClass (topS 13) 2), dG "size_of" (topS 14),
  dG "_law_begin" (topS 16), dG "_law_draw" (topS 17), dG "_law_pick" (topS 18), dG "_law_piece" (topS 19), dG "_law_fault" (topS 20), dG "law" (topS 21), dX "InvalidAddress" "InvalidAddress.__init__" (inClass (topS 1) 0)]
def tfs : List (PySem.W.Frag → Addr × Addr) := [fun K => cT K ("law", none)]
def fas : List Fa := [.free "isinstance", .free "str", .free "int", .free "bool", .free "list", .free "tuple", .free "len", .free "all", .free "any", .free "sum", .free "range", .free "repr", .free "ValueError", .free "super", .str "LETTERS" lettersS, .int "MOST_PIECES" 20, .int "MOST_WORDS" 8, .int "MOST_TIMES" (10 ^ 30), .int "LONGEST_WORD" 8,
  .glo "is_word", .glo "is_integer", .glo "is_list", .glo "is_piece", .glo "size_of", .glo "_law_begin", .glo "_law_draw", .glo "_law_pick", .glo "_law_piece", .glo "_law_fault", .glo "law", .glo "Far", .glo "InvalidAddress", .cls "Far", .noat "Far" "own_state", .noat "Far" "own_pieces", .mkr "Far", .exm "InvalidAddress" "InvalidAddress" true]
def flS : Str := PySem.Challenge.pw_sentonward_k41_far_addresses_made.main.file
def exs (K : PySem.W.Frag) : Bool := (fas.all fun f => f.ok K) && (propB K "Far" "state" && (propB K "Far" "pieces" && (cmpB K (ga K "Far") && (exB K "InvalidAddress" "field" flS && decide (PySem.W.kitOne K (.ref (ga K "InvalidAddress")) (.type "ValueError") = some true)))))
abbrev R : PySem.W.OpenRow := PySem.W.OpenLaw.row PySem.Challenge.rw_sentonward_k41_far_addresses_made
abbrev hk : PySem.W.Hook := hookL 6 fns exs tfs
def ob (s : PySem.W.SharedT) : AlL := obsL 6 fns exs tfs (HandSHeadRun.getT s)
theorem ob_eq (s : PySem.W.SharedT) : ob s = hk.obs s.abs := obsL_eq (HandSHeadRun.getT_eq s)
def names : List Str := ["InvalidAddress", "LETTERS", "LONGEST_WORD", "is_word", "is_integer", "is_list", "MOST_PIECES", "MOST_WORDS", "MOST_TIMES", "is_piece", "Far", "size_of", "_law_begin", "_law_draw", "_law_pick", "_law_piece", "_law_fault"]
theorem run (w : World) : HandSHeadRun.RunEq R (PySem.W.view R.prog [21]) hk ob 3000 names w := by
  intro os
  kernel_rfl
end L3
namespace L3
open PySem PySem.Spec L2 He
open LamX hiding takes0
open PyProof.Rows hiding St
abbrev PP : Program := PySem.Challenge.rw_sentonward_k41_far_addresses_made.prog
def codeL (K : PySem.W.Frag) : Addr × Addr := cT K ("law", none)
theorem df {h : Heap} {K : PySem.W.Frag} (c : SaysL fns exs tfs h K) (i : Nat) {d : DefE} (hi : fns[i]? = some d) (hc : d.clo = []) : ∃ fd, FunD K d.name d.qual d.params d.body d.scope [] [] (d.at_ K) fd := c.def_ (List.mem_of_getElem? hi) hc
theorem fct {h : Heap} {K : PySem.W.Frag} (c : SaysL fns exs tfs h K) (i : Nat) {f : Fa} (hi : fas[i]? = some f) : f.ok K = true := List.all_eq_true.mp (ba c.more).1 f (List.mem_of_getElem? hi)
section
variable {w : World} {K : PySem.W.Frag} {mg : Str → Option Value} {base h : Heap}
theorem mkDf {x : Str} {k : Nat} {ps : List Str} {sp : Sp3} {f : Addr} {fd : FuncData} (hm : mg x = some (.ref f)) (kp : PySem.W.keepIn K (.ref f) = true) (hb : Binds K fd ps []) (F : Fn3 PP w K mg base k f fd ps sp) : DfOk PP w K mg base x k ps [] sp :=
  ⟨⟨f, fd, [], [], hm, kp, hb, .nil, fun _ _ => .nil, F⟩⟩
theorem law_run {s : Shared} {H : Hp} {fa a : Addr} {ns : List Int} {Pt : Addr} (X : K.In h) (G : h.Ns mainGlobals mg) (c : SaysL fns exs tfs h K) (hfa : mg "law" = some (.ref fa)) (hPt : (codeL K).2 = Pt) (TB : TabB base mg (codeL K).1 Pt)
    (hq : itemsOf (lawT a ns [((codeL K).1, Pt, lamQ)]) a = some (ns.map .int)) (hP : lawT a ns [((codeL K).1, Pt, lamQ)] Pt = some (.tab lamQ))
    (e0 : Env0 PP w K mg base callerA [] s H) (rh : RepH PP w K (lawT a ns [((codeL K).1, Pt, lamQ)]) H) :
    codeAny (model PP w) callerA (.call (.ref fa) ⟨[.ref a], []⟩) (CR (L2.CX PP w) [] PP w H s (fun v _ => v = .bl true) fun _ _ _ => False) s := by
  have fr := fun (i : Nat) (x : Str) (hi : fas[i]? = some (.free x)) => He.free_ok X G (fct c i hi)
  have gl := fun (i : Nat) (x : Str) (hi : fas[i]? = some (.glo x)) => He.glo_ok X G (fct c i hi)
  have B : Blt mg := ⟨fr 0 _ rfl, fr 1 _ rfl, fr 2 _ rfl, fr 3 _ rfl, fr 4 _ rfl, fr 5 _ rfl, fr 6 _ rfl, fr 7 _ rfl, fr 8 _ rfl, fr 9 _ rfl, fr 10 _ rfl, fr 11 _ rfl, fr 12 _ rfl⟩
  have it := fun (i : Nat) (x : Str) (n : Int) (hi : fas[i]? = some (.int x n)) => He.int_ok X G (fct c i hi)
  have iv : ∀ {x : Str} {n : Int}, (∃ t, mg x = some (.int n t)) → ∃ u, mg x = some u ∧ RelV (.int n) u := fun ⟨t, e⟩ => ⟨_, e, t, rfl⟩
  have C : Cns mg := ⟨He.str_ok X G (fct c 14 rfl), iv (it 15 _ _ rfl), iv (it 16 _ _ rfl), iv (it 17 _ _ rfl), iv (it 18 _ _ rfl)⟩
  have clF : Cls K (ga K "Far") := He.cls_ok (fct c 32 (f := .cls "Far") rfl)
  have f1 : FldOk K "Far" "own_state" := ⟨clF, He.noat_ok (fct c 33 (f := .noat "Far" "own_state") rfl)⟩
  have f2 : FldOk K "Far" "own_pieces" := ⟨clF, He.noat_ok (fct c 34 (f := .noat "Far" "own_pieces") rfl)⟩
  have mk : Mk K (ga K "Far") (ma K (ga K "Far") "__init__") := He.mkr_ok (fct c 35 (f := .mkr "Far") rfl)
  have eIA := He.exm_ok (fct c 36 (f := .exm "InvalidAddress" "InvalidAddress" true) rfl)
  obtain ⟨_, m1⟩ := ba c.more
  obtain ⟨p1, m2⟩ := ba m1
  obtain ⟨p2, m3⟩ := ba m2
  obtain ⟨cm, m4⟩ := ba m3
  obtain ⟨xb, kI⟩ := ba m4
  have vIA := of_decide_eq_true kI
  have gIA := gl 31 "InvalidAddress" rfl
  have XA : ExOk PP K mg "InvalidAddress" "field" := exB_ok (p := "field") xb gIA (fr 13 _ rfl) (by rfl) (by decide +kernel) (c.both (List.mem_of_getElem? (i := 14) rfl)) rfl rfl rfl rfl rfl rfl rfl ⟨_, rfl, rfl⟩ (by rfl) (fun _ _ _ _ _ _ _ _ => rfl) ⟨rfl, rfl, rfl, rfl, by decide +kernel, rfl, rfl, rfl⟩ (by decide) (by decide)
  obtain ⟨d0, F0⟩ := df c 0 rfl rfl
  obtain ⟨d1, F1⟩ := df c 1 rfl rfl
  obtain ⟨d2, F2⟩ := df c 2 rfl rfl
  obtain ⟨d3, F3⟩ := df c 3 rfl rfl
  obtain ⟨d4, F4⟩ := df c 4 rfl rfl
  obtain ⟨d5, F5⟩ := df c 5 rfl rfl
  obtain ⟨d6, F6⟩ := df c 6 rfl rfl
  obtain ⟨d7, F7⟩ := df c 7 rfl rfl
  obtain ⟨d8, F8⟩ := df c 8 rfl rfl
  obtain ⟨d9, F9⟩ := df c 9 rfl rfl
  obtain ⟨d10, F10⟩ := df c 10 rfl rfl
  obtain ⟨d11, F11⟩ := df c 11 rfl rfl
  obtain ⟨d12, F12⟩ := df c 12 rfl rfl
  obtain ⟨d13, F13⟩ := df c 13 rfl rfl
  have W0 := mkDf (gl 19 _ rfl) F0.kp (F0.bindsN fun _ _ _ _ _ _ us hl => match us, hl with | [_], _ => rfl) (ok_is_word (w := w) (base := base) B C F0)
  have W1 := mkDf (gl 20 _ rfl) F1.kp (F1.bindsN fun _ _ _ _ _ _ us hl => match us, hl with | [_], _ => rfl) (ok_is_integer (w := w) (base := base) B F1)
  have W2 := mkDf (gl 21 _ rfl) F2.kp (F2.bindsN fun _ _ _ _ _ _ us hl => match us, hl with | [_], _ => rfl) (ok_is_list (w := w) (base := base) B F2)
  have W3 := mkDf (gl 22 _ rfl) F3.kp (F3.bindsN fun _ _ _ _ _ _ us hl => match us, hl with | [_], _ => rfl) (ok_is_piece B C F3 W0 W1 W2)
  have FF := ok_Far B C F4 W0 W2 W3 XA f1 f2
  have CF : CtOk PP w K mg base "Far" 3 ["self", "state", "pieces"] [] (spFar K) := ⟨⟨_, d4, [], [], mk, gl 30 _ rfl, F4.bindsN fun _ _ _ _ _ _ us hl => match us, hl with | [_, _, _], _ => rfl, .nil, fun _ _ => .nil, FF⟩⟩
  have CKF : CkOk PP w K mg base "Far" 3 ["self", "state", "pieces"] ["state", "pieces"] (spFar K) := ⟨⟨_, d4, mk, gl 30 _ rfl, kw_of F4 fun _ _ _ _ _ _ us ws h1 h2 => match us, ws, h1, h2 with | [_], [_, _], _, _ => rfl, FF⟩⟩
  have PS : PrOk PP w K mg base "Far" "state" 1 (spGet K "own_state") := ⟨⟨_, _, d5, ⟨clF, propB_ok p1⟩, F5.bindsN fun _ _ _ _ _ _ us hl => match us, hl with | [_], _ => rfl, ok_Far_state F5⟩⟩
  have PQ : PrOk PP w K mg base "Far" "pieces" 1 (spGet K "own_pieces") := ⟨⟨_, _, d6, ⟨clF, propB_ok p2⟩, F6.bindsN fun _ _ _ _ _ _ us hl => match us, hl with | [_], _ => rfl, ok_Far_pieces F6⟩⟩
  have FS := ok_size_of (w := w) (base := base) (P := PP) B F7 PQ f2
  have WS := mkDf (gl 23 _ rfl) F7.kp (F7.bindsN fun _ _ _ _ _ _ us hl => match us, hl with | [_], _ => rfl) FS
  have WK : DkOk PP w K mg base "size_of" 3 ["far"] ["far"] spSize := ⟨⟨_, d7, gl 23 _ rfl, F7.kp, kw_of F7 fun _ _ _ _ _ _ us ws h1 h2 => match us, ws, h1, h2 with | [], [_], _, _ => rfl, FS⟩⟩
  have W8 := mkDf (gl 24 _ rfl) F8.kp (F8.bindsN fun _ _ _ _ _ _ us hl => match us, hl with | [_], _ => rfl) (ok__law_begin (w := w) (base := base) F8)
  have W9 := mkDf (gl 25 _ rfl) F9.kp (F9.bindsN fun _ _ _ _ _ _ us hl => match us, hl with | [_, _], _ => rfl) (ok__law_draw (w := w) (base := base) B F9)
  have W10 := mkDf (gl 26 _ rfl) F10.kp (F10.bindsN fun _ _ _ _ _ _ us hl => match us, hl with | [_, _], _ => rfl) (ok__law_pick B F10 W9)
  have W11 := mkDf (gl 27 _ rfl) F11.kp (F11.bindsN fun _ _ _ _ _ _ us hl => match us, hl with | [_], _ => rfl) (ok__law_piece B F11 W9 W10)
  have LF := ok__law_fault (P := PP) (w := w) (base := base) B F12 (gl 28 _ rfl) (F12.bindsN fun _ _ _ _ _ _ us hl => match us, hl with | [_], _ => rfl) XA
  have e := hfa.symm.trans (gl 29 "law" rfl)
  cases e
  have hbind := FunD.bindsA (ps := ["_law_script"]) F13 fun _ _ _ _ _ _ us hl => match us, hl with | [_], _ => rfl
  obtain ⟨oc, od, dV, kV, doc, pm, an, cdv, ct, osl, rfl, lk, hcd, _, _⟩ := F13.ex
  obtain ⟨cc, rfl⟩ := codeIn_ref hcd
  have ecc : (codeL K).1 = cc := codeOf_eq (p := ("law", none)) lk rfl
  rw [ecc] at TB
  refine run_ofS lk hcd sc_law (k := 6) ⟨rfl, by decide, by decide⟩ e0 (hbind s [.ref a] rfl) (us := [.ref a]) (vs := [.ref a]) (.cons rfl .nil) rfl fun hr => ?_
  obtain ⟨t, h1, h2⟩ := ok_law (E := fun _ _ _ => False) B rfl TB W8 W10 W11 LF CF CKF WS WK PS PQ f1 f2 (cmpB_ok cm) eIA vIA (A := callerA) rfl hr (takes_of rfl rfl rfl rfl)
  exact ⟨_, h1, ({ nx := fun _ _ => False, rt := fun d _ => d = .bl true } : Ends3), _, _, ⟨RepS.start (.cons (.ref a) .nil), rh, (fun _ _ _ _ z => z.elim), (fun _ _ _ _ z => z.elim), (fun _ _ _ _ z => z.elim), (fun d T' v H' z _ _ r => by cases z; cases r; rfl), (fun _ _ _ _ _ _ _ _ z => z.elim)⟩, h2 [.ref a] _ ⟨a, ns, rfl, hq, hP⟩⟩
end
end L3
open PySem PySem.W PySem.Calls PyProof.Rows
theorem PySem.Challenge.cw_sentonward_k41_far_addresses_made_holds : PySem.Challenge.rw_sentonward_k41_far_addresses_made.Holds := by
  w_on; o_law
  refine HandSHeadRun.head_any (r := OpenLaw.row PySem.Challenge.rw_sentonward_k41_far_addresses_made) (q := view (OpenLaw.row PySem.Challenge.rw_sentonward_k41_far_addresses_made).prog [21]) (H := L3.hk) (ob := L3.ob) (M := 3000) (loose := L3.names) (d := HandSHeadRun.topDef (OpenLaw.row PySem.Challenge.rw_sentonward_k41_far_addresses_made).prog 21) (kwd := []) L3.ob_eq
    (by kernel_rfl) (fun s => by kernel_rfl) L3.run (by kernel_rfl) (by kernel_rfl) (by kernel_rfl) (by rfl) (by first | assumption | decide +kernel) (by decide +kernel) ⟨rfl, rfl, rfl, rfl, rfl, by decide +kernel⟩ ?hw ?hc
  case hw => w_witness2
  case hc =>
    refine Att.attach_callB (l := PySem.Challenge.rw_sentonward_k41_far_addresses_made) (n := 63) rfl (by kernel_rfl) fun w s₀ s₁ mg mb fa o pm cd doc a vs ns G Y ho hd hcd hmg0 hobj hints hlen hbits hg => ?_
    obtain ⟨K, KX, c⟩ := Y
    have hmg : mg ("law" : PySem.Str) = some (.ref fa) := by
      have e : (HandSHeadRun.topDef (OpenLaw.row PySem.Challenge.rw_sentonward_k41_far_addresses_made).prog 21).name = ("law" : PySem.Str) := by kernel_rfl
      rw [← e]
      exact hmg0
    have tm : (fun K => He.cT K ("law", none)) ∈ L3.tfs := List.mem_singleton.mpr rfl
    have hT := c.empty _ tm
    have hnT := c.out _ tm
    have hC := PySem.W.codeHd_of_K KX (c.hd _ tm)
    have hne : (L3.codeL K).2 ≠ a := fun z => by
      have hT : s₁.heap.get? (L3.codeL K).2 = _ := hT
      rw [z] at hT
      rw [hobj] at hT
      cases congrArg Obj.data (Option.some.inj hT)
    refine L3.law_end (P := L3.PP) (w := w) (CX := L2.CX L3.PP w) (cs := [((L3.codeL K).1, (L3.codeL K).2, L3.lamQ)]) KX G.T.g G.T.b G.T.builtins G.T.nolimit hg (fun p hp => ?_) (fun p hp => ?_) (fun p hp => ?_) (c.script KX hobj rfl) G.T.bmain hobj hints (Nat.le_trans hlen (by decide)) (fun base Kb nsb TB e0 rh => ?_) (fun H e s' z => ?_)
    · rw [List.mem_singleton] at hp; subst hp; exact hT
    · rw [List.mem_singleton] at hp; subst hp; exact hnT
    · rw [List.mem_singleton] at hp; subst hp; exact hC
    · refine L3.law_run KX G.T.g c hmg rfl (TB _ (List.mem_singleton.mpr rfl)) ?_ ?_ e0 rh
      · unfold L3.itemsOf L3.lawT
        rw [if_pos rfl]
      · unfold L3.lawT
        rw [if_neg hne]
        simp
    · obtain ⟨_, _, _, _, _, _, _, _, _, _, _, _, z⟩ := z
      exact z
