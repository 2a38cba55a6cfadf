import PyProof.Rows.All
import Wide.All
import OpenK.AllK
import Wide.FinOn
import KE.KSortTup
import KE.KDictSum
import KE.KSlice
import KE.KSliceW
import KE.KRevSl
import KE.KDictAnyGet
import PySem.Challenge.RW_sf0017_01
set_option Elab.async false
set_option autoImplicit false
set_option tactic.hygienic false
set_option bootstrap.genMatcherCode false
set_option genSizeOf false
set_option maxRecDepth 100000
set_option linter.unusedVariables false
namespace Mine
open PySem PySem.W PyProof.Rows PySem.Calls

inductive D where
  | none
  | bool (b : Bool)
  | int (i : Int)
  | str (x : Str)
  | list (xs : List D)
  | tup (xs : List D)
  | dict (kvs : List (Int × D))
  | obj (c : Addr) (fs : List (Str × D))
  | ref (a : Addr)

inductive Cell where
  | list (xs : List D)
  | dict (kvs : List (Int × D))
  | tdict (kvs : List (List Int × D))
  | inst (c dx : Addr)
  | attrs (fs : List (Str × D))

noncomputable abbrev FH := Addr → Option Obj
noncomputable abbrev GH := Addr → Option Cell

noncomputable abbrev dictO (es : List DictEntry) (n : Nat) : Obj := { cls := .type "dict", data := .dict es.toArray n }
noncomputable abbrev seqO (c : String) (vs : List Value) (n : Nat) : Obj := { cls := .type c, data := .seq vs.toArray n }
noncomputable def SeqOf (c : String) (vs : List Value) (o : Obj) : Prop := o.cls = .type c ∧ ∃ n, o.data = .seq vs.toArray n
noncomputable abbrev instO (C dx : Addr) : Obj := { cls := .ref C, dict := some dx, data := .plain }

section
variable (P : Params) (F : FH)
mutual
inductive Rep : D → Value → Prop
  | none : Rep .none .none
  | bool (b : Bool) : Rep (.bool b) (.bool b)
  | int (i : Int) (t : Tok) : Rep (.int i) (.int i t)
  | str (x : Str) (t : Tok) : Rep (.str x) (.str x t)
  | list {a : Addr} {vs : List Value} {n : Nat} {ds : List D} : F a = some (seqO "list" vs n) → RepAll ds vs → Rep (.list ds) (.ref a)
  | tup {a : Addr} {vs : List Value} {o : Obj} {ds : List D} : F a = some o → SeqOf "tuple" vs o → RepAll ds vs → Rep (.tup ds) (.ref a)
  | dict {a : Addr} {es : List DictEntry} {n : Nat} {kvs : List (Int × D)} : F a = some (dictO es n) → (kvs.map (·.1)).Nodup → RepKv kvs es → Rep (.dict kvs) (.ref a)
  | obj {x C dx : Addr} {es : List DictEntry} {n : Nat} {fs : List (Str × D)} : F x = some (instO C dx) → F dx = some (dictO es n) → RepFs fs es → Rep (.obj C fs) (.ref x)
  | ref (a : Addr) : Rep (.ref a) (.ref a)
inductive RepAll : List D → List Value → Prop
  | nil : RepAll [] []
  | cons {d : D} {v : Value} {ds : List D} {vs : List Value} : Rep d v → RepAll ds vs → RepAll (d :: ds) (v :: vs)
inductive RepKv : List (Int × D) → List DictEntry → Prop
  | nil : RepKv [] []
  | cons {i : Int} {t : Tok} {d : D} {v : Value} {r : List (Int × D)} {es : List DictEntry} : Rep d v → RepKv r es → RepKv ((i, d) :: r) (⟨hashInt i, .int i t, v⟩ :: es)
inductive RepFs : List (Str × D) → List DictEntry → Prop
  | nil : RepFs [] []
  | cons {x : Str} {t : Tok} {d : D} {v : Value} {r : List (Str × D)} {es : List DictEntry} : Rep d v → RepFs r es → RepFs ((x, d) :: r) (⟨PyData.keyHash P x, .str x t, v⟩ :: es)
end
end

noncomputable def RepI (P : Params) (F : FH) (v : Value) : D → Prop
  | .none => v = .none
  | .bool b => v = .bool b
  | .int i => ∃ t, v = .int i t
  | .str x => ∃ t, v = .str x t
  | .ref a => v = .ref a
  | _ => ∃ a, v = .ref a
theorem Rep.inv {P : Params} {F : FH} {d : D} {v : Value} (r : Rep P F d v) : RepI P F v d := by
  cases r with
  | none => rfl
  | bool b => rfl
  | int i t => exact ⟨t, rfl⟩
  | str x t => exact ⟨t, rfl⟩
  | ref a => rfl
  | list => exact ⟨_, rfl⟩
  | tup => exact ⟨_, rfl⟩
  | dict => exact ⟨_, rfl⟩
  | obj => exact ⟨_, rfl⟩

noncomputable def FLe (F F' : FH) : Prop := ∀ a o, F a = some o → F' a = some o
theorem FLe.rfl {F : FH} : FLe F F := fun _ _ e => e
theorem FLe.trans {F F' F'' : FH} (x : FLe F F') (y : FLe F' F'') : FLe F F'' := fun a o e => y a o (x a o e)

section
variable {P : Params} {F F' : FH}
mutual
theorem Rep.mono (h : FLe F F') : ∀ {d : D} {v : Value}, Rep P F d v → Rep P F' d v
  | _, _, .none => .none
  | _, _, .bool b => .bool b
  | _, _, .int i t => .int i t
  | _, _, .str x t => .str x t
  | _, _, .list e r => .list (h _ _ e) (RepAll.mono h r)
  | _, _, .tup e q r => .tup (h _ _ e) q (RepAll.mono h r)
  | _, _, .dict e q r => .dict (h _ _ e) q (RepKv.mono h r)
  | _, _, .obj e e' r => .obj (h _ _ e) (h _ _ e') (RepFs.mono h r)
  | _, _, .ref a => .ref a
theorem RepAll.mono (h : FLe F F') : ∀ {ds : List D} {vs : List Value}, RepAll P F ds vs → RepAll P F' ds vs
  | _, _, .nil => .nil
  | _, _, .cons x r => .cons (Rep.mono h x) (RepAll.mono h r)
theorem RepKv.mono (h : FLe F F') : ∀ {ds : List (Int × D)} {vs : List DictEntry}, RepKv P F ds vs → RepKv P F' ds vs
  | _, _, .nil => .nil
  | _, _, .cons x r => .cons (Rep.mono h x) (RepKv.mono h r)
theorem RepFs.mono (h : FLe F F') : ∀ {ds : List (Str × D)} {vs : List DictEntry}, RepFs P F ds vs → RepFs P F' ds vs
  | _, _, .nil => .nil
  | _, _, .cons x r => .cons (Rep.mono h x) (RepFs.mono h r)
end
theorem RepAll.length : ∀ {ds : List D} {vs : List Value}, RepAll P F ds vs → ds.length = vs.length
  | [], _, h => by cases h; rfl
  | d :: ds, _, h => by
    cases h with
    | cons x r => rw [List.length_cons, List.length_cons, r.length]
theorem RepAll.append : ∀ {ds es : List D} {vs ws : List Value}, RepAll P F ds vs → RepAll P F es ws → RepAll P F (ds ++ es) (vs ++ ws)
  | [], _, _, _, h, k => by cases h; exact k
  | d :: ds, _, _, _, h, k => by
    cases h with
    | cons x r => exact .cons x (r.append k)
theorem RepAll.get : ∀ {ds : List D} {vs : List Value} {i : Nat} {d : D}, RepAll P F ds vs → ds[i]? = some d → ∃ v, vs[i]? = some v ∧ Rep P F d v
  | [], _, _, _, _, e => by simp at e
  | d :: ds, _, i, _, h, e => by
    cases h with
    | cons x r =>
      cases i with
      | zero => simp at e; subst e; exact ⟨_, rfl, x⟩
      | succ i => simp at e; simpa using r.get e
theorem RepAll.getR : ∀ {ds : List D} {vs : List Value} {i : Nat} {v : Value}, RepAll P F ds vs → vs[i]? = some v → ∃ d, ds[i]? = some d ∧ Rep P F d v
  | _, [], _, _, _, e => by simp at e
  | _, u :: vs, i, _, h, e => by
    cases h with
    | cons x r =>
      cases i with
      | zero => simp at e; subst e; exact ⟨_, rfl, x⟩
      | succ i => simp at e; simpa using r.getR e
theorem RepAll.set : ∀ {ds : List D} {vs : List Value} {i : Nat} {d : D} {v : Value}, RepAll P F ds vs → Rep P F d v → RepAll P F (ds.set i d) (vs.set i v)
  | [], _, _, _, _, h, _ => by cases h; exact .nil
  | d :: ds, _, i, _, _, h, k => by
    cases h with
    | cons x r =>
      cases i with
      | zero => exact .cons k r
      | succ i => exact .cons x (r.set k)
theorem RepAll.take : ∀ {ds : List D} {vs : List Value} (i : Nat), RepAll P F ds vs → RepAll P F (ds.take i) (vs.take i)
  | [], _, _, h => by cases h; simp; exact .nil
  | d :: ds, _, i, h => by
    cases h with
    | cons x r =>
      cases i with
      | zero => exact .nil
      | succ i => exact .cons x (r.take i)
theorem RepAll.drop : ∀ {ds : List D} {vs : List Value} (i : Nat), RepAll P F ds vs → RepAll P F (ds.drop i) (vs.drop i)
  | [], _, _, h => by cases h; simp; exact .nil
  | d :: ds, _, i, h => by
    cases h with
    | cons x r =>
      cases i with
      | zero => exact .cons x r
      | succ i => exact r.drop i
theorem RepAll.reverse : ∀ {ds : List D} {vs : List Value}, RepAll P F ds vs → RepAll P F ds.reverse vs.reverse
  | [], _, h => by cases h; exact .nil
  | d :: ds, _, h => by
    cases h with
    | cons x r => rw [List.reverse_cons, List.reverse_cons]; exact r.reverse.append (.cons x .nil)
theorem RepAll.replicate {d : D} {v : Value} (h : Rep P F d v) : ∀ n, RepAll P F (List.replicate n d) (List.replicate n v)
  | 0 => .nil
  | n + 1 => .cons h (RepAll.replicate h n)
end

inductive RepTd (prog : Program) (w : World) (F : FH) : List (List Int × D) → List DictEntry → Prop
  | nil : RepTd prog w F [] []
  | cons {ks : List Int} {d : D} {a : Addr} {v : Value} {r : List (List Int × D)} {es : List DictEntry} : Rep w.params F (.tup (ks.map .int)) (.ref a) → Rep w.params F d v → RepTd prog w F r es →
      RepTd prog w F ((ks, d) :: r) (⟨tupleKeyHash (intKind prog w) ks, .ref a, v⟩ :: es)
theorem RepTd.mono {prog : Program} {w : World} {F F' : FH} (h : FLe F F') : ∀ {ds : List (List Int × D)} {vs : List DictEntry}, RepTd prog w F ds vs → RepTd prog w F' ds vs
  | _, _, .nil => .nil
  | _, _, .cons k x r => .cons (k.mono h) (x.mono h) (r.mono h)

inductive CellRel (prog : Program) (w : World) (F : FH) : Cell → Obj → Prop
  | list {xs : List D} {vs : List Value} {n : Nat} : RepAll w.params F xs vs → CellRel prog w F (.list xs) (seqO "list" vs n)
  | dict {kvs : List (Int × D)} {es : List DictEntry} {n : Nat} : (kvs.map (·.1)).Nodup → RepKv w.params F kvs es → CellRel prog w F (.dict kvs) (dictO es n)
  | tdict {kvs : List (List Int × D)} {es : List DictEntry} {n : Nat} : (kvs.map (·.1)).Nodup → RepTd prog w F kvs es → CellRel prog w F (.tdict kvs) (dictO es n)
  | inst {C dx : Addr} : CellRel prog w F (.inst C dx) (instO C dx)
  | attrs {fs : List (Str × D)} {es : List DictEntry} {n : Nat} : RepFs w.params F fs es → CellRel prog w F (.attrs fs) (dictO es n)
theorem CellRel.mono {prog : Program} {w : World} {F F' : FH} (h : FLe F F') {c : Cell} {o : Obj} : CellRel prog w F c o → CellRel prog w F' c o
  | .list r => .list (r.mono h)
  | .dict q r => .dict q (r.mono h)
  | .tdict q r => .tdict q (r.mono h)
  | .inst => .inst
  | .attrs r => .attrs (r.mono h)

noncomputable def Known (F : FH) (G : GH) (a : Addr) : Prop := F a ≠ none ∨ G a ≠ none

structure Inv (prog : Program) (w : World) (K : Frag) (F : FH) (G : GH) (h : Heap) : Prop where
  kF : ∀ a o, K.lookup a = some o → F a = some o
  hF : ∀ a o, F a = some o → h.get? a = some o
  hG : ∀ a c, G a = some c → ∃ o, h.get? a = some o ∧ CellRel prog w F c o
  ap : ∀ a, F a ≠ none → G a = none

theorem Inv.kIn {prog : Program} {w : World} {K : Frag} {F : FH} {G : GH} {h : Heap} (x : Inv prog w K F G h) : K.In h := fun a o e => x.hF a o (x.kF a o e)
theorem Inv.known {prog : Program} {w : World} {K : Frag} {F : FH} {G : GH} {h : Heap} (x : Inv prog w K F G h) {a : Addr} (k : Known F G a) : h.get? a ≠ none := by
  rcases k with k | k
  · cases e : F a with
    | none => exact absurd e k
    | some o => rw [x.hF a o e]; simp
  · cases e : G a with
    | none => exact absurd e k
    | some c => obtain ⟨o, ho, _⟩ := x.hG a c e; rw [ho]; simp

structure Step (X : List Addr) (F : FH) (G : GH) (h : Heap) (F' : FH) (G' : GH) (h' : Heap) : Prop where
  keep : ∀ a o, G a = none → a ∉ X → h.get? a = some o → h'.get? a = some o
  mono : FLe F F'
  dom : ∀ a, Known F' G' a → Known F G a ∨ h.get? a = none
  alive : ∀ a, h.get? a ≠ none → h'.get? a ≠ none

theorem Step.refl {X : List Addr} {F : FH} {G : GH} {h : Heap} : Step X F G h F G h := ⟨fun _ _ _ _ e => e, FLe.rfl, fun _ k => .inl k, fun _ e => e⟩
theorem Step.weaken {X Y : List Addr} {F F' : FH} {G G' : GH} {h h' : Heap} (x : Step X F G h F' G' h') (s : ∀ a ∈ X, a ∈ Y) : Step Y F G h F' G' h' :=
  ⟨fun a o g hx e => x.keep a o g (fun q => hx (s a q)) e, x.mono, x.dom, x.alive⟩
theorem Step.nil {Y : List Addr} {F F' : FH} {G G' : GH} {h h' : Heap} (x : Step [] F G h F' G' h') : Step Y F G h F' G' h' := x.weaken fun _ q => nomatch q
theorem Step.trans {X : List Addr} {F F' F'' : FH} {G G' G'' : GH} {h h' h'' : Heap} (x : Step X F G h F' G' h') (y : Step X F' G' h' F'' G'' h'') (ap : ∀ a, F' a ≠ none → G' a = none) : Step X F G h F'' G'' h'' := by
  refine ⟨fun a o g hx e => ?_, x.mono.trans y.mono, fun a k => ?_, fun a e => y.alive a (x.alive a e)⟩
  · refine y.keep a o ?_ hx (x.keep a o g hx e)
    cases q : G' a with
    | none => rfl
    | some c =>
      rcases x.dom a (.inr (by rw [q]; simp)) with z | z
      · rcases z with z | z
        · have : F' a ≠ none := by
            cases q2 : F a with
            | none => exact absurd q2 z
            | some o2 => rw [x.mono a o2 q2]; simp
          rw [ap a this] at q; cases q
        · exact absurd g z
      · rw [z] at e; cases e
  · rcases y.dom a k with z | z
    · exact x.dom a z
    · refine .inr ?_
      cases q : h.get? a with
      | none => rfl
      | some o => exact absurd z (x.alive a (by rw [q]; simp))

noncomputable def Same (s s' : Shared) : Prop := ∃ h tk, s' = { s with heap := h, toks := tk }
theorem Same.refl {s : Shared} : Same s s := ⟨s.heap, s.toks, rfl⟩
theorem Same.trans {s s' s'' : Shared} (x : Same s s') (y : Same s' s'') : Same s s'' := by
  obtain ⟨h, t, rfl⟩ := x
  obtain ⟨h', t', rfl⟩ := y
  exact ⟨h', t', rfl⟩
theorem Same.mk' {s : Shared} (h : Heap) (t : Tok) : Same s { s with heap := h, toks := t } := ⟨h, t, rfl⟩

structure Out (prog : Program) (w : World) (K : Frag) (X : List Addr) (F : FH) (G : GH) (s : Shared) (F' : FH) (G' : GH) (s' : Shared) : Prop where
  same : Same s s'
  step : Step X F G s.heap F' G' s'.heap
  inv : Inv prog w K F' G' s'.heap

theorem Out.refl {prog : Program} {w : World} {K : Frag} {X : List Addr} {F : FH} {G : GH} {s : Shared} (I : Inv prog w K F G s.heap) : Out prog w K X F G s F G s := ⟨.refl, .refl, I⟩
theorem Out.trans {prog : Program} {w : World} {K : Frag} {X : List Addr} {F F' F'' : FH} {G G' G'' : GH} {s s' s'' : Shared} (x : Out prog w K X F G s F' G' s') (y : Out prog w K X F' G' s' F'' G'' s'') : Out prog w K X F G s F'' G'' s'' :=
  ⟨x.same.trans y.same, x.step.trans y.step x.inv.ap, y.inv⟩
theorem Out.nil {prog : Program} {w : World} {K : Frag} {Y : List Addr} {F F' : FH} {G G' : GH} {s s' : Shared} (x : Out prog w K [] F G s F' G' s') : Out prog w K Y F G s F' G' s' := ⟨x.same, x.step.nil, x.inv⟩
theorem Out.weaken {prog : Program} {w : World} {K : Frag} {X Y : List Addr} {F F' : FH} {G G' : GH} {s s' : Shared} (x : Out prog w K X F G s F' G' s') (h : ∀ a ∈ X, a ∈ Y) : Out prog w K Y F G s F' G' s' := ⟨x.same, x.step.weaken h, x.inv⟩
theorem Out.toks {prog : Program} {w : World} {K : Frag} {X : List Addr} {F : FH} {G : GH} {s : Shared} (I : Inv prog w K F G s.heap) (t : Tok) : Out prog w K X F G s F G { s with toks := t } := ⟨⟨s.heap, t, rfl⟩, .refl, I⟩

section
variable {prog : Program} {w : World} {K : Frag} {F : FH} {G : GH} {h h' : Heap} {s : Shared}

noncomputable def FH.put (F : FH) (a : Addr) (o : Obj) : FH := fun b => if b = a then some o else F b
noncomputable def GH.put (G : GH) (a : Addr) (c : Cell) : GH := fun b => if b = a then some c else G b

theorem FH.le_put {a : Addr} {o : Obj} (e : F a = none) : FLe F (F.put a o) := fun b x y => by
  unfold FH.put
  by_cases q : b = a
  · subst q; rw [e] at y; cases y
  · rw [if_neg q]; exact y
theorem FH.put_self {a : Addr} {o : Obj} : F.put a o a = some o := by unfold FH.put; rw [if_pos rfl]
theorem GH.put_self {a : Addr} {c : Cell} : G.put a c a = some c := by unfold GH.put; rw [if_pos rfl]
theorem GH.put_ne {a b : Addr} {c : Cell} (h : b ≠ a) : G.put a c b = G b := by unfold GH.put; rw [if_neg h]
theorem FH.put_ne {a b : Addr} {c : Obj} (h : b ≠ a) : F.put a c b = F b := by unfold FH.put; rw [if_neg h]

theorem Inv.fresh (I : Inv prog w K F G h) {a : Addr} (e : h.get? a = none) : F a = none ∧ G a = none := by
  constructor
  · cases q : F a with
    | none => rfl
    | some o => rw [I.hF a o q] at e; cases e
  · cases q : G a with
    | none => rfl
    | some o => obtain ⟨o', ho, _⟩ := I.hG a o q; rw [ho] at e; cases e
theorem get_size (h : Heap) : h.get? h.objs.size = none := by
  cases q : h.get? h.objs.size with
  | none => rfl
  | some o => exact absurd (Heap.lt_size q) (Nat.lt_irrefl _)

theorem Inv.keeps (I : Inv prog w K F G h) (k : ∀ a o, Known F G a → h.get? a = some o → h'.get? a = some o) : Inv prog w K F G h' :=
  ⟨I.kF, fun a o e => k a o (.inl (by rw [e]; simp)) (I.hF a o e), fun a c e => let ⟨o, ho, r⟩ := I.hG a c e; ⟨o, k a o (.inr (by rw [e]; simp)) ho, r⟩, I.ap⟩
theorem alive_of {X : List Addr} (k : ∀ a o, a ∉ X → h.get? a = some o → h'.get? a = some o) (x : ∀ a ∈ X, h'.get? a ≠ none) : ∀ a, h.get? a ≠ none → h'.get? a ≠ none := fun a e => by
  by_cases m : a ∈ X
  · exact x a m
  · cases q : h.get? a with
    | none => exact absurd q e
    | some o => rw [k a o m q]; simp

theorem Out.newF (I : Inv prog w K F G s.heap) (o : Obj) (ho : o.isFreed = false := by rfl) : Out prog w K [] F G s (F.put s.heap.objs.size o) G { s with heap := s.heap.push o } := by
  have e := get_size s.heap
  have f := I.fresh e
  refine ⟨⟨_, s.toks, rfl⟩, ⟨fun a o' _ _ q => Heap.get?_push_of_some _ q, FH.le_put f.1, fun a k => ?_, fun a q => ?_⟩, ⟨fun a o' q => FH.le_put f.1 _ _ (I.kF a o' q), fun a o' q => ?_, fun a c q => ?_, fun a q => ?_⟩⟩
  · by_cases m : a = s.heap.objs.size
    · subst m; exact .inr e
    · rcases k with k | k
      · rw [FH.put_ne m] at k; exact .inl (.inl k)
      · exact .inl (.inr k)
  · cases z : s.heap.get? a with
    | none => exact absurd z q
    | some o' => rw [Heap.get?_push_of_some _ z]; simp
  · by_cases m : a = s.heap.objs.size
    · subst m
      rw [FH.put_self] at q; cases q
      exact Heap.get?_push_size _ ho
    · rw [FH.put_ne m] at q
      exact Heap.get?_push_of_some _ (I.hF a o' q)
  · obtain ⟨o', ho', r⟩ := I.hG a c q
    exact ⟨o', Heap.get?_push_of_some _ ho', r.mono (FH.le_put f.1)⟩
  · by_cases m : a = s.heap.objs.size
    · subst m; exact f.2
    · rw [FH.put_ne m] at q; exact I.ap a q

theorem Out.newG (I : Inv prog w K F G s.heap) {c : Cell} {o : Obj} (r : CellRel prog w F c o) (ho : o.isFreed = false := by rfl) : Out prog w K [] F G s F (G.put s.heap.objs.size c) { s with heap := s.heap.push o } := by
  have e := get_size s.heap
  have f := I.fresh e
  refine ⟨⟨_, s.toks, rfl⟩, ⟨fun a o' _ _ q => Heap.get?_push_of_some _ q, FLe.rfl, fun a k => ?_, fun a q => ?_⟩, ⟨I.kF, fun a o' q => Heap.get?_push_of_some _ (I.hF a o' q), fun a c' q => ?_, fun a q => ?_⟩⟩
  · by_cases m : a = s.heap.objs.size
    · subst m; exact .inr e
    · rcases k with k | k
      · exact .inl (.inl k)
      · rw [GH.put_ne m] at k; exact .inl (.inr k)
  · cases z : s.heap.get? a with
    | none => exact absurd z q
    | some o' => rw [Heap.get?_push_of_some _ z]; simp
  · by_cases m : a = s.heap.objs.size
    · subst m
      rw [GH.put_self] at q; cases q
      exact ⟨o, Heap.get?_push_size _ ho, r⟩
    · rw [GH.put_ne m] at q
      obtain ⟨o', ho', r'⟩ := I.hG a c' q
      exact ⟨o', Heap.get?_push_of_some _ ho', r'⟩
  · by_cases m : a = s.heap.objs.size
    · subst m; rw [f.1] at q; exact absurd rfl q
    · rw [GH.put_ne m]; exact I.ap a q

theorem Out.turn (I : Inv prog w K F G s.heap) {a : Addr} {c c' : Cell} {t : Tok} (hg : G a = some c) (hs : Heap.SameBut a s.heap h') (hn : ∃ o, h'.get? a = some o ∧ CellRel prog w F c' o) : Out prog w K [] F G s F (G.put a c') { s with heap := h', toks := t } := by
  have fa : F a = none := by
    cases q : F a with
    | none => rfl
    | some o => rw [I.ap a (by rw [q]; simp)] at hg; cases hg
  obtain ⟨o, ho, r⟩ := hn
  refine ⟨⟨h', t, rfl⟩, ⟨fun b o' g _ q => ?_, FLe.rfl, fun b k => ?_, fun b q => ?_⟩, ⟨I.kF, fun b o' q => ?_, fun b c2 q => ?_, fun b q => ?_⟩⟩
  · have : b ≠ a := by rintro rfl; rw [hg] at g; cases g
    exact (hs.2 b this).trans q
  · by_cases m : b = a
    · subst m; exact .inl (.inr (by rw [hg]; simp))
    · rcases k with k | k
      · exact .inl (.inl k)
      · rw [GH.put_ne m] at k; exact .inl (.inr k)
  · by_cases m : b = a
    · subst m; show h'.get? b ≠ none; rw [ho]; simp
    · show h'.get? b ≠ none
      rw [hs.2 b m]; exact q
  · have : b ≠ a := by rintro rfl; rw [fa] at q; cases q
    exact (hs.2 b this).trans (I.hF b o' q)
  · by_cases m : b = a
    · subst m
      rw [GH.put_self] at q; cases q
      exact ⟨o, ho, r⟩
    · rw [GH.put_ne m] at q
      obtain ⟨o', ho', r'⟩ := I.hG b c2 q
      exact ⟨o', (hs.2 b m).trans ho', r'⟩
  · have : b ≠ a := by rintro rfl; rw [fa] at q; exact absurd rfl q
    rw [GH.put_ne this]; exact I.ap b q

theorem Out.other (I : Inv prog w K F G s.heap) {X : List Addr} {t : Tok} (k : ∀ a o, a ∉ X → s.heap.get? a = some o → h'.get? a = some o) (x : ∀ a ∈ X, h'.get? a ≠ none) (d : ∀ a ∈ X, ¬ Known F G a) : Out prog w K X F G s F G { s with heap := h', toks := t } :=
  ⟨⟨h', t, rfl⟩, ⟨fun a o _ m e => k a o m e, FLe.rfl, fun _ q => .inl q, alive_of k x⟩, I.keeps fun a o q e => k a o (fun m => d a m q) e⟩
end
noncomputable abbrev Tab := List (Str × Nat)
noncomputable abbrev Loc := List (Option D)

noncomputable def two (f : Value → Value → Sem Value) : List Value → Sem Value
  | [x, y] => f x y
  | _ => unsupported ""

noncomputable def frameAddrs (env : Env) : List Addr := env.locals :: env.cells.map (·.2)

noncomputable def nameAddrs (env : Env) : Expr → List Addr
  | .Name x _ => if env.kindOf x = some .local then [env.locals] else (match env.cells.lookup x with | some c => [c] | none => [])
  | _ => []
noncomputable def tgtAddrs (env : Env) : Expr → List Addr
  | .Tuple ts _ _ => ts.flatMap (nameAddrs env)
  | e => nameAddrs env e
theorem expr_tgt {P : Expr → Prop} (hn : ∀ x pos, P (.Name x pos)) (ht : ∀ ts k pos, P (.Tuple ts k pos)) (ho : ∀ t, (∀ env, tgtAddrs env t = []) → (∀ env, nameAddrs env t = []) → P t) (t : Expr) : P t := by
  cases t with
  | Name x pos => exact hn x pos
  | Tuple ts k pos => exact ht ts k pos
  | _ => exact ho _ (fun _ => rfl) (fun _ => rfl)
theorem name_sub {env : Env} {x : Str} {pos : Pos} : ∀ a ∈ nameAddrs env (.Name x pos), a ∈ frameAddrs env := by
  intro a m
  have m : a ∈ (if env.kindOf x = some .local then [env.locals] else (match env.cells.lookup x with | some c => [c] | none => [])) := m
  by_cases h : env.kindOf x = some .local
  · rw [if_pos h] at m
    rcases List.mem_cons.mp m with rfl | m
    · exact .head _
    · cases m
  · rw [if_neg h] at m
    cases e : env.cells.lookup x with
    | none => rw [e] at m; cases m
    | some c =>
      rw [e] at m
      rcases List.mem_cons.mp m with rfl | m
      · exact List.mem_cons_of_mem _ (List.mem_map.mpr ⟨(_, _), mem_of_lookup e, rfl⟩)
      · cases m
theorem nameAddrs_sub {env : Env} (t : Expr) : ∀ a ∈ nameAddrs env t, a ∈ frameAddrs env :=
  expr_tgt (P := fun t => ∀ a ∈ nameAddrs env t, a ∈ frameAddrs env) (fun _ p => name_sub (pos := p)) (fun _ _ _ _ m => nomatch m) (fun t _ e a m => by rw [e] at m; cases m) t
theorem tgtAddrs_sub {env : Env} (t : Expr) : ∀ a ∈ tgtAddrs env t, a ∈ frameAddrs env :=
  expr_tgt (P := fun t => ∀ a ∈ tgtAddrs env t, a ∈ frameAddrs env) (fun _ p => name_sub (pos := p)) (fun ts k pos a m => by
    obtain ⟨t', _, m⟩ := List.mem_flatMap.mp m
    exact nameAddrs_sub t' a m) (fun t e _ a m => by rw [e] at m; cases m) t

structure Fra (w : World) (env : Env) (tab : Tab) (ρ : Loc) (F : FH) (G : GH) (h : Heap) : Prop where
  kind : env.scope.kind = .function
  glob : env.globals = mainGlobals
  blt : env.builtins = builtinsNs
  ns : ∃ m, h.Ns env.locals m ∧ ∀ x i d, tab.lookup x = some i → ρ[i]? = some (some d) → env.kindOf x = some .local → ∃ v, m x = some v ∧ Rep w.params F d v
  cel : ∀ x i, tab.lookup x = some i → env.kindOf x ≠ some .local → (env.kindOf x = some .cell ∨ env.kindOf x = some .free ∧ (x == ("__classdict__" : Str)) = false) ∧
    ∃ c v0, env.cells.lookup x = some c ∧ h.IsCell c v0 ∧ ∀ d, ρ[i]? = some (some d) → ∃ v, v0 = some v ∧ Rep w.params F d v
  out : ∀ a ∈ frameAddrs env, ¬ Known F G a ∧ h.get? a ≠ none
  apart : env.cells.Pairwise (fun x y => x.2 ≠ y.2)
  off : ∀ p ∈ env.cells, p.2 ≠ env.locals

noncomputable def OkA (n : Nat) (A : Around) : Prop := A.handled = none ∧ A.depth + 2 * n < 900 ∧ A.units + 50 * n + 200 < cLine

theorem OkA.le {n k : Nat} {A : Around} (h : OkA n A) (q : k ≤ n) : OkA k A := ⟨h.1, by have := h.2.1; (first | with_reducible assumption | exact Nat.lt_of_lt_of_le (by assumption) (by decide) | exact Nat.lt_of_le_of_lt (by assumption) (by decide) | lia | omega), by have := h.2.2; (first | with_reducible assumption | exact Nat.lt_of_lt_of_le (by assumption) (by decide) | exact Nat.lt_of_le_of_lt (by assumption) (by decide) | lia | omega)⟩

section
variable {prog : Program} {w : World} {K : Frag} {env : Env} {tab : Tab} {ρ : Loc} {F F' : FH} {G G' : GH} {s s' : Shared}

theorem ns_at {h h' : Heap} {a : Addr} {m : Str → Option Value} (n : h.Ns a m) (k : ∀ o, h.get? a = some o → h'.get? a = some o) : h'.Ns a m :=
  let ⟨o, es, ep, e, r⟩ := n; ⟨o, es, ep, k _ e, r⟩
theorem cell_at {h h' : Heap} {a : Addr} {v : Option Value} (n : h.IsCell a v) (k : ∀ o, h.get? a = some o → h'.get? a = some o) : h'.IsCell a v :=
  let ⟨o, e, r⟩ := n; ⟨o, k _ e, r⟩

theorem mem_frame_cell {x : Str} {c : Addr} (h : env.cells.lookup x = some c) : c ∈ frameAddrs env :=
  List.mem_cons_of_mem _ (List.mem_map.mpr ⟨(x, c), mem_of_lookup h, rfl⟩)

theorem Fra.keep {X : List Addr} (R : Fra w env tab ρ F G s.heap) (O : Out prog w K X F G s F' G' s') (hx : ∀ a ∈ frameAddrs env, a ∉ X) : Fra w env tab ρ F' G' s'.heap := by
  have kp : ∀ a ∈ frameAddrs env, ∀ o, s.heap.get? a = some o → s'.heap.get? a = some o := fun a m o e =>
    O.step.keep a o (by
      cases q : G a with
      | none => rfl
      | some c => exact absurd (.inr (by rw [q]; simp)) (R.out a m).1) (hx a m) e
  obtain ⟨mm, hn, hm⟩ := R.ns
  refine ⟨R.kind, R.glob, R.blt, ⟨mm, ns_at hn (kp _ (.head _)), fun x i d a b c => ?_⟩, fun x i a b => ?_, fun a m => ⟨fun k => ?_, ?_⟩, R.apart, R.off⟩
  · obtain ⟨v, e, r⟩ := hm x i d a b c
    exact ⟨v, e, r.mono O.step.mono⟩
  · obtain ⟨k, c, v0, e1, e2, e3⟩ := R.cel x i a b
    refine ⟨k, c, v0, e1, cell_at e2 (kp _ (mem_frame_cell e1)), fun d q => ?_⟩
    obtain ⟨v, e, r⟩ := e3 d q
    exact ⟨v, e, r.mono O.step.mono⟩
  · rcases O.step.dom a k with z | z
    · exact (R.out a m).1 z
    · exact (R.out a m).2 z
  · exact O.step.alive a (R.out a m).2
theorem Fra.nil (R : Fra w env tab ρ F G s.heap) (O : Out prog w K [] F G s F' G' s') : Fra w env tab ρ F' G' s'.heap := R.keep O fun _ _ q => nomatch q

noncomputable def Tab.inj (tab : Tab) : Prop := ∀ x y i, tab.lookup x = some i → tab.lookup y = some i → x = y

theorem Fra.store {x : Str} {i : Nat} {d : D} {v : Value} {h' : Heap} (R : Fra w env tab ρ F G s.heap) (hx : tab.lookup x = some i) (hinj : tab.inj) (hl : env.kindOf x = some .local) (hv : Rep w.params F d v)
    (hs : Heap.SameBut env.locals s.heap h') {m : Str → Option Value} (hm : s.heap.Ns env.locals m) (hn : h'.Ns env.locals (fun y => if y = x then some v else m y)) : Fra w env tab (ρ.set i (some d)) F G h' := by
  obtain ⟨m0, hn0, hm0⟩ := R.ns
  have em : m0 = m := by
    obtain ⟨o, es, ep, e1, e2, _, e3⟩ := hn0
    obtain ⟨o', es', ep', e1', e2', _, e3'⟩ := hm
    rw [e1] at e1'; cases e1'
    rw [e2] at e2'; cases e2'
    funext y; rw [← e3, ← e3']
  subst em
  refine ⟨R.kind, R.glob, R.blt, ⟨_, hn, fun y j e a b c => ?_⟩, fun y j a b => ?_, fun a q => ⟨(R.out a q).1, ?_⟩, R.apart, R.off⟩
  · by_cases q : y = x
    · subst q
      rw [hx] at a; cases a
      have hi : i < ρ.length := by
        by_cases z : i < ρ.length
        · exact z
        · rw [List.getElem?_eq_none (by rw [List.length_set]; (first | with_reducible assumption | exact Nat.lt_of_lt_of_le (by assumption) (by decide) | exact Nat.lt_of_le_of_lt (by assumption) (by decide) | lia | omega))] at b; cases b
      rw [List.getElem?_set_self hi] at b
      cases b
      exact ⟨v, if_pos rfl, hv⟩
    · have ne : i ≠ j := fun z => q (hinj y x i (z ▸ a) hx)
      rw [List.getElem?_set_ne ne] at b
      obtain ⟨u, e1, r⟩ := hm0 y j e a b c
      exact ⟨u, by simp only [if_neg q]; exact e1, r⟩
  · have q : y ≠ x := fun z => b (z ▸ hl)
    have ne : i ≠ j := fun z => q (hinj y x i (z ▸ a) hx)
    obtain ⟨k, c, v0, e1, e2, e3⟩ := R.cel y j a b
    refine ⟨k, c, v0, e1, e2.sameBut hs (R.off (y, c) (mem_of_lookup e1)), fun d' q' => ?_⟩
    rw [List.getElem?_set_ne ne] at q'
    exact e3 d' q'
  · by_cases z : a = env.locals
    · subst z
      obtain ⟨o, es, ep, e1, _⟩ := hn
      rw [e1]; simp
    · rw [hs.2 a z]; exact (R.out a q).2

theorem Fra.storeC {x : Str} {i : Nat} {d : D} {v : Value} {h' : Heap} {c : Addr} (R : Fra w env tab ρ F G s.heap) (hx : tab.lookup x = some i) (hinj : tab.inj) (hl : env.kindOf x ≠ some .local) (hc : env.cells.lookup x = some c) (hv : Rep w.params F d v)
    (hs : Heap.SameBut c s.heap h') (hn : h'.IsCell c (some v)) : Fra w env tab (ρ.set i (some d)) F G h' := by
  obtain ⟨m0, hn0, hm0⟩ := R.ns
  have hcl : c ≠ env.locals := R.off (x, c) (mem_of_lookup hc)
  refine ⟨R.kind, R.glob, R.blt, ⟨_, hn0.sameBut hs (Ne.symm hcl), fun y j e a b z => ?_⟩, fun y j a b => ?_, fun a q => ⟨(R.out a q).1, ?_⟩, R.apart, R.off⟩
  · have q : y ≠ x := fun u => hl (u ▸ z)
    have ne : i ≠ j := fun u => q (hinj y x i (u ▸ a) hx)
    rw [List.getElem?_set_ne ne] at b
    exact hm0 y j e a b z
  · obtain ⟨k, c', v0, e1, e2, e3⟩ := R.cel y j a b
    by_cases q : y = x
    · subst q
      rw [hx] at a; cases a
      rw [hc] at e1; cases e1
      refine ⟨k, c, some v, hc, hn, fun d' q' => ?_⟩
      have hi : i < ρ.length := by
        by_cases z : i < ρ.length
        · exact z
        · rw [List.getElem?_eq_none (by rw [List.length_set]; (first | with_reducible assumption | exact Nat.lt_of_lt_of_le (by assumption) (by decide) | exact Nat.lt_of_le_of_lt (by assumption) (by decide) | lia | omega))] at q'; cases q'
      rw [List.getElem?_set_self hi] at q'
      cases q'
      exact ⟨v, rfl, hv⟩
    · have ne : i ≠ j := fun u => q (hinj y x i (u ▸ a) hx)
      have nc : c' ≠ c := fun u => q (name_of_addr R.apart (mem_of_lookup e1) (u ▸ mem_of_lookup hc))
      refine ⟨k, c', v0, e1, e2.sameBut hs nc, fun d' q' => ?_⟩
      rw [List.getElem?_set_ne ne] at q'
      exact e3 d' q'
  · by_cases z : a = c
    · subst z
      obtain ⟨o, e1, _⟩ := hn
      rw [e1]; simp
    · rw [hs.2 a z]; exact (R.out a q).2
end

section
variable (prog : Program) (w : World) (K : Frag)

noncomputable abbrev NoE : Value → Shared → Prop := fun _ _ => False
inductive VP (F : FH) (G : GH) (s : Shared) (Q : D → GH → Prop) (v : Value) (s' : Shared) : Prop
  | mk (F' : FH) (G' : GH) (d : D) : Out prog w K [] F G s F' G' s' → Rep w.params F' d v → Q d G' → VP F G s Q v s'
inductive TP (F : FH) (G : GH) (s : Shared) (Q : Bool → GH → Prop) (b : Bool) (s' : Shared) : Prop
  | mk (F' : FH) (G' : GH) : Out prog w K [] F G s F' G' s' → Q b G' → TP F G s Q b s'
noncomputable def VX (A : Around) (F : FH) (G : GH) (s : Shared) (t : Sem Value) (Q : D → GH → Prop) : Prop :=
  wpAny (model prog w) A t (VP prog w K F G s Q) NoE s

noncomputable def EX (n : Nat) (sc : Scope) (tab : Tab) (ρ : Loc) (G : GH) (e : Expr) (Q : D → GH → Prop) : Prop :=
  ∀ (A : Around) (env : Env) (F : FH) (s : Shared), OkA n A → env.scope = sc → Inv prog w K F G s.heap → Fra w env tab ρ F G s.heap → VX prog w K A F G s (eval e env) Q

noncomputable def TX (n : Nat) (sc : Scope) (tab : Tab) (ρ : Loc) (G : GH) (e : Expr) (Q : Bool → GH → Prop) : Prop :=
  ∀ (A : Around) (env : Env) (F : FH) (s : Shared), OkA n A → env.scope = sc → Inv prog w K F G s.heap → Fra w env tab ρ F G s.heap →
    wpAny (model prog w) A (isTrue e env (eval e env)) (TP prog w K F G s Q) NoE s

noncomputable def OP (n : Nat) (G : GH) (ds : List D) (f : List Value → Sem Value) (Q : D → GH → Prop) : Prop :=
  ∀ (A : Around) (F : FH) (s : Shared) (vs : List Value), OkA n A → Inv prog w K F G s.heap → RepAll w.params F ds vs → VX prog w K A F G s (f vs) Q

inductive Fl where
  | next
  | ret (d : D)
inductive FlRel (F : FH) : Fl → Flow → Prop
  | next : FlRel F .next .next
  | ret {d : D} {v : Value} : Rep w.params F d v → FlRel F (.ret d) (.ret v)

inductive SP (env : Env) (tab : Tab) (F : FH) (G : GH) (s : Shared) (Q : Fl → Loc → GH → Prop) (f : Flow) (s' : Shared) : Prop
  | mk (F' : FH) (G' : GH) (ρ' : Loc) (fl : Fl) : Out prog w K (frameAddrs env) F G s F' G' s' → Fra w env tab ρ' F' G' s'.heap → FlRel w F' fl f → Q fl ρ' G' → SP env tab F G s Q f s'
inductive XP {α : Type} (X : List Addr) (env : Env) (tab : Tab) (F : FH) (G : GH) (s : Shared) (Q : Loc → GH → Prop) (x : α) (s' : Shared) : Prop
  | mk (F' : FH) (G' : GH) (ρ' : Loc) : Out prog w K X F G s F' G' s' → Fra w env tab ρ' F' G' s'.heap → Q ρ' G' → XP X env tab F G s Q x s'
noncomputable abbrev AP {α : Type} (t : Expr) (env : Env) (tab : Tab) (F : FH) (G : GH) (s : Shared) (Q : Loc → GH → Prop) : α → Shared → Prop := XP prog w K (tgtAddrs env t) env tab F G s Q
inductive LP (F : FH) (G : GH) (s : Shared) (l : List Value) (Q : List D → GH → Prop) (vs : List Value) (s' : Shared) : Prop
  | mk (F' : FH) (G' : GH) (ds : List D) : Out prog w K [] F G s F' G' s' → RepAll w.params F' ds (l ++ vs) → Q ds G' → LP F G s l Q vs s'
noncomputable def SX (n : Nat) (sc : Scope) (tab : Tab) (ρ : Loc) (G : GH) (ss : List Stmt) (Q : Fl → Loc → GH → Prop) : Prop :=
  ∀ (A : Around) (env : Env) (F : FH) (s : Shared), OkA n A → env.scope = sc → Inv prog w K F G s.heap → Fra w env tab ρ F G s.heap →
    wpAny (model prog w) A (execs ss env) (SP prog w K env tab F G s Q) NoE s
noncomputable def S1 (n : Nat) (sc : Scope) (tab : Tab) (ρ : Loc) (G : GH) (st : Stmt) (Q : Fl → Loc → GH → Prop) : Prop :=
  ∀ (A : Around) (env : Env) (F : FH) (s : Shared), OkA n A → env.scope = sc → Inv prog w K F G s.heap → Fra w env tab ρ F G s.heap →
    wpAny (model prog w) A (exec st env) (SP prog w K env tab F G s Q) NoE s
noncomputable def AX (n : Nat) (sc : Scope) (tab : Tab) (ρ : Loc) (G : GH) (t : Expr) (d : D) (Q : Loc → GH → Prop) : Prop :=
  ∀ (A : Around) (env : Env) (F : FH) (s : Shared) (v : Value), OkA n A → env.scope = sc → Inv prog w K F G s.heap → Fra w env tab ρ F G s.heap → Rep w.params F d v →
    wpAny (model prog w) A (assign t env v) (AP prog w K t env tab F G s Q) NoE s
noncomputable abbrev opQ (n : Nat) (a : D) (f : Value → Value → Sem Value) (Q : D → GH → Prop) : D → GH → Prop := fun b G₂ => OP prog w K n G₂ [a, b] (two f) Q
noncomputable abbrev binQ (n : Nat) (sc : Scope) (tab : Tab) (ρ : Loc) (r : Expr) (f : Value → Value → Sem Value) (Q : D → GH → Prop) : D → GH → Prop := fun a G₁ => EX prog w K n sc tab ρ G₁ r (opQ prog w K n a f Q)
inductive andQ (n : Nat) (sc : Scope) (tab : Tab) (ρ : Loc) (b : Expr) (Q : Bool → GH → Prop) (t : Bool) (G₁ : GH) : Prop
  | mk : (t = true → TX prog w K n sc tab ρ G₁ b Q) → (t = false → Q false G₁) → andQ n sc tab ρ b Q t G₁
inductive iteQ (n : Nat) (sc : Scope) (tab : Tab) (ρ : Loc) (b o : Expr) (Q : D → GH → Prop) (c : Bool) (G₁ : GH) : Prop
  | mk : (c = true → EX prog w K n sc tab ρ G₁ b Q) → (c = false → EX prog w K n sc tab ρ G₁ o Q) → iteQ n sc tab ρ b o Q c G₁
inductive ifQ (n : Nat) (sc : Scope) (tab : Tab) (ρ : Loc) (b o : List Stmt) (Q : Fl → Loc → GH → Prop) (c : Bool) (G₁ : GH) : Prop
  | mk : (c = true → SX prog w K n sc tab ρ G₁ b Q) → (c = false → SX prog w K n sc tab ρ G₁ o Q) → ifQ n sc tab ρ b o Q c G₁
inductive thnQ (n : Nat) (sc : Scope) (tab : Tab) (rest : List Stmt) (Q : Fl → Loc → GH → Prop) (fl : Fl) (ρ₁ : Loc) (G₁ : GH) : Prop
  | mk : (fl = .next → SX prog w K n sc tab ρ₁ G₁ rest Q) → (∀ d, fl = .ret d → Q (.ret d) ρ₁ G₁) → thnQ n sc tab rest Q fl ρ₁ G₁
inductive nxsQ (n : Nat) (sc : Scope) (tab : Tab) (rest : List Stmt) (Q : Fl → Loc → GH → Prop) (fl : Fl) (ρ₁ : Loc) (G₁ : GH) : Prop
  | mk : fl = .next → SX prog w K n sc tab ρ₁ G₁ rest Q → nxsQ n sc tab rest Q fl ρ₁ G₁
noncomputable abbrev asgQ (n : Nat) (sc : Scope) (tab : Tab) (ρ : Loc) (t : Expr) (Q : Fl → Loc → GH → Prop) : D → GH → Prop := fun d G₁ => AX prog w K n sc tab ρ G₁ t d (fun ρ' G' => Q .next ρ' G')
end
inductive boolQ (Q : Bool → GH → Prop) (d : D) (G₃ : GH) : Prop
  | mk (t : Bool) : d = .bool t → Q t G₃ → boolQ Q d G₃
inductive nxjQ (J : Loc → GH → Prop) (fl : Fl) (ρ₁ : Loc) (G₁ : GH) : Prop
  | mk : fl = .next → J ρ₁ G₁ → nxjQ J fl ρ₁ G₁
inductive endQ (P : GH → Prop) (Q : D → GH → Prop) (fl : Fl) (ρ : Loc) (G' : GH) : Prop
  | mk : (fl = .next → P G') → (∀ d, fl = .ret d → Q d G') → endQ P Q fl ρ G'
inductive whbQ (J : Nat → Loc → GH → Prop) (k : Nat) (Q : Fl → Loc → GH → Prop) (fl : Fl) (ρ₂ : Loc) (G₂ : GH) : Prop
  | mk : (fl = .next → ∃ m, m < k ∧ J m ρ₂ G₂) → (∀ d, fl = .ret d → Q (.ret d) ρ₂ G₂) → whbQ J k Q fl ρ₂ G₂
inductive lbQ (J : Nat → Loc → GH → Prop) (i : Nat) (Q : Fl → Loc → GH → Prop) (fl : Fl) (ρ₂ : Loc) (G₂ : GH) : Prop
  | mk : (fl = .next → J (i + 1) ρ₂ G₂) → (∀ r, fl = .ret r → Q (.ret r) ρ₂ G₂) → lbQ J i Q fl ρ₂ G₂
noncomputable abbrev setQ (ρ : Loc) (i : Nat) (Q : Fl → Loc → GH → Prop) : D → GH → Prop := fun d G₁ => Q .next (ρ.set i (some d)) G₁
inductive noneQ (ρ : Loc) (Q : Fl → Loc → GH → Prop) (d : D) (G₁ : GH) : Prop
  | mk : d = .none → Q .next ρ G₁ → noneQ ρ Q d G₁
noncomputable abbrev retQ (ρ : Loc) (Q : Fl → Loc → GH → Prop) : D → GH → Prop := fun d G₁ => Q (.ret d) ρ G₁

section
variable {prog : Program} {w : World} {K : Frag} {n : Nat} {sc : Scope} {tab : Tab} {ρ : Loc} {G : GH} {F : FH} {A : Around} {s : Shared}

theorem VX.mono {t : Sem Value} {Q Q' : D → GH → Prop} (h : VX prog w K A F G s t Q) (q : ∀ d G, Q d G → Q' d G) : VX prog w K A F G s t Q' :=
  wpAny_mono h (fun _ _ ⟨F', G', d, O, r, x⟩ => ⟨F', G', d, O, r, q _ _ x⟩) fun _ _ x => x
theorem EX.mono {e : Expr} {Q Q' : D → GH → Prop} (h : EX prog w K n sc tab ρ G e Q) (q : ∀ d G, Q d G → Q' d G) : EX prog w K n sc tab ρ G e Q' :=
  fun A env F s a b c d => (h A env F s a b c d).mono q
theorem OP.mono {ds : List D} {f : List Value → Sem Value} {Q Q' : D → GH → Prop} (h : OP prog w K n G ds f Q) (q : ∀ d G, Q d G → Q' d G) : OP prog w K n G ds f Q' :=
  fun A F s vs a b c => (h A F s vs a b c).mono q
theorem TX.mono {e : Expr} {Q Q' : Bool → GH → Prop} (h : TX prog w K n sc tab ρ G e Q) (q : ∀ d G, Q d G → Q' d G) : TX prog w K n sc tab ρ G e Q' :=
  fun A env F s a b c d => wpAny_mono (h A env F s a b c d) (fun _ _ ⟨F', G', O, x⟩ => ⟨F', G', O, q _ _ x⟩) fun _ _ x => x
theorem SX.mono {ss : List Stmt} {Q Q' : Fl → Loc → GH → Prop} (h : SX prog w K n sc tab ρ G ss Q) (q : ∀ f ρ G, Q f ρ G → Q' f ρ G) : SX prog w K n sc tab ρ G ss Q' :=
  fun A env F s a b c d => wpAny_mono (h A env F s a b c d) (fun _ _ ⟨F', G', ρ', fl, O, R, r, x⟩ => ⟨F', G', ρ', fl, O, R, r, q _ _ _ x⟩) fun _ _ x => x

theorem VX.pure {v : Value} {d : D} {Q : D → GH → Prop} (I : Inv prog w K F G s.heap) (r : Rep w.params F d v) (q : Q d G) : VX prog w K A F G s (Pure.pure v) Q :=
  wpAny_pure ⟨F, G, d, Out.refl I, r, q⟩
theorem VX.bind {t : Sem Value} {f : Value → Sem Value} {Q : D → GH → Prop}
    (h : VX prog w K A F G s t (fun d G' => ∀ F' s' v, Out prog w K [] F G s F' G' s' → Rep w.params F' d v → VX prog w K A F' G' s' (f v) Q)) : VX prog w K A F G s (t >>= f) Q := by
  refine wpAny_bind (wpAny_mono h (fun v s' ⟨F', G', d, O, r, x⟩ => ?_) fun _ _ x => x)
  exact wpAny_mono (x F' s' v O r) (fun v' s'' ⟨F'', G'', d', O', r', y⟩ => ⟨F'', G'', d', O.trans O', r', y⟩) fun _ _ x => x

theorem EX_name {x : Str} {pos : Pos} {i : Nat} {d : D} {Q : D → GH → Prop} (hx : tab.lookup x = some i) (hv : ρ[i]? = some (some d)) (q : Q d G) (hd : (x == ("__debug__" : Str)) = false := by decide) : EX prog w K n sc tab ρ G (.Name x pos) Q := by
  intro A env F s ok hsc I R
  by_cases hl : env.kindOf x = some .local
  · obtain ⟨m, hn, hm⟩ := R.ns
    obtain ⟨v, e, r⟩ := hm x i d hx hv hl
    exact wpAny_Name (wpAny_loadName_local R.kind hl hn e ⟨F, G, d, Out.refl I, r, q⟩) hd
  · obtain ⟨k, c, v0, e1, e2, e3⟩ := R.cel x i hx hl
    obtain ⟨v, rfl, r⟩ := e3 d hv
    rcases k with k | k
    · exact wpAny_Name (wpAny_loadName_cell R.kind k e1 e2 ⟨F, G, d, Out.refl I, r, q⟩) hd
    · exact wpAny_Name (wpAny_loadName_free R.kind k.1 e1 e2 ⟨F, G, d, Out.refl I, r, q⟩ k.2) hd

theorem EX_glob {x : Str} {pos : Pos} {v : Value} {d : D} {Q : D → GH → Prop} (hx : sc.names.lookup x = some .globalImplicit) (hg : nsIn K mainGlobals x = some (some v)) (hr : ∀ F, (∀ a o, K.lookup a = some o → F a = some o) → Rep w.params F d v) (q : Q d G)
    (hd : (x == ("__debug__" : Str)) = false := by decide) : EX prog w K n sc tab ρ G (.Name x pos) Q := by
  intro A env F s ok hsc I R
  subst hsc
  refine wpAny_Name (ks_loadName_global R.kind hx ?_) hd
  unfold loadGlobal
  rw [R.glob]
  exact wpAny_bind ((looks_nsIn I.kIn hg).here (wpAny_pure ⟨F, G, d, Out.refl I, hr F I.kF, q⟩))
theorem VX_glob {x : Str} {pos : Pos} {v : Value} {env : Env} {Q : Value → Shared → Prop} {E : Value → Shared → Prop} (hx : env.scope.names.lookup x = some .globalImplicit) (hg : nsIn K mainGlobals x = some (some v)) (I : Inv prog w K F G s.heap) (R : Fra w env tab ρ F G s.heap) (q : Q v s)
    (hd : (x == ("__debug__" : Str)) = false) : wpAny (model prog w) A (eval (.Name x pos) env) Q E s := by
  refine wpAny_Name (ks_loadName_global R.kind hx ?_) hd
  unfold loadGlobal
  rw [R.glob]
  exact wpAny_bind ((looks_nsIn I.kIn hg).here (wpAny_pure q))
theorem VX_blt {x : Str} {pos : Pos} {v : Value} {env : Env} {Q : Value → Shared → Prop} {E : Value → Shared → Prop} (hx : env.scope.names.lookup x = some .globalImplicit) (hg : nsIn K mainGlobals x = some none) (hb : nsIn K builtinsNs x = some (some v)) (I : Inv prog w K F G s.heap) (R : Fra w env tab ρ F G s.heap) (q : Q v s)
    (hd : (x == ("__debug__" : Str)) = false) : wpAny (model prog w) A (eval (.Name x pos) env) Q E s := by
  refine wpAny_Name (ks_loadName_global R.kind hx ?_) hd
  unfold loadGlobal
  rw [R.glob, R.blt]
  exact wpAny_bind ((looks_nsIn I.kIn hg).here (wpAny_bind ((looks_nsIn I.kIn hb).here (wpAny_pure q))))

theorem EX_int {i : Int} {k pos} {Q : D → GH → Prop} (q : Q (.int i) G) : EX prog w K n sc tab ρ G (.Constant (.int i) k pos) Q :=
  fun A env F s _ _ I _ => wpAny_Constant_int ⟨F, G, .int i, Out.toks I _, .int _ _, q⟩
theorem EX_str {x : Str} {k pos} {Q : D → GH → Prop} (q : Q (.str x) G) : EX prog w K n sc tab ρ G (.Constant (.str x) k pos) Q :=
  fun A env F s _ _ I _ => wpAny_mkText ⟨F, G, .str x, Out.toks I _, .str _ _, q⟩
theorem EX_bool {b : Bool} {k pos} {Q : D → GH → Prop} (q : Q (.bool b) G) : EX prog w K n sc tab ρ G (.Constant (.bool b) k pos) Q :=
  fun A env F s _ _ I _ => wpAny_pure ⟨F, G, .bool b, Out.refl I, .bool _, q⟩
theorem EX_none {k pos} {Q : D → GH → Prop} (q : Q .none G) : EX prog w K n sc tab ρ G (.Constant .none k pos) Q :=
  fun A env F s _ _ I _ => wpAny_pure ⟨F, G, .none, Out.refl I, .none, q⟩

theorem EX_bin {l r : Expr} {op : Operator} {pos : Pos} {Q : D → GH → Prop} (h : EX prog w K n sc tab ρ G l (binQ prog w K n sc tab ρ r (binaryOp op) Q)) :
    EX prog w K n sc tab ρ G (.BinOp l op r pos) Q := by
  intro A env F s ok hsc I R
  refine wpAny_BinOp (wpAny_mono (h A env F s ok hsc I R) (fun a s₁ ⟨F₁, G₁, d₁, O₁, r₁, h₁⟩ => ?_) fun _ _ x => x)
  refine wpAny_mono (h₁ A env F₁ s₁ ok hsc O₁.inv (R.nil O₁)) (fun b s₂ ⟨F₂, G₂, d₂, O₂, r₂, h₂⟩ => ?_) fun _ _ x => x
  refine wpAny_mono (h₂ A F₂ s₂ [a, b] ok O₂.inv (.cons (r₁.mono O₂.step.mono) (.cons r₂ .nil))) (fun c s₃ ⟨F₃, G₃, d₃, O₃, r₃, h₃⟩ => ?_) fun _ _ x => x
  exact ⟨F₃, G₃, d₃, (O₁.trans O₂).trans O₃, r₃, h₃⟩
theorem EX_cmp {l r : Expr} {op : CmpOp} {pos : Pos} {Q : D → GH → Prop} (h : EX prog w K n sc tab ρ G l (binQ prog w K n sc tab ρ r (compareOp op) Q))
    (hm : behindInMarks op r = false := by with_unfolding_all rfl) : EX prog w K n sc tab ρ G (.Compare l [op] [r] pos) Q := by
  intro A env F s ok hsc I R
  refine wpAny_Compare1 (wpAny_mono (h A env F s ok hsc I R) (fun a s₁ ⟨F₁, G₁, d₁, O₁, r₁, h₁⟩ => ?_) fun _ _ x => x) hm
  refine wpAny_mono (h₁ A env F₁ s₁ ok hsc O₁.inv (R.nil O₁)) (fun b s₂ ⟨F₂, G₂, d₂, O₂, r₂, h₂⟩ => ?_) fun _ _ x => x
  refine wpAny_mono (h₂ A F₂ s₂ [a, b] ok O₂.inv (.cons (r₁.mono O₂.step.mono) (.cons r₂ .nil))) (fun c s₃ ⟨F₃, G₃, d₃, O₃, r₃, h₃⟩ => ?_) fun _ _ x => x
  exact ⟨F₃, G₃, d₃, (O₁.trans O₂).trans O₃, r₃, h₃⟩
theorem TX_cmp {l r : Expr} {op : CmpOp} {pos : Pos} {Q : Bool → GH → Prop} (h : EX prog w K n sc tab ρ G l (binQ prog w K n sc tab ρ r (compareOp op) (boolQ Q)))
    (hm : behindInMarks op r = false := by with_unfolding_all rfl) : TX prog w K n sc tab ρ G (.Compare l [op] [r] pos) Q := by
  intro A env F s ok hsc I R
  refine wpAny_isTrue_Compare1 (wpAny_mono (h A env F s ok hsc I R) (fun a s₁ ⟨F₁, G₁, d₁, O₁, r₁, h₁⟩ => ?_) fun _ _ x => x) hm
  refine wpAny_mono (h₁ A env F₁ s₁ ok hsc O₁.inv (R.nil O₁)) (fun b s₂ ⟨F₂, G₂, d₂, O₂, r₂, h₂⟩ => ?_) fun _ _ x => x
  refine wpAny_mono (h₂ A F₂ s₂ [a, b] ok O₂.inv (.cons (r₁.mono O₂.step.mono) (.cons r₂ .nil))) (fun c s₃ ⟨F₃, G₃, d₃, O₃, r₃, t, e, h₃⟩ => ?_) fun _ _ x => x
  subst e
  (first | obtain rfl := r₃.inv | obtain ⟨_, rfl⟩ := r₃.inv | cases r₃)
  exact wpAny_truthy_bool ⟨F₃, G₃, (O₁.trans O₂).trans O₃, h₃⟩

theorem TX_and {a b : Expr} {pos : Pos} {Q : Bool → GH → Prop} (h : TX prog w K n sc tab ρ G a (andQ prog w K n sc tab ρ b Q)) : TX prog w K n sc tab ρ G (.BoolOp .And [a, b] pos) Q := by
  intro A env F s ok hsc I R
  show wpAny _ _ (allTrue .And [a, b] env) _ _ _
  refine wpAny_bind (wpAny_mono (h A env F s ok hsc I R) (fun t s₁ ⟨F₁, G₁, O₁, h1, h2⟩ => ?_) fun _ _ x => x)
  cases t with
  | false => exact wpAny_pure ⟨F₁, G₁, O₁, h2 rfl⟩
  | true =>
    refine wpAny_bind (wpAny_mono (h1 rfl A env F₁ s₁ ok hsc O₁.inv (R.nil O₁)) (fun t s₂ ⟨F₂, G₂, O₂, q⟩ => ?_) fun _ _ x => x)
    cases t with
    | false => exact wpAny_pure ⟨F₂, G₂, O₁.trans O₂, q⟩
    | true => exact wpAny_pure ⟨F₂, G₂, O₁.trans O₂, q⟩
noncomputable def TXor (prog : Program) (w : World) (K : Frag) (n : Nat) (sc : Scope) (tab : Tab) (ρ : Loc) (Q : Bool → GH → Prop) : List Expr → GH → Prop
  | [], G => Q false G
  | e :: r, G => TX prog w K n sc tab ρ G e (fun t G₁ => (t = true → Q true G₁) ∧ (t = false → TXor prog w K n sc tab ρ Q r G₁))
theorem TX_or_go {env : Env} (ok : OkA n A) (hsc : env.scope = sc) {Q : Bool → GH → Prop} : ∀ (es : List Expr) (F : FH) (G : GH) (s : Shared), Inv prog w K F G s.heap → Fra w env tab ρ F G s.heap → TXor prog w K n sc tab ρ Q es G →
    wpAny (model prog w) A (allTrue .Or es env) (TP prog w K F G s Q) NoE s
  | [], F, G, s, I, R, h => wpAny_pure ⟨F, G, Out.refl I, h⟩
  | e :: r, F, G, s, I, R, h => by
    refine wpAny_bind (wpAny_mono (h A env F s ok hsc I R) (fun t s₁ ⟨F₁, G₁, O₁, h1, h2⟩ => ?_) fun _ _ x => x)
    cases t with
    | true => exact wpAny_pure ⟨F₁, G₁, O₁, h1 rfl⟩
    | false =>
      exact wpAny_mono (TX_or_go ok hsc r F₁ G₁ s₁ O₁.inv (R.nil O₁) (h2 rfl)) (fun t s₂ ⟨F₂, G₂, O₂, q⟩ => ⟨F₂, G₂, O₁.trans O₂, q⟩) fun _ _ x => x
theorem TX_or {es : List Expr} {pos : Pos} {Q : Bool → GH → Prop} (h : TXor prog w K n sc tab ρ Q es G) : TX prog w K n sc tab ρ G (.BoolOp .Or es pos) Q :=
  fun _ _ F s ok hsc I R => TX_or_go ok hsc es F G s I R h

theorem EX_ite {t b o : Expr} {pos : Pos} {Q : D → GH → Prop} (h : TX prog w K n sc tab ρ G t (iteQ prog w K n sc tab ρ b o Q)) : EX prog w K n sc tab ρ G (.IfExp t b o pos) Q := by
  intro A env F s ok hsc I R
  show wpAny _ _ (isTrue t env (eval t env) >>= fun c => if c = true then eval b env else eval o env) _ _ _
  refine wpAny_bind (wpAny_mono (h A env F s ok hsc I R) (fun t s₁ ⟨F₁, G₁, O₁, h1, h2⟩ => ?_) fun _ _ x => x)
  cases t with
  | true => exact wpAny_mono (h1 rfl A env F₁ s₁ ok hsc O₁.inv (R.nil O₁)) (fun _ _ ⟨F', G', d, O, r, x⟩ => ⟨F', G', d, O₁.trans O, r, x⟩) fun _ _ x => x
  | false => exact wpAny_mono (h2 rfl A env F₁ s₁ ok hsc O₁.inv (R.nil O₁)) (fun _ _ ⟨F', G', d, O, r, x⟩ => ⟨F', G', d, O₁.trans O, r, x⟩) fun _ _ x => x
theorem EX_or {a b : Expr} {pos : Pos} {Q : D → GH → Prop} (h : EX prog w K n sc tab ρ G a (fun d G₁ => ∃ t, d = .bool t ∧ (t = true → Q (.bool true) G₁) ∧ (t = false → EX prog w K n sc tab ρ G₁ b Q))) : EX prog w K n sc tab ρ G (.BoolOp .Or [a, b] pos) Q := by
  intro A env F s ok hsc I R
  show wpAny _ _ (boolOp pos .Or [eval a env, eval b env]) _ _ _
  refine wpAny_bind (wpAny_mono (h A env F s ok hsc I R) (fun v s₁ ⟨F₁, G₁, d, O₁, r, t, e, h1, h2⟩ => ?_) fun _ _ x => x)
  subst e; (first | obtain rfl := r.inv | obtain ⟨_, rfl⟩ := r.inv | cases r)
  refine wpAny_bind (wpAny_standAt (wpAny_bind (wpAny_holding (wpAny_truthy_bool ?_))))
  cases t with
  | true => exact wpAny_pure ⟨F₁, G₁, _, O₁, .bool _, h1 rfl⟩
  | false => exact wpAny_mono (h2 rfl A env F₁ s₁ ok hsc O₁.inv (R.nil O₁)) (fun _ _ ⟨F', G', d, O, r, x⟩ => ⟨F', G', d, O₁.trans O, r, x⟩) fun _ _ x => x
end
section
variable {prog : Program} {w : World} {K : Frag} {n : Nat} {sc : Scope} {tab : Tab} {ρ : Loc} {G : GH} {F : FH} {A : Around} {s : Shared} {env : Env}

theorem frame_cell {x : Str} {c : Addr} (h : env.cells.lookup x = some c) : ∀ a ∈ [c], a ∈ frameAddrs env := fun a m => by
  rcases List.mem_cons.mp m with rfl | m
  · exact mem_frame_cell h
  · cases m

theorem AX_name {x : Str} {pos : Pos} {i : Nat} {d : D} {Q : Loc → GH → Prop} (hx : tab.lookup x = some i) (hinj : tab.inj) (q : Q (ρ.set i (some d)) G) : AX prog w K n sc tab ρ G (.Name x pos) d Q := by
  intro A env F s v ok hsc I R hv
  by_cases hl : env.kindOf x = some .local
  · obtain ⟨m, hn, _⟩ := id R.ns
    refine wpAny_assign_Name (wpAny_storeName_local hl hn (fun h' hn' hs' => ⟨F, G, ρ.set i (some d), ?_, R.store hx hinj hl hv hs' hn hn', q⟩) (by rw [R.kind]; rfl))
    refine Out.weaken (Out.other (X := [env.locals]) (h' := h') I (fun a o m e => hs'.extBut a o (fun z => m (z ▸ .head _)) e) (fun a m => ?_) fun a m => ?_) ?_
    · rcases List.mem_cons.mp m with rfl | m
      · obtain ⟨o, _, _, e, _⟩ := hn'; rw [e]; simp
      · cases m
    · rcases List.mem_cons.mp m with rfl | m
      · exact (R.out _ (.head _)).1
      · cases m
    · intro a m
      show a ∈ nameAddrs env (.Name x pos)
      simp only [nameAddrs, if_pos hl]; exact m
  · obtain ⟨k, c, v0, e1, e2, _⟩ := R.cel x i hx hl
    have hc : env.kindOf x = some .cell ∨ env.kindOf x = some .free := k.imp id (·.1)
    have st : wpAny (model prog w) A (cellSet c (some v)) (AP prog w K (.Name x pos) env tab F G s Q) NoE s := by
      refine wpAny_cellSet e2 fun h' hn' hs' => ⟨F, G, ρ.set i (some d), ?_, R.storeC hx hinj hl e1 hv hs' hn', q⟩
      refine Out.weaken (Out.other (X := [c]) (h' := h') (t := s.toks) I (fun a o m e => hs'.extBut a o (fun z => m (z ▸ .head _)) e) (fun a m => ?_) fun a m => ?_) (fun a m => by
        show a ∈ nameAddrs env (.Name x pos)
        simp only [nameAddrs, if_neg hl, e1]; exact m)
      · rcases List.mem_cons.mp m with rfl | m
        · obtain ⟨o, e, _⟩ := hn'; rw [e]; simp
        · cases m
      · rcases List.mem_cons.mp m with rfl | m
        · exact (R.out _ (mem_frame_cell e1)).1
        · cases m
    refine wpAny_assign_Name ?_
    unfold storeName
    rcases hc with hc | hc
    · simp only [hc, R.kind]
      exact wpAny_bind (wpAny_cellOf e1 st)
    · simp only [hc, R.kind]
      exact wpAny_bind (wpAny_cellOf e1 st)

noncomputable def AXs (prog : Program) (w : World) (K : Frag) (n : Nat) (sc : Scope) (tab : Tab) (Q : Loc → GH → Prop) : List Expr → List D → Loc → GH → Prop
  | t :: ts, d :: ds, ρ, G => AX prog w K n sc tab ρ G t d (fun ρ' G' => AXs prog w K n sc tab Q ts ds ρ' G')
  | [], [], ρ, G => Q ρ G
  | _, _, _, _ => False
noncomputable def isName : Expr → Bool
  | .Name .. => true
  | _ => false
theorem assignEach_names : ∀ (ts : List Expr), ts.all isName = true → assignEach ts env = ts.map fun t => (false, assign t env)
  | [], _ => rfl
  | t :: ts, h => by
    simp only [List.all_cons, Bool.and_eq_true] at h
    cases t <;> simp only [isName, Bool.false_eq_true] at h <;> first | (exact h.1.elim) | skip
    show (false, assign _ env) :: assignEach ts env = _
    rw [assignEach_names ts h.2]; rfl
theorem tgt_name {t : Expr} (h : isName t = true) : tgtAddrs env t = nameAddrs env t := by
  cases t <;> first | rfl | (simp [isName] at h)
theorem AXs_go (ok : OkA n A) (hsc : env.scope = sc) {Q : Loc → GH → Prop} : ∀ (ts : List Expr) (ds : List D) (vs : List Value) (ρ : Loc) (F : FH) (G : GH) (s : Shared), ts.all isName = true → Inv prog w K F G s.heap → Fra w env tab ρ F G s.heap → RepAll w.params F ds vs → AXs prog w K n sc tab Q ts ds ρ G →
    wpAny (model prog w) A (assignInOrder (ts.map fun t => assign t env) vs) (XP prog w K (ts.flatMap (nameAddrs env)) env tab F G s Q) NoE s
  | [], [], _, ρ, F, G, s, _, I, R, rv, h => by
    (first | obtain rfl := rv.inv | obtain ⟨_, rfl⟩ := rv.inv | cases rv)
    exact wpAny_pure ⟨F, G, ρ, Out.refl I, R, h⟩
  | t :: ts, d :: ds, _, ρ, F, G, s, hn, I, R, rv, h => by
    simp only [List.all_cons, Bool.and_eq_true] at hn
    cases rv with
    | cons r rs =>
      refine wpAny_bind (wpAny_holding (wpAny_mono (h A env F s _ ok hsc I R r) (fun _ s₁ ⟨F₁, G₁, ρ₁, O₁, R₁, h₁⟩ => ?_) fun _ _ x => x))
      refine wpAny_mono (AXs_go ok hsc ts ds _ ρ₁ F₁ G₁ s₁ hn.2 O₁.inv R₁ (rs.mono O₁.step.mono) h₁) (fun _ s₂ ⟨F₂, G₂, ρ₂, O₂, R₂, h₂⟩ => ?_) fun _ _ x => x
      rw [tgt_name hn.1] at O₁
      rw [List.flatMap_cons]
      exact ⟨F₂, G₂, ρ₂, (O₁.weaken fun a m => List.mem_append_left _ m).trans (O₂.weaken fun a m => List.mem_append_right _ m), R₂, h₂⟩
  | [], _ :: _, _, _, _, _, _, _, _, _, _, h => h.elim
  | _ :: _, [], _, _, _, _, _, _, _, _, _, h => h.elim

theorem toArray_size {α : Type} (l : List α) : l.toArray.size = l.length := by simp
set_option tactic.hygienic true in
theorem AX_tuple {ts : List Expr} {ds : List D} {k : Nat} {pos : Pos} {Q : Loc → GH → Prop} (hn : ts.all isName = true) (hl : ts.length = ds.length) (h : AXs prog w K n sc tab Q ts ds ρ G) : AX prog w K n sc tab ρ G (.Tuple ts k pos) (.tup ds) Q := by
  intro A env F s v ok hsc I R hv
  cases hv with
  | tup ha hs r =>
    rename_i a vs m
    have ht : IsTup s.heap a vs.toArray := ⟨_, I.hF a _ ha, hs.1, hs.2⟩
    have e := assignEach_names (env := env) ts hn
    refine assign_Tuple_tuple ok.1 ht (by rw [e, List.length_map, toArray_size, hl, r.length]) (by rw [e]; simp) fun h' hk => ?_
    rw [e, List.map_map]
    have kp : ∀ a o, s.heap.get? a = some o → h'.get? a = some o := fun a o q => hk a o (Nat.ne_of_lt (Heap.lt_size q)) q
    have O₁ : Out prog w K (tgtAddrs env (.Tuple ts k pos)) F G s F G { s with heap := h' } := Out.nil (Out.other (X := []) (t := s.toks) I (fun a o _ q => kp a o q) (fun _ m => nomatch m) (fun _ m => nomatch m))
    have R₁ : Fra w env tab ρ F G h' := Fra.nil (s' := { s with heap := h' }) R (Out.other (prog := prog) (K := K) (X := []) (t := s.toks) I (fun a o _ q => kp a o q) (fun _ m => nomatch m) (fun _ m => nomatch m))
    refine wpAny_mono (AXs_go (A := A) ok hsc ts ds vs ρ F G { s with heap := h' } hn O₁.inv R₁ r h) (fun _ s₂ ⟨F₂, G₂, ρ₂, O₂, R₂, h₂⟩ => ?_) fun _ _ x => x
    exact ⟨F₂, G₂, ρ₂, O₁.trans O₂, R₂, h₂⟩

theorem SX_nil {Q : Fl → Loc → GH → Prop} (q : Q .next ρ G) : SX prog w K n sc tab ρ G [] Q :=
  fun A env F s _ _ I R => wpAny_execs_nil ⟨F, G, ρ, .next, Out.refl I, R, .next, q⟩
theorem SX_cons {st : Stmt} {rest : List Stmt} {Q : Fl → Loc → GH → Prop} (h : S1 prog w K n sc tab ρ G st (thnQ prog w K n sc tab rest Q)) : SX prog w K n sc tab ρ G (st :: rest) Q := by
  intro A env F s ok hsc I R
  refine wpAny_execs_cons (wpAny_mono (h A env F s ok hsc I R) (fun f s₁ ⟨F₁, G₁, ρ₁, fl, O₁, R₁, fr, h1, h2⟩ => ?_) fun _ _ x => x)
  cases fr with
  | next =>
    refine wpAny_mono (h1 rfl A env F₁ s₁ ok hsc O₁.inv R₁) (fun f s₂ ⟨F₂, G₂, ρ₂, fl, O₂, R₂, fr, q⟩ => ?_) fun _ _ x => x
    exact ⟨F₂, G₂, ρ₂, fl, O₁.trans O₂, R₂, fr, q⟩
  | ret r => exact ⟨F₁, G₁, ρ₁, .ret _, O₁, R₁, .ret r, h2 _ rfl⟩
theorem SX_next {st : Stmt} {rest : List Stmt} {Q : Fl → Loc → GH → Prop} (h : S1 prog w K n sc tab ρ G st (nxsQ prog w K n sc tab rest Q)) : SX prog w K n sc tab ρ G (st :: rest) Q :=
  SX_cons fun A env F s a b c d => wpAny_mono (h A env F s a b c d) (fun _ _ ⟨F₁, G₁, ρ₁, fl, O₁, R₁, fr, e, q⟩ => ⟨F₁, G₁, ρ₁, fl, O₁, R₁, fr, fun _ => q, fun d' e' => by rw [e] at e'; cases e'⟩) fun _ _ x => x
theorem S1.mono {st : Stmt} {Q Q' : Fl → Loc → GH → Prop} (h : S1 prog w K n sc tab ρ G st Q) (q : ∀ f ρ G, Q f ρ G → Q' f ρ G) : S1 prog w K n sc tab ρ G st Q' :=
  fun A env F s a b c d => wpAny_mono (h A env F s a b c d) (fun _ _ ⟨F', G', ρ', fl, O, R, r, x⟩ => ⟨F', G', ρ', fl, O, R, r, q _ _ _ x⟩) fun _ _ x => x

noncomputable def isComp : Expr → Bool
  | .ListComp .. | .SetComp .. | .DictComp .. => true
  | _ => false
theorem swapsWith_plain {value : Expr} {t : Option Expr} {l : Nat} (h : isComp value = false) : swapsWith value t l env = pure false := by
  cases value <;> first | rfl | exact Bool.noConfusion (h : true = false)
theorem S1_assign {t value : Expr} {pos : Pos} {Q : Fl → Loc → GH → Prop} (h : EX prog w K n sc tab ρ G value (asgQ prog w K n sc tab ρ t Q))
    (hs : ∀ env : Env, env.scope = sc → swapsWith value (some t) pos.line env = pure false) (hw : ∀ env : Env, env.scope = sc → swappedStores [t] value env = pure none) (ht : assignEach [t] = fun env => [(false, assign t env)]) : S1 prog w K n sc tab ρ G (.Assign [t] value pos) Q := by
  intro A env F s ok hsc I R
  rw [exec_Assign]
  refine wpAny_bind (wpAny_standAt ?_)
  show wpAny _ _ (swapsWith value (some t) pos.line env >>= _) _ _ _
  refine wpAny_bind (wpAny_of_eq (hs env hsc) ?_)
  simp only [Bool.false_eq_true, if_false]
  refine wpAny_bind (wpAny_mono (h A env F s ok hsc I R) (fun v s₁ ⟨F₁, G₁, d, O₁, r, h₁⟩ => ?_) fun _ _ x => x)
  refine wpAny_bind (wpAny_of_eq (hw env hsc) ?_)
  rw [ht]
  show wpAny _ _ (assign t env v >>= fun _ => (pure Flow.next : Sem Flow)) _ _ _
  refine wpAny_bind (wpAny_mono (h₁ A env F₁ s₁ v ok hsc O₁.inv (R.nil O₁) r) (fun _ s₂ ⟨F₂, G₂, ρ₂, O₂, R₂, q⟩ => ?_) fun _ _ x => x)
  exact wpAny_pure ⟨F₂, G₂, ρ₂, .next, O₁.nil.trans (O₂.weaken (tgtAddrs_sub t)), R₂, .next, q⟩
theorem S1_name {x : Str} {pos' pos : Pos} {value : Expr} {i : Nat} {Q : Fl → Loc → GH → Prop} (hx : tab.lookup x = some i) (hinj : tab.inj) (h : EX prog w K n sc tab ρ G value (setQ ρ i Q)) (hc : isComp value = false := by rfl) :
    S1 prog w K n sc tab ρ G (.Assign [.Name x pos'] value pos) Q :=
  S1_assign (h.mono fun d G₁ q => AX_name hx hinj q) (fun _ _ => swapsWith_plain hc) (fun _ _ => rfl) rfl
theorem S1_expr {e : Expr} {pos : Pos} {Q : Fl → Loc → GH → Prop} (h : EX prog w K n sc tab ρ G e (noneQ ρ Q)) (hc : isComp e = false := by rfl) : S1 prog w K n sc tab ρ G (.Expr e pos) Q := by
  intro A env F s ok hsc I R
  have hi : interactive env = false := by unfold interactive; rw [R.kind]; rfl
  refine wpAny_Expr (wpAny_mono (h A env F s ok hsc I R) (fun v s₁ ⟨F₁, G₁, d, O₁, r, e, q⟩ => ?_) fun _ _ x => x) hi (swapsWith_plain hc)
  subst e; (first | obtain rfl := r.inv | obtain ⟨_, rfl⟩ := r.inv | cases r)
  exact ⟨F₁, G₁, ρ, .next, O₁.nil, R.nil O₁, .next, q⟩
theorem S1_if {t : Expr} {b o : List Stmt} {pos : Pos} {Q : Fl → Loc → GH → Prop} (h : TX prog w K n sc tab ρ G t (ifQ prog w K n sc tab ρ b o Q)) : S1 prog w K n sc tab ρ G (.If t b o pos) Q := by
  intro A env F s ok hsc I R
  refine wpAny_If (wpAny_mono (h A env F s ok hsc I R) (fun c s₁ ⟨F₁, G₁, O₁, h1, h2⟩ => ?_) fun _ _ x => x)
  cases c with
  | true => exact wpAny_mono (h1 rfl A env F₁ s₁ ok hsc O₁.inv (R.nil O₁)) (fun _ _ ⟨F', G', ρ', fl, O, R, r, x⟩ => ⟨F', G', ρ', fl, O₁.nil.trans O, R, r, x⟩) fun _ _ x => x
  | false => exact wpAny_mono (h2 rfl A env F₁ s₁ ok hsc O₁.inv (R.nil O₁)) (fun _ _ ⟨F', G', ρ', fl, O, R, r, x⟩ => ⟨F', G', ρ', fl, O₁.nil.trans O, R, r, x⟩) fun _ _ x => x
theorem S1_return {e : Expr} {pos : Pos} {Q : Fl → Loc → GH → Prop} (h : EX prog w K n sc tab ρ G e (retQ ρ Q)) : S1 prog w K n sc tab ρ G (.Return (some e) pos) Q := by
  intro A env F s ok hsc I R
  exact wpAny_Return_some (wpAny_mono (h A env F s ok hsc I R) (fun v s₁ ⟨F₁, G₁, d, O₁, r, q⟩ => ⟨F₁, G₁, ρ, .ret d, O₁.nil, R.nil O₁, .ret r, q⟩) fun _ _ x => x)

theorem okA_mark {A : Around} (ok : OkA n A) : OkA n (A.mark none) := ⟨ok.1, ok.2.1, ok.2.2⟩

theorem S1_while {t : Expr} {b : List Stmt} {pos : Pos} {Q : Fl → Loc → GH → Prop} (J : Nat → Loc → GH → Prop) (k : Nat) (h0 : J k ρ G)
    (h : ∀ k ρ G, J k ρ G → TX prog w K n sc tab ρ G t (fun c G₁ => (c = true → SX prog w K n sc tab ρ G₁ b (whbQ J k Q)) ∧ (c = false → Q .next ρ G₁))) :
    S1 prog w K n sc tab ρ G (.While t b [] pos) Q := by
  intro A env F s ok hsc I R
  refine wpAny_While (codeAny_whileLoop (fun k => XP prog w K (frameAddrs env) env tab F G s (J k) k) (fun k s' hI => ?_) k ⟨F, G, ρ, Out.refl I, R, h0⟩)
  obtain ⟨F', G', ρ', O', R', hJ⟩ := hI
  refine wpAny_mono (h k ρ' G' hJ A env F' s' ok hsc O'.inv R') (fun c s₁ ⟨F₁, G₁, O₁, h1, h2⟩ => ?_) fun _ _ x => x.elim
  have R₁ := R'.nil O₁
  have O₂ := O'.trans O₁.nil
  cases c with
  | false =>
    simp only [Bool.false_eq_true, if_false]
    exact wpAny_execs_nil ⟨F₁, G₁, ρ', .next, O₂, R₁, .next, h2 rfl⟩
  | true =>
    simp only [if_true]
    refine wpAny_mono (h1 rfl A env F₁ s₁ ok hsc O₁.inv R₁) (fun f s₂ ⟨F₂, G₂, ρ₂, fl, O₃, R₃, r, q1, q2⟩ => ?_) fun _ _ x => x.elim
    cases r with
    | next =>
      obtain ⟨m, hm, hj⟩ := q1 rfl
      exact ⟨m, hm, F₂, G₂, ρ₂, O₂.trans O₃, R₃, hj⟩
    | ret r => exact ⟨F₂, G₂, ρ₂, .ret _, O₂.trans O₃, R₃, .ret r, q2 _ rfl⟩
end
section
variable (prog : Program) (w : World) (K : Frag)
structure Iter (A : Around) (it : Value) (tgt : Expr) (items : List D) (X : List Addr) (F₀ : FH) (St : Nat → Heap → Prop) : Prop where
  frame : ∀ i h h', St i h → (∀ b ∈ X, ∀ o, h.get? b = some o → h'.get? b = some o) → (∀ a o, F₀ a = some o → h.get? a = some o ∧ h'.get? a = some o) → St i h'
  turn : ∀ i d F G s (Q : Value → Shared → Prop), items[i]? = some d → FLe F₀ F → Inv prog w K F G s.heap → (∀ a ∈ X, ¬ Known F G a) → St i s.heap →
    (∀ v F' s', Out prog w K X F G s F' G s' → Rep w.params F' d v → St (i + 1) s'.heap → Q v s') →
    wpAny (model prog w) A (pyNext it) (fun r s₁ => ∃ v, r = some v ∧ wpAny (model prog w) A (letOwnedTupleGo tgt it v) (fun _ s₂ => Q v s₂) (fun _ _ => False) s₁) (fun _ _ => False) s
  done : ∀ F G s (Q : Shared → Prop), FLe F₀ F → Inv prog w K F G s.heap → (∀ a ∈ X, ¬ Known F G a) → St items.length s.heap → (∀ s', Same s s' → (∀ b o, b ∉ X → s.heap.get? b = some o → s'.heap.get? b = some o) → Q s') →
    wpAny (model prog w) A (pyNext it) (fun r s' => r = none ∧ Q s') (fun _ _ => False) s
  self : ∀ i s (Q : Value → Shared → Prop), St i s.heap → Q it s → wpAny (model prog w) A (pyIter it) Q (fun _ _ => False) s

inductive SrcP (A : Around) (tgt : Expr) (F : FH) (G : GH) (s : Shared) (Q : List D → GH → Prop) (it : Value) (s₂ : Shared) : Prop
  | mk (F' : FH) (G' : GH) (X : List Addr) (St : Nat → Heap → Prop) (items : List D) : Out prog w K [] F G s F' G' s₂ → Iter prog w K A it tgt items X F' St → St 0 s₂.heap →
      (∀ a ∈ X, ¬ Known F' G' a ∧ s₂.heap.get? a ≠ none ∧ s.heap.get? a = none) → Q items G' → SrcP A tgt F G s Q it s₂
noncomputable def SRC (n : Nat) (sc : Scope) (tab : Tab) (ρ : Loc) (G : GH) (iter tgt : Expr) (Q : List D → GH → Prop) : Prop :=
  ∀ (A : Around) (env : Env) (F : FH) (s : Shared), OkA n A → env.scope = sc → Inv prog w K F G s.heap → Fra w env tab ρ F G s.heap →
    wpAny (model prog w) A (eval iter env) (fun x s₁ => wpAny (model prog w) A (pyIter x) (SrcP prog w K A tgt F G s Q) NoE s₁) NoE s

noncomputable def ForX (n : Nat) (sc : Scope) (tab : Tab) (tgt : Expr) (body : List Stmt) (Q : Fl → Loc → GH → Prop) : List D → Loc → GH → Prop
  | [], ρ, G => Q .next ρ G
  | d :: ds, ρ, G => AX prog w K n sc tab ρ G tgt d (fun ρ₁ G₁ => SX prog w K n sc tab ρ₁ G₁ body (fun fl ρ₂ G₂ => (fl = .next → ForX n sc tab tgt body Q ds ρ₂ G₂) ∧ ∀ r, fl = .ret r → Q (.ret r) ρ₂ G₂))

inductive ForJ (n : Nat) (sc : Scope) (tab : Tab) (tgt : Expr) (body : List Stmt) (Q : Fl → Loc → GH → Prop) (items : List D) (Y : List Addr) (F₁ : FH) (G₁ : GH) (s₂ : Shared) (env : Env) (St : Nat → Heap → Prop) (k : Nat) (s' : Shared) : Prop
  | mk (i : Nat) (F' : FH) (G' : GH) (ρ' : Loc) : k + i = items.length → Out prog w K Y F₁ G₁ s₂ F' G' s' → Fra w env tab ρ' F' G' s'.heap → St i s'.heap → ForX prog w K n sc tab tgt body Q (items.drop i) ρ' G' → ForJ n sc tab tgt body Q items Y F₁ G₁ s₂ env St k s'

noncomputable def CompX (n : Nat) (sc : Scope) (tab : Tab) (tgt : Expr) (ifs : List Expr) (elt : Expr) (Q : List D → GH → Prop) : List D → List D → Loc → GH → Prop
  | [], acc, _, G => Q acc G
  | d :: ds, acc, ρ, G => AX prog w K n sc tab ρ G tgt d (fun ρ₁ G₁ => match ifs with
      | [] => EX prog w K n sc tab ρ₁ G₁ elt (fun e G₂ => acc.length < 2 ^ 20 ∧ CompX n sc tab tgt ifs elt Q ds (acc ++ [e]) ρ₁ G₂)
      | [t] => TX prog w K n sc tab ρ₁ G₁ t (fun c G₂ => (c = true → EX prog w K n sc tab ρ₁ G₂ elt (fun e G₃ => acc.length < 2 ^ 20 ∧ CompX n sc tab tgt ifs elt Q ds (acc ++ [e]) ρ₁ G₃)) ∧
          (c = false → CompX n sc tab tgt ifs elt Q ds acc ρ₁ G₂))
      | _ => False)
end

section
variable {prog : Program} {w : World} {K : Frag} {n : Nat} {sc : Scope} {tab : Tab} {ρ : Loc} {G : GH} {F : FH} {A : Around} {s : Shared} {env : Env}

theorem Out.drop {X Y : List Addr} {F F' F'' : FH} {G G' G'' : GH} {s s' s'' : Shared} (O : Out prog w K Y F G s F' G' s') (O' : Out prog w K (Y ++ X) F' G' s' F'' G'' s'') (hX : ∀ a ∈ X, s.heap.get? a = none) : Out prog w K Y F G s F'' G'' s'' := by
  have O1 := (O.weaken (Y := Y ++ X) fun a m => List.mem_append_left _ m).trans O'
  refine ⟨O1.same, ⟨fun a o g m e => O1.step.keep a o g (fun q => ?_) e, O1.step.mono, O1.step.dom, O1.step.alive⟩, O1.inv⟩
  rcases List.mem_append.mp q with q | q
  · exact m q
  · rw [hX a q] at e; cases e
theorem unknown_still {X : List Addr} {F F' : FH} {G G' : GH} {s s' : Shared} {a : Addr} (O : Out prog w K X F G s F' G' s') (h : ¬ Known F G a) (e : s.heap.get? a ≠ none) : ¬ Known F' G' a := fun k => by
  rcases O.step.dom a k with z | z
  · exact h z
  · exact e z
theorem G_none {F : FH} {G : GH} {a : Addr} (h : ¬ Known F G a) : G a = none := by
  cases q : G a with
  | none => rfl
  | some c => exact absurd (.inr (by rw [q]; simp)) h

theorem Out.tail {X Y : List Addr} {F F' : FH} {G G' : GH} {s s' s'' : Shared} (O : Out prog w K Y F G s F' G' s') (sm : Same s' s'') (kp : ∀ b o, b ∉ X → s'.heap.get? b = some o → s''.heap.get? b = some o) (hu : ∀ a ∈ X, ¬ Known F' G' a) (hX : ∀ a ∈ X, s.heap.get? a = none) : Out prog w K Y F G s F' G' s'' := by
  refine ⟨O.same.trans sm, ⟨fun a o g m e => kp a o (fun q => ?_) (O.step.keep a o g m e), O.step.mono, O.step.dom, fun a e => ?_⟩, O.inv.keeps fun a o q e => kp a o (fun m => hu a m q) e⟩
  · rw [hX a q] at e; cases e
  · cases z : s'.heap.get? a with
    | none => exact absurd z (O.step.alive a e)
    | some o => rw [kp a o (fun q => e (hX a q)) z]; simp
theorem Fra.tail {X : List Addr} {ρ : Loc} {F : FH} {G : GH} {s s' : Shared} (R : Fra w env tab ρ F G s.heap) (kp : ∀ b o, b ∉ X → s.heap.get? b = some o → s'.heap.get? b = some o) (hX : ∀ a ∈ frameAddrs env, a ∉ X) : Fra w env tab ρ F G s'.heap := by
  obtain ⟨m, hn, hm⟩ := R.ns
  have kp' : ∀ a ∈ frameAddrs env, ∀ o, s.heap.get? a = some o → s'.heap.get? a = some o := fun a q o e => kp a o (hX a q) e
  refine ⟨R.kind, R.glob, R.blt, ⟨m, ns_at hn (kp' _ (.head _)), hm⟩, fun x i a b => ?_, fun a q => ⟨(R.out a q).1, ?_⟩, R.apart, R.off⟩
  · obtain ⟨k, c, v0, e1, e2, e3⟩ := R.cel x i a b
    exact ⟨k, c, v0, e1, cell_at e2 (kp' _ (mem_frame_cell e1)), e3⟩
  · cases z : s.heap.get? a with
    | none => exact absurd z (R.out a q).2
    | some o => rw [kp' a q o z]; simp

theorem drop_get {α : Type} {l : List α} {i : Nat} {d : α} (h : l[i]? = some d) : l.drop i = d :: l.drop (i + 1) := by
  obtain ⟨hi, rfl⟩ := List.getElem?_eq_some_iff.mp h
  exact List.drop_eq_getElem_cons hi

theorem S1_for {tgt iter : Expr} {body : List Stmt} {pos : Pos} {Q : Fl → Loc → GH → Prop} (h : SRC prog w K n sc tab ρ G iter tgt (fun items G₁ => ForX prog w K n sc tab tgt body Q items ρ G₁))
    (hs : ∀ env x, foldedSetIterable iter env x = pure x := by intro _ _; rfl) : S1 prog w K n sc tab ρ G (.For tgt iter body [] pos) Q := by
  intro A env F s ok hsc I R
  refine wpAny_For (wpAny_mono (h A env F s ok hsc I R) (fun x s₁ h₁ => wpAny_mono h₁ (fun it s₂ h₂ => ?_) fun _ _ x => x.elim) fun _ _ x => x.elim) (hs env)
  obtain ⟨F₁, G₁, X, St, items, O₁, T, st, hX, hf⟩ := h₂
  have R₁ := R.nil O₁
  have hXf : ∀ a ∈ frameAddrs env, a ∉ X := fun a m q => (R.out a m).2 (hX a q).2.2
  refine codeAny_forLoop_any (ForJ prog w K n sc tab tgt body Q items (frameAddrs env ++ X) F₁ G₁ s₂ env St)
    (fun k s' hI => ?_) items.length ⟨0, F₁, G₁, ρ, rfl, Out.refl O₁.inv, R₁, st, hf⟩
  obtain ⟨i, F', G', ρ', hk, O', R', st', hf'⟩ := hI
  have hu : ∀ a ∈ X, ¬ Known F' G' a := fun a m => unknown_still O' (hX a m).1 (hX a m).2.1
  by_cases hi : i < items.length
  · have hg : items[i]? = some items[i] := List.getElem?_eq_getElem hi
    rw [drop_get hg] at hf'
    refine wpAny_mono (T.turn i _ F' G' s' (fun v s'' => wpAny (model prog w) A (assign tgt env v) (fun _ s₂' => wpAny (model prog w) A (execs body env) (fun f s₃ => match f with
            | .next | .cont => ∃ m, m < k ∧ ForJ prog w K n sc tab tgt body Q items (frameAddrs env ++ X) F₁ G₁ s₂ env St m s₃
            | .brk => False
            | .ret v => SP prog w K env tab F G s Q (.ret v) s₃) (fun _ _ => False) s₂') (fun _ _ => False) s'') hg O'.step.mono O'.inv hu st' (fun v F₂ s'' O₂ r₂ st₂ => ?_)) (fun r s'' ⟨v, e, q⟩ => ?_) fun _ _ x => x.elim
    · have R₂ := R'.keep O₂ hXf
      refine wpAny_mono (hf' A env F₂ s'' v ok hsc O₂.inv R₂ r₂) (fun _ s₃ ⟨F₃, G₃, ρ₃, O₃0, R₃, hb⟩ => ?_) fun _ _ x => x
      have O₃ := O₃0.weaken (tgtAddrs_sub tgt)
      refine wpAny_mono (hb A env F₃ s₃ ok hsc O₃.inv R₃) (fun f s₄ ⟨F₄, G₄, ρ₄, fl, O₄, R₄, fr, q1, q2⟩ => ?_) fun _ _ x => x
      have O₂' : Out prog w K (frameAddrs env ++ X) F' G' s' F₂ G' s'' := O₂.weaken fun a m => List.mem_append_right _ m
      have O₃' := O₃.trans O₄
      have Oall := (O'.trans O₂').trans (O₃'.weaken (Y := frameAddrs env ++ X) fun a m => List.mem_append_left _ m)
      have st₄ : St (i + 1) s₄.heap := T.frame _ _ _ st₂ (fun b m o e => O₃'.step.keep b o (G_none (unknown_still O₂' (hu b m) (by
          have := O'.step.alive b (hX b m).2.1; exact this))) (fun q => hXf b q m) e) fun a o e => ⟨O₂.inv.hF a o (O₂.step.mono a o (O'.step.mono a o e)), O₃'.inv.hF a o (O₃'.step.mono a o (O₂.step.mono a o (O'.step.mono a o e)))⟩
      cases fr with
      | next => exact ⟨k - 1, by (first | with_reducible assumption | exact Nat.lt_of_lt_of_le (by assumption) (by decide) | exact Nat.lt_of_le_of_lt (by assumption) (by decide) | lia | omega), i + 1, F₄, G₄, ρ₄, by (first | with_reducible assumption | exact Nat.lt_of_lt_of_le (by assumption) (by decide) | exact Nat.lt_of_le_of_lt (by assumption) (by decide) | lia | omega), Oall, R₄, st₄, q1 rfl⟩
      | ret r => exact ⟨F₄, G₄, ρ₄, .ret _, Out.drop O₁.nil Oall fun a m => (hX a m).2.2, R₄, .ret r, q2 _ rfl⟩
    · subst e
      refine wpAny_mono q (fun _ s₃ q => wpAny_mono q (fun _ s₄ q => wpAny_mono q (fun f s₅ q => ?_) fun _ _ x => x.elim) fun _ _ x => x.elim) fun _ _ x => x.elim
      cases f with
      | next => exact q
      | cont => exact q
      | brk => exact q.elim
      | ret v => exact q
  · have e : i = items.length := by (first | with_reducible assumption | exact Nat.lt_of_lt_of_le (by assumption) (by decide) | exact Nat.lt_of_le_of_lt (by assumption) (by decide) | lia | omega)
    subst e
    rw [List.drop_length] at hf'
    refine wpAny_mono (T.done F' G' s' (SP prog w K env tab F G s Q .next) O'.step.mono O'.inv hu st' fun s'' sm kp => ?_) (fun r s'' ⟨e, q⟩ => ?_) fun _ _ x => x.elim
    · have Od := Out.drop O₁.nil O' fun a m => (hX a m).2.2
      exact ⟨F', G', ρ', .next, Od.tail sm kp hu fun a m => (hX a m).2.2, R'.tail kp hXf, .next, hf'⟩
    · subst e
      exact wpAny_execs_nil q

theorem ForX_ind {tgt : Expr} {body : List Stmt} {Q : Fl → Loc → GH → Prop} {items : List D} (J : Nat → Loc → GH → Prop)
    (turn : ∀ i d ρ G, items[i]? = some d → J i ρ G → AX prog w K n sc tab ρ G tgt d (fun ρ₁ G₁ => SX prog w K n sc tab ρ₁ G₁ body (lbQ J i Q)))
    (fin : ∀ ρ G, J items.length ρ G → Q .next ρ G) (h0 : J 0 ρ G) : ForX prog w K n sc tab tgt body Q items ρ G := by
  have go : ∀ (k i : Nat) (ρ : Loc) (G : GH), k + i = items.length → J i ρ G → ForX prog w K n sc tab tgt body Q (items.drop i) ρ G := by
    intro k
    induction k with
    | zero =>
      intro i ρ G e h
      have : i = items.length := by (first | with_reducible assumption | exact Nat.lt_of_lt_of_le (by assumption) (by decide) | exact Nat.lt_of_le_of_lt (by assumption) (by decide) | lia | omega)
      subst this
      rw [List.drop_length]
      exact fin ρ G h
    | succ k ih =>
      intro i ρ G e h
      have hi : i < items.length := by (first | with_reducible assumption | exact Nat.lt_of_lt_of_le (by assumption) (by decide) | exact Nat.lt_of_le_of_lt (by assumption) (by decide) | lia | omega)
      have hg : items[i]? = some items[i] := List.getElem?_eq_getElem hi
      rw [drop_get hg]
      intro A env F s v ok hsc I R r
      refine wpAny_mono (turn i _ ρ G hg h A env F s v ok hsc I R r) (fun _ s₁ ⟨F₁, G₁, ρ₁, O₁, R₁, q⟩ => ⟨F₁, G₁, ρ₁, O₁, R₁, q.mono fun fl ρ₂ G₂ ⟨q1, q2⟩ => ⟨fun e' => ih (i + 1) ρ₂ G₂ (by (first | with_reducible assumption | exact Nat.lt_of_lt_of_le (by assumption) (by decide) | exact Nat.lt_of_le_of_lt (by assumption) (by decide) | lia | omega)) (q1 e'), q2⟩⟩) fun _ _ x => x
  have := go items.length 0 ρ G (by (first | with_reducible assumption | exact Nat.lt_of_lt_of_le (by assumption) (by decide) | exact Nat.lt_of_le_of_lt (by assumption) (by decide) | lia | omega)) h0
  rwa [List.drop_zero] at this

theorem Iter.of_walks {I : Addr} {fp wr : List Addr} {m : Nat} {P : Nat → Value → Prop} {St : Nat → Heap → Prop} {items : List D} {F₀ : FH} {tgt : Expr} (W : Walks prog w A I fp wr m P St) (hm : m = items.length)
    (hP : ∀ i v d, P i v → items[i]? = some d → Rep w.params F₀ d v) (hfp : ∀ b ∈ fp, b ∈ wr ∨ F₀ b ≠ none) (hal : ∀ i h, St i h → ∀ a ∈ wr, h.get? a ≠ none)
    (hgo : ∀ i s v (Q : Unit → Shared → Prop), St i s.heap → Q () s → wpAny (model prog w) A (letOwnedTupleGo tgt (.ref I) v) Q (fun _ _ => False) s) : Iter prog w K A (.ref I) tgt items wr F₀ St where
  frame := fun i h h' st k1 k2 => W.frame i h h' st fun b m o e => by
    rcases hfp b m with q | q
    · exact k1 b q o e
    · cases z : F₀ b with
      | none => exact absurd z q
      | some o' =>
        obtain ⟨z1, z2⟩ := k2 b o' z
        rw [z1] at e; cases e; exact z2
  turn := fun i d F G s Q hi hF I hu st hQ => by
    have hi' : i < m := by rw [hm]; exact (List.getElem?_eq_some_iff.mp hi).1
    refine W.item i s _ _ hi' st fun v h' tk hp st' kp => ⟨v, rfl, hgo (i + 1) _ v _ st' (hQ v F _ (Out.other I (fun a o m e => kp a o m e) (hal _ _ st') hu) ((hP i v d hp hi).mono hF) st')⟩
  done := fun F G s Q hF I hu st hQ => W.done s _ _ (hm ▸ st) fun h' tk kp => ⟨rfl, hQ _ (Same.mk' _ _) kp⟩
  self := fun i s Q st q => W.self i s Q _ st q

theorem push_keep (h : Heap) (o : Obj) : ∀ a o', h.get? a = some o' → (h.push o).get? a = some o' := fun _ _ e => Heap.get?_push_of_some _ e
theorem Out.pushX (I : Inv prog w K F G s.heap) (o : Obj) (t : Tok) : Out prog w K [] F G s F G { s with heap := s.heap.push o, toks := t } :=
  Out.other I (fun a o' _ e => push_keep _ _ a o' e) (fun _ m => nomatch m) (fun _ m => nomatch m)

noncomputable def isPlainTgt : Expr → Bool
  | .Name .. => true
  | .Tuple .. => true
  | _ => false

set_option tactic.hygienic true in
theorem IterOf_list {tgt : Expr} {F' : FH} {G' : GH} {s' : Shared} {ds : List D} {v : Value} {Q : Value → Shared → Prop} (ok : OkA n A) (I : Inv prog w K F' G' s'.heap) (r : Rep w.params F' (.list ds) v) (htgt : isPlainTgt tgt = true)
    (q : ∀ it s₂ X St, Out prog w K [] F' G' s' F' G' s₂ → Iter prog w K A it tgt ds X F' St → St 0 s₂.heap → (∀ a ∈ X, ¬ Known F' G' a ∧ s₂.heap.get? a ≠ none ∧ s'.heap.get? a = none) → Q it s₂) :
    wpAny (model prog w) A (pyIter v) Q (fun _ _ => False) s' := by
  cases r with
  | list ha hr =>
    rename_i a vs m
    have hl : s'.heap.IsList a vs.toArray := ⟨_, I.hF a _ ha, rfl, m, rfl⟩
    have ne : a ≠ s'.heap.objs.size := Nat.ne_of_lt (Heap.lt_size (I.hF a _ ha))
    refine wpAny_pyIter_list hl (q _ _ [s'.heap.objs.size] _ (Out.pushX I _ s'.toks) (Iter.of_walks (St := fun i h => h.IsListIter s'.heap.objs.size a i ∧ h.IsList a vs.toArray) (Walks.list ok.1 s'.heap.objs.size a ne vs.toArray) (by rw [toArray_size, hr.length]) (fun i v d hp hd => ?_) (fun b m => ?_) (fun i h st b m => ?_) fun i s v Q st5 q5 => ?_) ⟨⟨_, Heap.get?_push_size _ rfl, rfl, rfl⟩, hl.push _⟩ fun b m => ?_)
    · obtain ⟨v', e, r⟩ := hr.get hd
      have : vs[i]? = some v := by simpa using hp
      rw [e] at this; cases this; exact r
    · rcases List.mem_cons.mp m with rfl | m
      · exact .inl (.head _)
      · rcases List.mem_cons.mp m with rfl | m
        · exact .inr (by rw [ha]; simp)
        · cases m
    · rcases List.mem_cons.mp m with rfl | m
      · obtain ⟨o, e, _⟩ := st.1; rw [e]; simp
      · cases m
    · cases tgt with
      | Name x p => exact wpAny_pure q5
      | Tuple elts k p =>
        cases v with
        | ref T => exact wpAny_letOwnedTupleGo_listiter st5.1 q5
        | _ => exact wpAny_pure q5
      | _ => exact Bool.noConfusion (htgt : false = true)
    · rcases List.mem_cons.mp m with rfl | m
      · refine ⟨fun k => ?_, ?_, get_size _⟩
        · have f := I.fresh (get_size s'.heap)
          rcases k with k | k
          · exact k f.1
          · exact k f.2
        · rw [Heap.get?_push_size _ rfl]; simp
      · cases m
inductive lstQ (Q : List D → GH → Prop) (d : D) (G₁ : GH) : Prop
  | mk (ds : List D) : d = .list ds → Q ds G₁ → lstQ Q d G₁
theorem SRC_list {iter tgt : Expr} {Q : List D → GH → Prop} (h : EX prog w K n sc tab ρ G iter (lstQ Q)) (htgt : isPlainTgt tgt = true := by rfl) : SRC prog w K n sc tab ρ G iter tgt Q := by
  intro A env F s ok hsc I R
  refine wpAny_mono (h A env F s ok hsc I R) (fun v s₁ ⟨F₁, G₁, d, O₁, r, ds, e, q⟩ => ?_) fun _ _ x => x
  subst e
  refine IterOf_list ok O₁.inv r htgt fun it s₂ X St O₂ T st hX => ⟨F₁, G₁, X, St, ds, O₁.trans O₂, T, st, fun a m => ⟨(hX a m).1, (hX a m).2.1, ?_⟩, q⟩
  cases z : s.heap.get? a with
  | none => rfl
  | some o => exact absurd (hX a m).2.2 (O₁.step.alive a (by rw [z]; simp))

set_option tactic.hygienic true in
theorem IterOf_tup {tgt : Expr} {F' : FH} {G' : GH} {s' : Shared} {ds : List D} {v : Value} {Q : Value → Shared → Prop} (ok : OkA n A) (I : Inv prog w K F' G' s'.heap) (r : Rep w.params F' (.tup ds) v) (htgt : isName tgt = true)
    (q : ∀ it s₂ X St, Out prog w K [] F' G' s' F' G' s₂ → Iter prog w K A it tgt ds X F' St → St 0 s₂.heap → (∀ a ∈ X, ¬ Known F' G' a ∧ s₂.heap.get? a ≠ none ∧ s'.heap.get? a = none) → Q it s₂) :
    wpAny (model prog w) A (pyIter v) Q (fun _ _ => False) s' := by
  cases r with
  | tup ha hs hr =>
    rename_i a vs o
    have hl : s'.heap.IsTuple a vs.toArray := ⟨_, I.hF a _ ha, hs.1, hs.2⟩
    have ne : a ≠ s'.heap.objs.size := Nat.ne_of_lt (Heap.lt_size (I.hF a _ ha))
    refine wpAny_pyIter_tuple hl (q _ _ [s'.heap.objs.size] _ (Out.pushX I _ s'.toks) (Iter.of_walks (St := fun i h => h.IsTupleIter s'.heap.objs.size a i ∧ h.IsTuple a vs.toArray) (Walks.tuple ok.1 s'.heap.objs.size a ne vs.toArray) (by rw [toArray_size, hr.length]) (fun i v d hp hd => ?_) (fun b m => ?_) (fun i h st b m => ?_) fun i s v Q st5 q5 => ?_) ⟨⟨_, Heap.get?_push_size _ rfl, rfl, rfl⟩, ⟨_, Heap.get?_push_of_some _ (I.hF a _ ha), hs.1, hs.2⟩⟩ fun b m => ?_)
    · obtain ⟨v', e, r⟩ := hr.get hd
      have : vs[i]? = some v := by simpa using hp
      rw [e] at this; cases this; exact r
    · rcases List.mem_cons.mp m with rfl | m
      · exact .inl (.head _)
      · rcases List.mem_cons.mp m with rfl | m
        · exact .inr (by rw [ha]; simp)
        · cases m
    · rcases List.mem_cons.mp m with rfl | m
      · obtain ⟨o, e, _⟩ := st.1; rw [e]; simp
      · cases m
    · cases tgt with
      | Name x p => exact wpAny_pure q5
      | _ => simp [isName] at htgt
    · rcases List.mem_cons.mp m with rfl | m
      · refine ⟨fun k => ?_, ?_, get_size _⟩
        · have f := I.fresh (get_size s'.heap)
          rcases k with k | k
          · exact k f.1
          · exact k f.2
        · rw [Heap.get?_push_size _ rfl]; simp
      · cases m
theorem SRC_tup {iter tgt : Expr} {Q : List D → GH → Prop} (h : EX prog w K n sc tab ρ G iter (fun d G₁ => ∃ ds, d = .tup ds ∧ Q ds G₁)) (htgt : isName tgt = true := by rfl) : SRC prog w K n sc tab ρ G iter tgt Q := by
  intro A env F s ok hsc I R
  refine wpAny_mono (h A env F s ok hsc I R) (fun v s₁ ⟨F₁, G₁, d, O₁, r, ds, e, q⟩ => ?_) fun _ _ x => x
  subst e
  refine IterOf_tup ok O₁.inv r htgt fun it s₂ X St O₂ T st hX => ⟨F₁, G₁, X, St, ds, O₁.trans O₂, T, st, fun a m => ⟨(hX a m).1, (hX a m).2.1, ?_⟩, q⟩
  cases z : s.heap.get? a with
  | none => rfl
  | some o => exact absurd (hX a m).2.2 (O₁.step.alive a (by rw [z]; simp))
end
section
variable (prog : Program) (w : World) (K : Frag)
noncomputable def EXs (n : Nat) (sc : Scope) (tab : Tab) (ρ : Loc) (Q : List D → GH → Prop) : List Expr → List D → GH → Prop
  | [], acc, G => Q acc G
  | e :: es, acc, G => EX prog w K n sc tab ρ G e (fun d G' => EXs n sc tab ρ Q es (acc ++ [d]) G')
end
noncomputable def notStar : Expr → Bool
  | .Starred .. => false
  | _ => true
noncomputable def CalleeIs (sc : Scope) (K : Frag) (x : Str) (v : Value) : Prop :=
  sc.names.lookup x = some .globalImplicit ∧ (nsIn K mainGlobals x = some (some v) ∨ (nsIn K mainGlobals x = some none ∧ nsIn K builtinsNs x = some (some v))) ∧ (x == ("__debug__" : Str)) = false
noncomputable def Keepy (K : Frag) (v : Value) : Prop := ∀ (M : Model) (h : Heap), K.In h → ∃ k, (k = Keeper.frame ∨ k = Keeper.machine ∨ k = Keeper.boundFrame) ∧ Looks M h (keeperOf v) k
theorem Keepy.type {K : Frag} (T : String) : Keepy K (.type T) := fun _ _ _ => ⟨.machine, .inr (.inl rfl), Looks.of_pure rfl⟩
theorem Keepy.builtin {K : Frag} (T : String) : Keepy K (.builtin T) := fun _ _ _ => ⟨.machine, .inr (.inl rfl), Looks.of_pure rfl⟩
theorem Keepy.of {K : Frag} {v : Value} (h : keepIn K v = true) : Keepy K v := fun M hp X => keeps_K (M := M) h hp X

section
variable {prog : Program} {w : World} {K : Frag} {n : Nat} {sc : Scope} {tab : Tab} {ρ : Loc} {G : GH} {F : FH} {A : Around} {s : Shared} {env : Env}

theorem starEach_plain {e : Expr} {es : List Expr} (h : notStar e = true) : starEach (e :: es) env = (false, eval e env) :: starEach es env := by
  cases e <;> first | rfl | exact Bool.noConfusion (h : false = true)
theorem EXs_go (ok : OkA n A) (hsc : env.scope = sc) {pos : Pos} {Q : List D → GH → Prop} {F₀ : FH} {G₀ : GH} {s₀ : Shared} : ∀ (es : List Expr) (acc : List D) (vs₀ : List Value) (F : FH) (G : GH) (s : Shared), es.all notStar = true → Out prog w K [] F₀ G₀ s₀ F G s → Fra w env tab ρ F G s.heap → RepAll w.params F acc vs₀ →
    EXs prog w K n sc tab ρ Q es acc G →
    wpAny (model prog w) A (spliced (backTo pos (starEach es env))) (LP prog w K F₀ G₀ s₀ vs₀ Q) NoE s
  | [], acc, vs₀, F, G, s, _, O, R, ra, h => spliced_none ⟨F, G, acc, O, by rw [List.append_nil]; exact ra, h⟩
  | e :: es, acc, vs₀, F, G, s, hst, O, R, ra, h => by
    simp only [List.all_cons, Bool.and_eq_true] at hst
    refine spliced_more (wpAny_mono (h A env F s ok hsc O.inv R) (fun v s₁ ⟨F₁, G₁, d, O₁, r, q⟩ => ?_) fun _ _ x => x) (starEach_plain hst.1)
    refine wpAny_mono (EXs_go ok hsc es (acc ++ [d]) (vs₀ ++ [v]) F₁ G₁ s₁ hst.2 (O.trans O₁) (R.nil O₁) ((ra.mono O₁.step.mono).append (.cons r .nil)) q) (fun vs s₂ ⟨F₂, G₂, ds, O₂, r₂, q⟩ => ?_) fun _ _ x => x
    exact ⟨F₂, G₂, ds, O₂, by rw [List.append_assoc] at r₂; exact r₂, q⟩
theorem EXs_start (ok : OkA n A) (hsc : env.scope = sc) {pos : Pos} {Q : List D → GH → Prop} {es : List Expr} (hst : es.all notStar = true) (I : Inv prog w K F G s.heap) (R : Fra w env tab ρ F G s.heap) (h : EXs prog w K n sc tab ρ Q es [] G) :
    wpAny (model prog w) A (spliced (backTo pos (starEach es env))) (LP prog w K F G s [] Q) NoE s :=
  wpAny_mono (EXs_go ok hsc es [] [] F G s hst (Out.refl I) R .nil h) (fun _ _ x => x) fun _ _ x => x

theorem size_ok {l : List Value} {ds : List D} (r : RepAll w.params F ds l) (h : ds.length < 2 ^ 20) : l.length ≤ sizeLine := by
  rw [← r.length, sizeLine_eq]; (first | with_reducible assumption | exact Nat.lt_of_lt_of_le (by assumption) (by decide) | exact Nat.lt_of_le_of_lt (by assumption) (by decide) | lia | omega)

noncomputable abbrev mkQ (f : List D → D) (Q : D → GH → Prop) : List D → GH → Prop := fun ds G' => ds.length < 2 ^ 20 ∧ Q (f ds) G'
noncomputable abbrev mkG (Q : D → GH → Prop) : List D → GH → Prop := fun ds G' => ds.length < 2 ^ 20 ∧ ∀ a, G' a = none → Q (.ref a) (G'.put a (.list ds))
noncomputable abbrev calQ (prog : Program) (w : World) (K : Frag) (n : Nat) (f : List Value → Sem Value) (Q : D → GH → Prop) : List D → GH → Prop := fun ds G' => OP prog w K n G' ds f Q
theorem EX_tuple {es : List Expr} {k : Nat} {pos : Pos} {Q : D → GH → Prop} (h : EXs prog w K n sc tab ρ (mkQ .tup Q) es [] G) (hst : es.all notStar = true := by rfl) : EX prog w K n sc tab ρ G (.Tuple es k pos) Q := by
  intro A env F s ok hsc I R
  refine Tuple_ (wpAny_mono (EXs_start ok hsc hst I R h) (fun vs s₁ ⟨F₁, G₁, ds, O₁, r, hl, q⟩ => ?_) fun _ _ x => x)
  have O₂ := Out.newF O₁.inv { cls := .type "tuple", data := .seq vs.toArray }
  exact wpAny_newTuple ⟨_, G₁, .tup ds, O₁.trans O₂, .tup FH.put_self ⟨rfl, 0, rfl⟩ (r.mono O₂.step.mono), q⟩ (size_ok r hl)
theorem EX_listF {es : List Expr} {pos : Pos} {Q : D → GH → Prop} (h : EXs prog w K n sc tab ρ (mkQ .list Q) es [] G) (hst : es.all notStar = true := by rfl) : EX prog w K n sc tab ρ G (.List es pos) Q := by
  intro A env F s ok hsc I R
  refine List_ (wpAny_mono (EXs_start ok hsc hst I R h) (fun vs s₁ ⟨F₁, G₁, ds, O₁, r, hl, q⟩ => ?_) fun _ _ x => x)
  have O₂ := Out.newF O₁.inv { cls := .type "list", data := .seq vs.toArray }
  exact wpAny_newList ⟨_, G₁, .list ds, O₁.trans O₂, .list (n := 0) FH.put_self (r.mono O₂.step.mono), q⟩ (size_ok r hl)
theorem EX_listG {es : List Expr} {pos : Pos} {Q : D → GH → Prop} (h : EXs prog w K n sc tab ρ (mkG Q) es [] G) (hst : es.all notStar = true := by rfl) : EX prog w K n sc tab ρ G (.List es pos) Q := by
  intro A env F s ok hsc I R
  refine List_ (wpAny_mono (EXs_start ok hsc hst I R h) (fun vs s₁ ⟨F₁, G₁, ds, O₁, r, hl, q⟩ => ?_) fun _ _ x => x)
  have O₂ := Out.newG (c := .list ds) O₁.inv (o := { cls := .type "list", data := .seq vs.toArray }) (CellRel.list (n := 0) r)
  exact wpAny_newList ⟨F₁, _, .ref _, O₁.trans O₂, .ref _, q _ (O₁.inv.fresh (get_size _)).2⟩ (size_ok r hl)

theorem eval_callee {x : Str} {p : Pos} {v : Value} {Q : Value → Shared → Prop} (hc : CalleeIs env.scope K x v) (I : Inv prog w K F G s.heap) (R : Fra w env tab ρ F G s.heap) (q : Q v s) : wpAny (model prog w) A (eval (.Name x p) env) Q (fun _ _ => False) s := by
  rcases hc.2.1 with g | ⟨g, b⟩
  · exact VX_glob hc.1 g I R q hc.2.2
  · exact VX_blt hc.1 g b I R q hc.2.2
theorem noStars {pos : Pos} : ∀ es : List Expr, es.all notStar = true → (backTo pos (starEach es env)).any (·.1) = false
  | [], _ => rfl
  | e :: es, h => by
    simp only [List.all_cons, Bool.and_eq_true] at h
    rw [starEach_plain h.1]
    show (false || (backTo pos (starEach es env)).any (·.1)) = false
    rw [noStars es h.2]; rfl
theorem callWith_EXs {f : Value} {first : List Value} {pos : Pos} {es : List Expr} {Q : List D → GH → Prop} {R : Value → Shared → Prop} (hk : Keepy K f) (hst : es.all notStar = true) (ok : OkA n A) (hsc : env.scope = sc) (I : Inv prog w K F G s.heap) (Rf : Fra w env tab ρ F G s.heap)
    (h : EXs prog w K n sc tab ρ Q es [] G) (k : ∀ F' G' ds vs s', Out prog w K [] F G s F' G' s' → RepAll w.params F' ds vs → Q ds G' → wpAny (model prog w) A (call f (first ++ vs)) R (fun _ _ => False) s') :
    wpAny (model prog w) A (callWith pos f first (backTo pos (starEach es env)) []) R (fun _ _ => False) s := by
  refine callWith_of (P := fun h => K.In h) (by rw [noStars es hst]; rfl) (fun h X => hk _ h X) ?_
  cases es with
  | nil => exact evalArgs_nil3 ⟨I.kIn, k F G [] [] s (Out.refl I) .nil h⟩
  | cons e es =>
    have e0 := EXs_start (pos := pos) ok hsc hst I Rf h
    simp only [List.all_cons, Bool.and_eq_true] at hst
    rw [starEach_plain hst.1] at e0 ⊢
    exact evalArgs_plain (wpAny_mono e0 (fun vs s' ⟨F', G', ds, O, r, q⟩ => ⟨O.inv.kIn, k F' G' ds vs s' O r q⟩) fun _ _ x => x)

theorem EX_call {x : Str} {p pos : Pos} {es : List Expr} {v : Value} {Q : D → GH → Prop} (hc : CalleeIs sc K x v) (hk : Keepy K v) (h : EXs prog w K n sc tab ρ (calQ prog w K n (fun vs => call v vs) Q) es [] G) (hst : es.all notStar = true := by rfl) :
    EX prog w K n sc tab ρ G (.Call (.Name x p) es [] pos) Q := by
  intro A env F s ok hsc I R
  subst hsc
  show wpAny _ _ (eval (.Name x p) env >>= fun f => callWith pos f [] (backTo pos (starEach es env)) []) _ _ _
  refine wpAny_bind (eval_callee hc I R ?_)
  refine callWith_EXs hk hst ok rfl I R h fun F' G' ds vs s' O r q => ?_
  exact wpAny_mono (q A F' s' vs ok O.inv r) (fun _ _ ⟨F₂, G₂, d, O₂, r, q⟩ => ⟨F₂, G₂, d, O.trans O₂, r, q⟩) fun _ _ x => x

set_option tactic.hygienic true in
theorem SRC_range {x : Str} {p pos : Pos} {e tgt : Expr} {Q : List D → GH → Prop} (hc : CalleeIs sc K x (.type "range")) (h : EX prog w K n sc tab ρ G e (fun d G' => ∃ k : Nat, d = .int k ∧ k < 2 ^ 20 ∧ Q ((List.range k).map fun i => D.int (i : Nat)) G')) (htgt : isName tgt = true := by rfl) (hst : notStar e = true := by rfl) :
    SRC prog w K n sc tab ρ G (.Call (.Name x p) [e] [] pos) tgt Q := by
  intro A env F s ok hsc I R
  subst hsc
  show wpAny _ _ (eval (.Name x p) env >>= fun f => callWith pos f [] (backTo pos (starEach [e] env)) []) _ _ _
  refine wpAny_bind (eval_callee hc I R ?_)
  refine callWith_EXs (Q := fun ds G' => ∃ d, ds = [d] ∧ ∃ k : Nat, d = .int k ∧ k < 2 ^ 20 ∧ Q ((List.range k).map fun i => D.int (i : Nat)) G') (.type _) (by simp [hst]) ok rfl I R (h.mono fun d G' q => ⟨d, rfl, q⟩) fun F' G' ds vs s' O r ⟨d, e1, k, e2, hk, q⟩ => ?_
  subst e1; subst e2
  cases r with
  | cons r1 r2 =>
    (first | obtain rfl := r2.inv | obtain ⟨_, rfl⟩ := r2.inv | cases r2)
    (first | obtain rfl := r1.inv | obtain ⟨_, rfl⟩ := r1.inv | cases r1)
    rename_i t
    refine call_range_1 ?_
    have hr := IsRange.new s'.heap 0 (k : Int) 1 s'.toks t (s'.toks + 1)
    have hsz : Builtin.Range.rangeSize 0 (k : Int) 1 = (k : Int) := by rw [rangeSize_one]; split <;> lia
    have hsm : Builtin.Range.small 0 (k : Int) 1 = true := small_one (by (first | with_reducible assumption | exact Nat.lt_of_lt_of_le (by assumption) (by decide) | exact Nat.lt_of_le_of_lt (by assumption) (by decide) | lia | omega)) (by (first | with_reducible assumption | exact Nat.lt_of_lt_of_le (by assumption) (by decide) | exact Nat.lt_of_le_of_lt (by assumption) (by decide) | lia | omega)) (by (first | with_reducible assumption | exact Nat.lt_of_lt_of_le (by assumption) (by decide) | exact Nat.lt_of_le_of_lt (by assumption) (by decide) | lia | omega)) (by (first | with_reducible assumption | exact Nat.lt_of_lt_of_le (by assumption) (by decide) | exact Nat.lt_of_le_of_lt (by assumption) (by decide) | lia | omega))
    refine wpAny_pyIter_range hr hsm ?_
    have O₁ := Out.pushX O.inv { cls := .type "range", data := .fields #[.int 0 s'.toks, .int k t, .int 1 (s'.toks + 1)] } (s'.toks + 1 + 1)
    have O₂ := Out.pushX O₁.inv { cls := .type "range_iterator", data := .fields #[rawInt 0, rawInt (Builtin.Range.rangeSize 0 k 1), rawInt 1] } (s'.toks + 1 + 1)
    refine ⟨F', G', _, _, _, O.trans (O₁.trans O₂), Iter.of_walks (Walks.range ok.1 _ 0 1 k) (by simp) (fun i v d hp hd => ?_) (fun b m => .inl m) (fun i h st b m => ?_) fun i s v Q st5 q5 => ?_, ?_, fun b m => ?_, q⟩
    · obtain ⟨t, rfl⟩ := hp
      simp only [List.getElem?_map, Option.map_eq_some_iff] at hd
      obtain ⟨j, e1, rfl⟩ := hd
      have : j = i := by
        have := (List.getElem?_eq_some_iff.mp e1).2
        simpa using this.symm
      subst this
      rw [Int.zero_add, Int.mul_one]
      exact .int _ _
    · rcases List.mem_cons.mp m with rfl | m
      · rw [show h.get? _ = _ from st]; simp
      · cases m
    · cases tgt with
      | Name x p => exact wpAny_pure q5
      | _ => simp [isName] at htgt
    · show IsRangeIter _ _ _ _ _
      have := Heap.get?_push_size (s'.heap.push { cls := .type "range", data := .fields #[.int 0 s'.toks, .int k t, .int 1 (s'.toks + 1)] }) (o := { cls := .type "range_iterator", data := .fields #[rawInt 0, rawInt (Builtin.Range.rangeSize 0 k 1), rawInt 1] }) rfl
      rw [hsz] at this ⊢
      simpa [rawInt, IsRangeIter] using this
    · rcases List.mem_cons.mp m with rfl | m
      · refine ⟨fun kn => ?_, ?_, ?_⟩
        · have f := O₁.inv.fresh (get_size _)
          rcases kn with kn | kn
          · exact kn f.1
          · exact kn f.2
        · rw [Heap.get?_push_size _ rfl]; simp
        · cases z : s.heap.get? _ with
          | none => rfl
          | some o =>
            exfalso
            have := (O.trans O₁).step.alive _ (by rw [z]; simp)
            exact this (get_size _)
      · cases m
end
section
variable {prog : Program} {w : World} {K : Frag} {n : Nat} {sc : Scope} {tab : Tab} {ρ : Loc} {G : GH} {F : FH} {A : Around} {s : Shared} {env : Env}

theorem Inv.addF {h : Heap} (I : Inv prog w K F G h) {T : Addr} {o : Obj} (f : F T = none) (g : G T = none) (e : h.get? T = some o) : Inv prog w K (F.put T o) G h := by
  refine ⟨fun a o' q => FH.le_put f _ _ (I.kF a o' q), fun a o' q => ?_, fun a c q => ?_, fun a q => ?_⟩
  · by_cases m : a = T
    · subst m; rw [FH.put_self] at q; cases q; exact e
    · rw [FH.put_ne m] at q; exact I.hF a o' q
  · obtain ⟨o', ho', r⟩ := I.hG a c q
    exact ⟨o', ho', r.mono (FH.le_put f)⟩
  · by_cases m : a = T
    · subst m; exact g
    · rw [FH.put_ne m] at q; exact I.ap a q
theorem Out.addF {X : List Addr} {F' : FH} {G' : GH} {s' : Shared} (O : Out prog w K X F G s F' G' s') {T : Addr} {o : Obj} (hT : s.heap.get? T = none) (f : F' T = none) (g : G' T = none) (e : s'.heap.get? T = some o) : Out prog w K X F G s (F'.put T o) G' s' := by
  refine ⟨O.same, ⟨O.step.keep, O.step.mono.trans (FH.le_put f), fun a k => ?_, O.step.alive⟩, O.inv.addF f g e⟩
  by_cases m : a = T
  · subst m; exact .inr hT
  · rcases k with k | k
    · rw [FH.put_ne m] at k; exact O.step.dom a (.inl k)
    · exact O.step.dom a (.inr k)

set_option tactic.hygienic true in
theorem SRC_enum {x : Str} {p pos : Pos} {e : Expr} {elts : List Expr} {k : Nat} {tp : Pos} {Q : List D → GH → Prop} (hc : CalleeIs sc K x (.type "enumerate"))
    (h : EX prog w K n sc tab ρ G e (fun d G' => ∃ ds, d = .list ds ∧ Q (ds.mapIdx fun i d => .tup [.int (i : Nat), d]) G')) (hst : notStar e = true := by rfl) :
    SRC prog w K n sc tab ρ G (.Call (.Name x p) [e] [] pos) (.Tuple elts k tp) Q := by
  intro A env F s ok hsc I R
  subst hsc
  show wpAny _ _ (eval (.Name x p) env >>= fun f => callWith pos f [] (backTo pos (starEach [e] env)) []) _ _ _
  refine wpAny_bind (eval_callee hc I R ?_)
  refine callWith_EXs (Q := fun ds G' => ∃ d, ds = [d] ∧ ∃ ds, d = .list ds ∧ Q (ds.mapIdx fun i d => .tup [.int (i : Nat), d]) G') (.type _) (by simp [hst]) ok rfl I R (h.mono fun d G' q => ⟨d, rfl, q⟩) fun F' G' ds vs s' O r ⟨d, e1, dl, e2, q⟩ => ?_
  subst e1; subst e2
  cases r with
  | cons r1 r2 =>
    (first | obtain rfl := r2.inv | obtain ⟨_, rfl⟩ := r2.inv | cases r2)
    cases r1 with
    | list ha hr =>
    rename_i a vl m
    have hl := O.inv.hF a _ ha
    refine call_enumerate_1 hl fun h' he hit hsz hk => ?_
    refine wpAny_pyIter_enum he ?_
    have lt := Heap.lt_size hl
    have W := WalksT.enumerate (prog := prog) (w := w) (A := A) ok.1 (s'.heap.objs.size + 1) s'.heap.objs.size a (Nat.succ_ne_self _) (Nat.ne_of_lt (Nat.lt_succ_of_lt lt)) (Nat.ne_of_lt lt) vl.toArray
    have O₁ : Out prog w K [] F' G' s' F' G' { s' with heap := h' } := Out.other (X := []) (t := s'.toks) O.inv (fun a o _ e => hk a o e) (fun _ m => nomatch m) (fun _ m => nomatch m)
    have hil : h'.IsList a vl.toArray := ⟨_, hk _ _ hl, rfl, m, rfl⟩
    have al : ∀ (i : Nat) (h : Heap), ((∃ old, IsEnum h (s'.heap.objs.size + 1) s'.heap.objs.size (i : Nat) old) ∧ h.IsListIter s'.heap.objs.size a i ∧ h.IsList a vl.toArray) → ∀ b ∈ [s'.heap.objs.size + 1, s'.heap.objs.size], h.get? b ≠ none := fun i h st b m => by
      rcases List.mem_cons.mp m with rfl | m
      · obtain ⟨old, e⟩ := st.1; rw [show h.get? _ = _ from e]; simp
      · rcases List.mem_cons.mp m with rfl | m
        · obtain ⟨o, e, _⟩ := st.2.1; rw [e]; simp
        · cases m
    refine ⟨F', G', [s'.heap.objs.size + 1, s'.heap.objs.size], _, _, O.trans O₁, ⟨fun i h1 h2 st k1 k2 => W.frame i h1 h2 st fun b m o e => ?_, fun i d F₂ G₂ s₂ Q' hi hF I₂ hu st hQ => ?_, fun F₂ G₂ s₂ Q' hF I₂ hu st hQ => ?_, fun i s₂ Q' st q' => W.self i s₂ Q' _ st q'⟩, ⟨⟨_, he⟩, hit, hil⟩, fun b m => ?_, q⟩
    · rcases List.mem_cons.mp m with rfl | m
      · exact k1 _ (.head _) o e
      · rcases List.mem_cons.mp m with rfl | m
        · exact k1 _ (.tail _ (.head _)) o e
        · rcases List.mem_cons.mp m with rfl | m
          · obtain ⟨z1, z2⟩ := k2 _ _ ha
            rw [z1] at e; cases e; exact z2
          · cases m
    · have hi' : i < vl.toArray.size := by
        have := (List.getElem?_eq_some_iff.mp hi).1
        rw [List.length_mapIdx] at this
        rw [toArray_size, ← hr.length]; exact this
      refine W.item i s₂ _ _ hi' st fun T vals h₃ tk hp hT hTt mid kp => ⟨_, rfl, ?_⟩
      refine W.go elts k tp i T _ _ _ mid fun h₄ st4 kp4 => ?_
      have hTw := W.apart i T h₃ mid
      have hTn : s₂.heap.get? T = none := by
        cases z : s₂.heap.get? T with
        | none => rfl
        | some o => exact absurd (Heap.lt_size z) (Nat.not_lt.mpr hT)
      obtain ⟨o, eo, co, mo, dd0⟩ := hTt
      have f := I₂.fresh hTn
      have Oa : Out prog w K [s'.heap.objs.size + 1, s'.heap.objs.size] F₂ G₂ s₂ F₂ G₂ { s₂ with heap := h₄, toks := tk } := Out.other I₂ (fun b o m e => kp4 b o m (kp b o m e)) (al (i + 1) h₄ st4) hu
      have Ob := Oa.addF hTn f.1 f.2 (kp4 T o hTw eo)
      obtain ⟨t, x, hx, hv⟩ := hp
      simp only [List.getElem?_mapIdx, Option.map_eq_some_iff] at hi
      obtain ⟨d', hd, rfl⟩ := hi
      obtain ⟨v', e1, r'⟩ := hr.get hd
      have e2 : vl[i]? = some x := by simpa using hx
      obtain rfl : v' = x := by rw [e1] at e2; exact Option.some.inj e2
      refine hQ _ _ _ Ob (.tup (vs := [.int (i : Nat) t, v']) FH.put_self ⟨co, mo, by rw [dd0, hv]⟩ (.cons (.int _ _) (.cons ((r'.mono hF).mono Ob.step.mono) .nil))) st4
    · have e : (dl.mapIdx fun i d => D.tup [.int (i : Nat), d]).length = vl.toArray.size := by rw [List.length_mapIdx, toArray_size, hr.length]
      rw [e] at st
      exact W.done s₂ _ _ st fun h₃ tk kp => ⟨rfl, hQ _ (Same.mk' _ _) kp⟩
    · have al0 := al 0 h' ⟨⟨_, he⟩, hit, hil⟩ b m
      have bn : s'.heap.get? b = none := by
        cases z : s'.heap.get? b with
        | none => rfl
        | some o =>
          have lz := Heap.lt_size z
          rcases List.mem_cons.mp m with rfl | m
          · exact absurd lz (Nat.not_lt.mpr (Nat.le_succ _))
          · rcases List.mem_cons.mp m with rfl | m
            · exact absurd lz (Nat.lt_irrefl _)
            · cases m
      have f := O.inv.fresh bn
      refine ⟨fun kn => ?_, al0, ?_⟩
      · rcases kn with kn | kn
        · exact kn f.1
        · exact kn f.2
      · cases z : s.heap.get? b with
        | none => rfl
        | some o => exact absurd bn (O.step.alive b (by rw [z]; simp))
end
inductive ValsRel (P : Params) (F : FH) : List (Int × D) → List (Int × Value) → Prop
  | nil : ValsRel P F [] []
  | cons {i : Int} {d : D} {v : Value} {r : List (Int × D)} {q : List (Int × Value)} : Rep P F d v → ValsRel P F r q → ValsRel P F ((i, d) :: r) ((i, v) :: q)

section
variable {prog : Program} {w : World} {K : Frag} {n : Nat} {sc : Scope} {tab : Tab} {ρ : Loc} {G : GH} {F : FH} {A : Around} {s : Shared} {env : Env}

theorem ValsRel.mono {P : Params} {F F' : FH} (h : FLe F F') : ∀ {kvs : List (Int × D)} {q : List (Int × Value)}, ValsRel P F kvs q → ValsRel P F' kvs q
  | _, _, .nil => .nil
  | _, _, .cons r x => .cons (r.mono h) (x.mono h)
theorem ValsRel.keys {P : Params} {F : FH} : ∀ {kvs : List (Int × D)} {q : List (Int × Value)}, ValsRel P F kvs q → q.map (·.1) = kvs.map (·.1)
  | _, _, .nil => rfl
  | _, _, .cons r x => by simp only [List.map_cons, x.keys]
theorem ValsRel.length {P : Params} {F : FH} {kvs : List (Int × D)} {q : List (Int × Value)} (h : ValsRel P F kvs q) : q.length = kvs.length := by
  have := congrArg List.length h.keys
  simpa using this
theorem isInt_self (i : Int) (t : Tok) : (intKind prog w).is i (.int i t) = true := by show Value.isInt i (.int i t) = true; simp [Value.isInt]
theorem RepKv.pairs (prog : Program) : ∀ {kvs : List (Int × D)} {es : List DictEntry}, RepKv w.params F kvs es → ∃ q, ValsRel w.params F kvs q ∧ Pairs (intKind prog w) es q ∧ ∀ e ∈ es, ∃ k, (intKind prog w).is k e.key = true ∧ e.hash = (intKind prog w).hash k
  | _, _, .nil => ⟨[], .nil, .nil, fun _ m => nomatch m⟩
  | _, _, .cons (i := i) (t := t) r x => by
    obtain ⟨q, a, b, c⟩ := x.pairs prog
    refine ⟨(i, _) :: q, .cons r a, .cons (isInt_self i t) rfl b, fun e m => ?_⟩
    rcases List.mem_cons.mp m with rfl | m
    · exact ⟨i, isInt_self i t, rfl⟩
    · exact c e m
theorem pairs_rep : ∀ {kvs : List (Int × D)} {q : List (Int × Value)} {es : List DictEntry}, ValsRel w.params F kvs q → Pairs (intKind prog w) es q → (∀ e ∈ es, ∃ k, (intKind prog w).is k e.key = true ∧ e.hash = (intKind prog w).hash k) → RepKv w.params F kvs es
  | _, _, _, .nil, .nil, _ => .nil
  | _, _, _, .cons (i := i) r x, .cons (e := e) h1 h2 h3, c => by
    obtain ⟨k, c1, c2⟩ := c e (.head _)
    have : k = i := (intKind prog w).inj _ _ _ c1 h1
    subst this
    obtain ⟨t, ht⟩ := Value.isInt_shape h1
    obtain ⟨hh, hk, hv⟩ := e
    dsimp only at h2 ht c2
    subst h2; subst ht; subst c2
    exact .cons r (pairs_rep x h3 fun e m => c e (.tail _ m))
theorem exact_dict {o : Obj} {es : Array DictEntry} {ep : Nat} (h : o.ExactDict) (d : o.data = .dict es ep) : o = dictO es.toList ep := by
  obtain ⟨c, dd, dt, sl⟩ := o
  obtain ⟨h1, h2, h3⟩ := h
  dsimp only at h1 h2 h3 d
  subst h1; subst h2; subst h3; subst d
  rfl
theorem dictAt_of {h : Heap} {a : Addr} {kvs : List (Int × D)} {es : List DictEntry} {m : Nat} (e : h.get? a = some (dictO es m)) (nd : (kvs.map (·.1)).Nodup) (r : RepKv w.params F kvs es) : ∃ q, ValsRel w.params F kvs q ∧ h.DictAt (intKind prog w) a q m := by
  obtain ⟨q, a, b, c⟩ := r.pairs prog
  exact ⟨q, a, _, es.toArray, e, ⟨rfl, rfl, rfl⟩, rfl, fun e m => c e (by simpa using m), by simpa using b, by rw [a.keys]; exact nd⟩
theorem dictOf_of {h : Heap} {a : Addr} {kvs : List (Int × D)} {es : List DictEntry} {m : Nat} (e : h.get? a = some (dictO es m)) (nd : (kvs.map (·.1)).Nodup) (r : RepKv w.params F kvs es) : ∃ q, ValsRel w.params F kvs q ∧ h.DictOf (intKind prog w) a q := by
  obtain ⟨q, a, o, es, e1, e2, e3, e4, e5, e6⟩ := dictAt_of (prog := prog) e nd r
  exact ⟨q, a, o, es, m, e1, e2, e3, e4, e5, e6⟩
theorem of_dictOf {h : Heap} {a : Addr} {kvs : List (Int × D)} {q : List (Int × Value)} (e : h.DictOf (intKind prog w) a q) (r : ValsRel w.params F kvs q) : ∃ es m, h.get? a = some (dictO es m) ∧ (kvs.map (·.1)).Nodup ∧ RepKv w.params F kvs es := by
  obtain ⟨o, es, ep, e1, e2, e3, e4, e5, e6⟩ := e
  refine ⟨es.toList, ep, ?_, ?_, ?_⟩
  · rw [e1, exact_dict e2 e3]
  · rw [← r.keys]; exact e6
  · exact pairs_rep r e5 fun e m => e4 e (by simpa using m)

theorem ValsRel.valueAt {P : Params} {F : FH} : ∀ {kvs : List (Int × D)} {q : List (Int × Value)} (k : Int), ValsRel P F kvs q → (match (kvs.find? fun kv => kv.1 = k) with | some kd => ∃ v, PySem.valueAt q k = some v ∧ Rep P F kd.2 v | none => PySem.valueAt q k = none)
  | _, _, k, .nil => rfl
  | _, _, k, .cons (i := i) (d := d) (v := v) r x => by
    have ih := x.valueAt k
    unfold PySem.valueAt at ih ⊢
    by_cases h : i = k
    · subst h
      simp only [List.find?_cons, decide_true]
      exact ⟨v, rfl, r⟩
    · simp only [List.find?_cons, h, decide_false]
      exact ih

noncomputable def SysOk (K : Frag) : Prop := ∃ e es m, K.lookup sysModules = some (dictO (e :: es) m) ∧ ∀ i t, e.key ≠ .int i t
theorem not_sysF {h : Heap} (hK : SysOk K) (I : Inv prog w K F G h) {a : Addr} {es : List DictEntry} {m : Nat} {kvs : List (Int × D)} (ha : F a = some (dictO es m)) (r : RepKv w.params F kvs es) : (a == sysModules) = false := by
  cases z : a == sysModules with
  | false => rfl
  | true =>
    have := eq_of_beq z
    subst this
    obtain ⟨e0, es0, m0, h1, h2⟩ := hK
    have h3 := I.kF _ _ h1
    rw [ha] at h3
    have h4 := Option.some.inj h3
    simp only [dictO, Obj.mk.injEq, Data.dict.injEq] at h4
    have h5 : es = e0 :: es0 := by simpa using h4.2.2.1.1
    subst h5
    cases r with
    | cons _ _ => exact absurd rfl (h2 _ _)
theorem not_sysG {h : Heap} (hK : SysOk K) (I : Inv prog w K F G h) {a : Addr} {c : Cell} (ha : G a = some c) : (a == sysModules) = false := by
  cases z : a == sysModules with
  | false => rfl
  | true =>
    have := eq_of_beq z
    subst this
    obtain ⟨e0, es0, m0, h1, h2⟩ := hK
    have h3 := I.kF _ _ h1
    rw [I.ap _ (by rw [h3]; simp)] at ha
    cases ha

set_option tactic.hygienic true in
theorem SRC_dict {iter tgt : Expr} {Q : List D → GH → Prop} (h : EX prog w K n sc tab ρ G iter (fun d G₁ => ∃ kvs, d = .dict kvs ∧ Q (kvs.map fun kv => .int kv.1) G₁)) (hK : SysOk K) (htgt : isName tgt = true := by rfl) : SRC prog w K n sc tab ρ G iter tgt Q := by
  intro A env F s ok hsc I R
  refine wpAny_mono (h A env F s ok hsc I R) (fun v s₁ ⟨F₁, G₁, d, O₁, r, kvs, e, q⟩ => ?_) fun _ _ x => x
  subst e
  cases r with
  | dict ha nd hr =>
    rename_i a es m _
    have hl := O₁.inv.hF a _ ha
    have ne : a ≠ s₁.heap.objs.size := Nat.ne_of_lt (Heap.lt_size hl)
    obtain ⟨qv, vr, da⟩ := dictAt_of (prog := prog) hl nd hr
    have hd : (a == sysModules) = false := not_sysF hK O₁.inv ha hr
    refine wpAny_pyIter_dict hd da ?_
    have O₂ := Out.pushX O₁.inv { cls := .type "dict_keyiterator", data := .fields #[.ref a, .int 0 0, .int qv.length 0, .int m 0] } s₁.toks
    refine ⟨F₁, G₁, _, _, _, O₁.trans O₂, Iter.of_walks (Walks.dictKeys (knd := intKind prog w) ok.1 s₁.heap.objs.size a ne qv m) (by rw [List.length_map, vr.length]) (fun i v d hp hd => ?_) (fun b mm => ?_) (fun i h st b mm => ?_) fun i s v Q st5 q5 => ?_, ⟨⟨_, Heap.get?_push_size _ rfl, rfl, rfl⟩, ?_⟩, fun b mm => ?_, q⟩
    · obtain ⟨k, x, e1, e2⟩ := hp
      have e3 : (qv.map (·.1))[i]? = some k := by rw [List.getElem?_map, e1]; rfl
      rw [vr.keys] at e3
      simp only [List.getElem?_map, Option.map_eq_some_iff] at hd e3
      obtain ⟨kd, e4, rfl⟩ := hd
      obtain ⟨kd', e5, e6⟩ := e3
      rw [e4] at e5; cases e5
      obtain ⟨t, rfl⟩ := Value.isInt_shape e2
      rw [e6]; exact .int _ _
    · rcases List.mem_cons.mp mm with rfl | mm
      · exact .inl (.head _)
      · rcases List.mem_cons.mp mm with rfl | mm
        · exact .inr (by rw [ha]; simp)
        · cases mm
    · rcases List.mem_cons.mp mm with rfl | mm
      · obtain ⟨o, e, _⟩ := st.1; rw [e]; simp
      · cases mm
    · cases tgt with
      | Name x p => exact wpAny_pure q5
      | _ => simp [isName] at htgt
    · obtain ⟨o, es, e1, r⟩ := da
      exact ⟨o, es, Heap.get?_push_of_some _ e1, r⟩
    · rcases List.mem_cons.mp mm with rfl | mm
      · refine ⟨fun k => ?_, ?_, ?_⟩
        · have f := O₁.inv.fresh (get_size s₁.heap)
          rcases k with k | k
          · exact k f.1
          · exact k f.2
        · rw [Heap.get?_push_size _ rfl]; simp
        · cases z : s.heap.get? _ with
          | none => rfl
          | some o => exact absurd (get_size _) (O₁.step.alive _ (by rw [z]; simp))
      · cases mm
end
section
variable {prog : Program} {w : World} {K : Frag} {n : Nat} {sc : Scope} {tab : Tab} {ρ : Loc} {G : GH} {F : FH} {A : Around} {s : Shared} {env : Env} {R : Result → Shared → Prop}

theorem codeAny_compLoop_own {elt target iter : Expr} {ifs : List Expr} {scope : Scope} {pos : Pos} {it acc : Value} {env : Env} (I : Nat → Shared → Prop)
    (turn : ∀ n s, I n s → wpAny (model prog w) A (pyNext it) (fun r s₁ => match r with
      | none => R (.ok .next) s₁
      | some v => wpAny (model prog w) A (letOwnedTupleGo target it v) (fun _ s₁' => wpAny (model prog w) A (assign target env v) (fun _ s₂ =>
          wpAny (model prog w) A (forIn ifs true fun c r => if r = true then do let ok ← isTrue c env (eval c env); pure (ForInStep.yield ok) else pure (ForInStep.yield r)) (fun ok s₃ =>
            if ok = true then wpAny (model prog w) A (eval elt env) (fun x s₄ =>
              wpAny (model prog w) A (call (.builtin "list.append") [acc, x]) (fun _ s₅ => ∃ m, m < n ∧ I m s₅) (fun _ _ => False) s₄) (fun _ _ => False) s₃
            else ∃ m, m < n ∧ I m s₃) (fun _ _ => False) s₂) (fun _ _ => False) s₁') (fun _ _ => False) s₁) (fun _ _ => False) s)
    (n : Nat) (h : I n s) : codeAny (model prog w) A (.compLoop (.ListComp elt [⟨target, iter, ifs, 0⟩] scope pos) 0 it acc env) R s := by
  refine codeAny_loop rfl I (fun n s hI => ?_) n h
  show wpAny _ A ((compTurn (.ListComp elt [⟨target, iter, ifs, 0⟩] scope pos) 0 it acc env).onRaise (fun x => do noteFrame x env; theTreesLotGoes x)) _ _ s
  refine wpAny_noted ?_
  rw [compTurn_list]
  refine wpAny_bind (wpAny_standAt (wpAny_bind (wpAny_mono (turn n s hI) (fun r s₁ h₁ => ?_) fun _ _ h' => h'.elim)))
  cases r with
  | none => exact wpAny_pure h₁
  | some v =>
    refine wpAny_bind (wpAny_mono h₁ (fun _ s₁' h₁' => ?_) fun _ _ h' => h'.elim)
    refine wpAny_bind (wpAny_mono h₁' (fun _ s₂ h₂ => wpAny_bind (wpAny_mono h₂ (fun ok s₃ h₃ => ?_) fun _ _ h' => h'.elim)) fun _ _ h' => h'.elim)
    cases ok with
    | false => exact wpAny_pure ⟨rfl, h₃⟩
    | true =>
      exact wpAny_bind (wpAny_bind (wpAny_mono h₃ (fun x s₄ h₄ => wpAny_bind (wpAny_mono h₄ (fun _ s₅ h₅ => wpAny_pure (wpAny_pure ⟨rfl, h₅⟩)) fun _ _ h' => h'.elim)) fun _ _ h' => h'.elim))

noncomputable def relS (sc scope : Scope) : Scope := { scope with names := scope.names.map fun (n, k) => if (k == .free && sc.kind == .function && sc.names.lookup n == some .cell) then (n, .cell) else (n, k) }
theorem relabel_eq {scope : Scope} : relabel scope env = relS env.scope scope := rfl

structure CompOk (sc : Scope) (tab : Tab) (scope : Scope) (tab' : Tab) : Prop where
  kind : scope.kind = .function
  locs : ∀ x ∈ scope.names, x.2 = .local → scope.names.lookup x.1 = some .local
  nd : (scope.names.map (·.1)).Nodup
  free : ∀ x ∈ scope.names, x.2 = .free → (tab.lookup x.1).isSome = true ∧ sc.names.lookup x.1 ≠ some .local
  cls : ∀ x ∈ scope.names, (x.1 == ("__classdict__" : Str)) = false
  tab : ∀ x i, tab'.lookup x = some i → scope.names.lookup x = some .local ∨ scope.names.lookup x = some .cell ∨ scope.names.lookup x = some .free
  inj : tab'.inj

theorem cellsFrom_acc : ∀ (names : List (Str × NameKind)) (n : Nat) (acc : List (Str × Addr)), cellsFrom n names acc = cellsFrom n names [] ++ acc
  | [], _, _ => rfl
  | (x, k) :: r, n, acc => by
    unfold cellsFrom
    split
    · rw [cellsFrom_acc r (n + 1) ((x, n) :: acc), cellsFrom_acc r (n + 1) [(x, n)], List.append_assoc]; rfl
    · exact cellsFrom_acc r n acc
set_option tactic.hygienic true in
theorem cellsFrom_mem : ∀ (names : List (Str × NameKind)) (n : Nat) (x : Str) (c : Addr), (x, c) ∈ cellsFrom n names [] → (x, NameKind.cell) ∈ names
  | [], _, _, _, m => nomatch m
  | (y, k) :: r, n, x, c, m => by
    unfold cellsFrom at m
    split at m
    · rename_i hk
      rw [cellsFrom_acc] at m
      rcases List.mem_append.mp m with m | m
      · exact List.mem_cons_of_mem _ (cellsFrom_mem r _ x c m)
      · rcases List.mem_cons.mp m with e | m
        · cases e
          rw [eq_of_beq hk]; exact .head _
        · cases m
    · exact List.mem_cons_of_mem _ (cellsFrom_mem r _ x c m)
theorem lookup_app {α : Type} (x : Str) : ∀ (a b : List (Str × α)), (a ++ b).lookup x = (a.lookup x).or (b.lookup x)
  | [], _ => rfl
  | (y, v) :: a, b => by
    rw [List.cons_append, List.lookup_cons, List.lookup_cons]
    cases h : x == y with
    | true => rfl
    | false => exact lookup_app x a b
theorem lookup_mem {α : Type} {x : Str} {v : α} : ∀ {l : List (Str × α)}, (l.map (·.1)).Nodup → (x, v) ∈ l → l.lookup x = some v
  | (y, u) :: l, nd, m => by
    rw [List.map_cons, List.nodup_cons] at nd
    rw [List.lookup_cons]
    rcases List.mem_cons.mp m with e | m2
    · cases e; rw [beq_self_eq_true]
    · have : (x == y) = false := by
        cases z : x == y with
        | false => rfl
        | true =>
          have := eq_of_beq z
          subst this
          exact absurd (List.mem_map.mpr ⟨(x, v), m2, rfl⟩ : x ∈ l.map (·.1)) nd.1
      rw [this]; exact lookup_mem nd.2 m2
theorem lookup_some_mem {α : Type} {x : Str} {v : α} {l : List (Str × α)} (h : l.lookup x = some v) : (x, v) ∈ l := mem_of_lookup h

theorem closure_go (names : List (Str × NameKind)) (hf : ∀ x ∈ names, x.2 = .free → ∃ c, env.cells.lookup x.1 = some c) (nd : (names.map (·.1)).Nodup) :
    ∀ acc : List (Str × Addr), (∀ p ∈ acc, env.cells.lookup p.1 = some p.2 ∧ p.1 ∉ names.map (·.1)) → (acc.map (·.1)).Nodup →
    ∃ cl : List (Str × Addr), (forIn (m := Sem) names acc fun x cs => if (x.2 == NameKind.free) = true then (do let c ← cellOf env x.1; pure (ForInStep.yield ((x.1, c) :: cs))) else pure (ForInStep.yield cs)) = pure cl ∧
      (∀ p ∈ cl, env.cells.lookup p.1 = some p.2) ∧ (∀ x ∈ names, x.2 = .free → ∃ c, (x.1, c) ∈ cl) ∧ (∀ p ∈ acc, p ∈ cl) ∧ (cl.map (·.1)).Nodup ∧ (∀ p ∈ cl, p ∈ acc ∨ (p.1, NameKind.free) ∈ names) := by
  induction names with
  | nil => intro acc h1 h2; exact ⟨acc, rfl, fun p m => (h1 p m).1, (fun _ m => nomatch m), (fun _ m => m), h2, (fun _ m => .inl m)⟩
  | cons x names ih =>
    intro acc h1 h2
    obtain ⟨y, k⟩ := x
    rw [List.map_cons, List.nodup_cons] at nd
    have ih' := ih (fun z m e => hf z (.tail _ m) e) nd.2
    rw [List.forIn_cons]
    by_cases hk : k = .free
    · subst hk
      obtain ⟨c, hc⟩ := hf _ (.head _) rfl
      have e1 : cellOf env y = pure c := by
        unfold cellOf
        have hc' : env.cells.lookup y = some c := hc
        rw [hc']
      obtain ⟨cl, q1, q2, q3, q4, q5, q6⟩ := ih' ((y, c) :: acc) (fun p m => by
        rcases List.mem_cons.mp m with rfl | m
        · exact ⟨hc, nd.1⟩
        · exact ⟨(h1 p m).1, fun q => (h1 p m).2 (.tail _ q)⟩) (by
          rw [List.map_cons, List.nodup_cons]
          refine ⟨fun m => ?_, h2⟩
          obtain ⟨p, hp, e⟩ := List.mem_map.mp m
          exact (h1 p hp).2 (by rw [e]; exact .head _))
      refine ⟨cl, ?_, q2, fun z m e => ?_, fun p m => q4 p (.tail _ m), q5, fun p m => ?_⟩
      · simp only [beq_self_eq_true, if_true, e1]
        exact q1
      · rcases List.mem_cons.mp m with rfl | m
        · exact ⟨c, q4 _ (.head _)⟩
        · exact q3 z m e
      · rcases q6 p m with m | m
        · rcases List.mem_cons.mp m with rfl | m
          · exact .inr (.head _)
          · exact .inl m
        · exact .inr (.tail _ m)
    · obtain ⟨cl, q1, q2, q3, q4, q5, q6⟩ := ih' acc (fun p m => ⟨(h1 p m).1, fun q => (h1 p m).2 (.tail _ q)⟩) h2
      refine ⟨cl, ?_, q2, fun z m e => ?_, q4, q5, fun p m => (q6 p m).imp id (.tail _)⟩
      · have : (k == NameKind.free) = false := by simpa using hk
        simp only [this, Bool.false_eq_true, if_false]
        exact q1
      · rcases List.mem_cons.mp m with rfl | m
        · exact absurd e hk
        · exact q3 z m e
theorem closure_of (scope : Scope) (hf : ∀ x ∈ scope.names, x.2 = .free → ∃ c, env.cells.lookup x.1 = some c) (nd : (scope.names.map (·.1)).Nodup) :
    ∃ cl : List (Str × Addr), closureFor scope env = pure cl ∧ (∀ p ∈ cl, env.cells.lookup p.1 = some p.2) ∧ (∀ x ∈ scope.names, x.2 = .free → ∃ c, (x.1, c) ∈ cl) ∧ (cl.map (·.1)).Nodup ∧ (∀ p ∈ cl, (p.1, NameKind.free) ∈ scope.names) := by
  obtain ⟨cl, q1, q2, q3, _, q5, q6⟩ := closure_go (env := env) scope.names hf nd [] (fun _ m => nomatch m) List.nodup_nil
  refine ⟨cl, ?_, q2, q3, q5, fun p m => (q6 p m).elim (fun m => nomatch m) id⟩
  unfold closureFor
  exact congrArg (fun t : Sem (List (Str × Addr)) => t >>= fun cs => pure cs) q1

theorem wpAny_compEnv {M : Model} {E : Value → Shared → Prop} {scope : Scope} {cl : List (Str × Addr)} {qual : Str} {outer : Env} {Q : Env → Shared → Prop}
    (h : Q { scope := scope, locals := s.heap.objs.size, globals := mainGlobals, cells := cellsFrom (s.heap.objs.size + 1) scope.names cl, qual := qual, func := none, code := outer.code, frame := outer.frame, builtins := outer.builtins } { s with heap := pushCells (s.heap.push { cls := .type "dict", data := .dict #[] }) scope.names }) :
    wpAny M A (newFunctionEnv scope mainGlobals cl [] qual none .none (some outer)) Q E s := by
  simp only [newFunctionEnv, Option.isSome_some, if_true]
  refine wpAny_bind (wpAny_alloc ?_)
  refine wpAny_bind (wpAny_layCells _ (fun name kind cells => by cases hkc : kind == NameKind.cell <;> simp [hkc]) _ _ _ _ ?_)
  refine wpAny_bind (wpAny_pure (wpAny_pure ?_))
  rw [show ({ s with heap := s.heap.push { cls := .type "dict", data := .dict #[] } } : Shared).heap.objs.size = s.heap.objs.size + 1 from Heap.size_push ..]
  exact h

theorem lookup_relS {scope : Scope} : ∀ (names : List (Str × NameKind)) (x : Str), (names.map fun (n, k) => if (k == NameKind.free && sc.kind == .function && sc.names.lookup n == some .cell) then (n, NameKind.cell) else (n, k)).lookup x =
    (names.lookup x).map fun k => if (k == NameKind.free && sc.kind == .function && sc.names.lookup x == some .cell) then NameKind.cell else k
  | [], _ => rfl
  | (y, k) :: r, x => by
    rw [List.map_cons]
    have ih := lookup_relS (scope := scope) r x
    by_cases h : (x == y) = true
    · have := eq_of_beq h
      subst this
      show List.lookup x ((if (k == NameKind.free && sc.kind == .function && sc.names.lookup x == some .cell) = true then (x, NameKind.cell) else (x, k)) :: _) = _
      by_cases q : (k == NameKind.free && sc.kind == .function && sc.names.lookup x == some .cell) = true
      · rw [if_pos q, List.lookup_cons, List.lookup_cons, beq_self_eq_true]; show some NameKind.cell = some (if _ then _ else _); rw [if_pos q]
      · rw [if_neg q, List.lookup_cons, List.lookup_cons, beq_self_eq_true]; show some k = some (if _ then _ else _); rw [if_neg q]
    · have h' : (x == y) = false := by simpa using h
      show List.lookup x ((if (k == NameKind.free && sc.kind == .function && sc.names.lookup y == some .cell) = true then (y, NameKind.cell) else (y, k)) :: _) = _
      by_cases q : (k == NameKind.free && sc.kind == .function && sc.names.lookup y == some .cell) = true
      · rw [if_pos q, List.lookup_cons, h', List.lookup_cons, h']; exact ih
      · rw [if_neg q, List.lookup_cons, h', List.lookup_cons, h']; exact ih
theorem kind_relS {scope : Scope} {x : Str} : (relS sc scope).names.lookup x = (scope.names.lookup x).map fun k => if (k == NameKind.free && sc.kind == .function && sc.names.lookup x == some .cell) then NameKind.cell else k := lookup_relS (scope := scope) _ _

theorem comp_frame {scope : Scope} {tab' : Tab} {ρc : Loc} {cl : List (Str × Addr)} {qual : Str} (R : Fra w env tab ρ F G s.heap) (I : Inv prog w K F G s.heap) (C : CompOk env.scope tab scope tab')
    (hcap : ∀ x i d, tab'.lookup x = some i → ρc[i]? = some (some d) → scope.names.lookup x = some .free ∧ ∃ j, tab.lookup x = some j ∧ ρ[j]? = some (some d))
    (hcl : ∀ p ∈ cl, env.cells.lookup p.1 = some p.2) (hall : ∀ x ∈ scope.names, x.2 = .free → ∃ c, (x.1, c) ∈ cl) (hnd : (cl.map (·.1)).Nodup) (hfr : ∀ p ∈ cl, (p.1, NameKind.free) ∈ scope.names) {s₃ : Shared} {F₃ : FH} {G₃ : GH} (O : Out prog w K [] F G s F₃ G₃ s₃) :
    Fra w { scope := relS env.scope scope, locals := s₃.heap.objs.size, globals := mainGlobals, cells := cellsFrom (s₃.heap.objs.size + 1) scope.names cl, qual := qual, func := none, code := env.code, frame := env.frame, builtins := env.builtins } tab' ρc F₃ G₃
      (pushCells (s₃.heap.push { cls := .type "dict", data := .dict #[] }) scope.names) := by
  have hk : ∀ b o, s₃.heap.get? b = some o → (pushCells (s₃.heap.push { cls := .type "dict", data := .dict #[] }) scope.names).get? b = some o := fun b o e => pushCells_keeps _ _ b o (Heap.get?_push_of_some _ e)
  have ok := cellsFrom_ok scope.names (s₃.heap.push { cls := .type "dict", data := .dict #[] }) (s₃.heap.objs.size + 1) [] ⟨fun _ _ hm => (nomatch hm), List.Pairwise.nil⟩ (by rw [Heap.size_push]; exact Nat.le_refl _)
  rw [Heap.size_push] at ok
  have R₃ := R.nil O
  have key : cellsFrom (s₃.heap.objs.size + 1) scope.names cl = cellsFrom (s₃.heap.objs.size + 1) scope.names [] ++ cl := cellsFrom_acc _ _ _
  have fresh : ∀ c, s₃.heap.objs.size ≤ c → s₃.heap.get? c = none := fun c h => by
    cases z : s₃.heap.get? c with
    | none => rfl
    | some o => exact absurd (Heap.lt_size z) (Nat.not_lt.mpr h)
  have unk : ∀ c, s₃.heap.objs.size ≤ c → ¬ Known F₃ G₃ c := fun c h k => by
    have f := O.inv.fresh (fresh c h)
    rcases k with k | k
    · exact k f.1
    · exact k f.2
  have oldlt : ∀ p ∈ cl, p.2 < s₃.heap.objs.size := fun p m => by
    have m2 : p.2 ∈ frameAddrs env := List.mem_cons_of_mem _ (List.mem_map.mpr ⟨p, mem_of_lookup (hcl p m), rfl⟩)
    cases z : s₃.heap.get? p.2 with
    | none => exact absurd z (R₃.out _ m2).2
    | some o => exact Heap.lt_size z
  refine ⟨C.kind, rfl, R.blt, ⟨fun _ => none, (Heap.Ns.new s₃.heap (.type "dict")).keeps (pushCells_keeps _ _), fun x i d a b c => ?_⟩, fun x i a b => ?_, fun a m => ?_, ?_, fun p m => ?_⟩
  · obtain ⟨q, _⟩ := hcap x i d a b
    have : (relS env.scope scope).names.lookup x = some .local := c
    rw [kind_relS, q] at this
    simp only [Option.map_some, Option.some.injEq] at this
    split at this <;> cases this
  · have hkx := C.tab x i a
    have kx : (relS env.scope scope).names.lookup x ≠ some .local := b
    rw [kind_relS] at kx
    show ((relS env.scope scope).names.lookup x = some .cell ∨ (relS env.scope scope).names.lookup x = some .free ∧ _) ∧ _
    rw [kind_relS]
    rcases hkx with q | q | q
    · rw [q] at kx; exact absurd rfl kx
    · rw [q]
      refine ⟨.inl rfl, ?_⟩
      have hs := cellsFrom_some (x := x) scope.names (s₃.heap.objs.size + 1) [] (.inl q)
      obtain ⟨c, hc⟩ := Option.isSome_iff_exists.mp hs
      refine ⟨c, none, ?_, (ok.empty x c (mem_of_lookup hc)).1, fun d e => ?_⟩
      · show (cellsFrom (s₃.heap.objs.size + 1) scope.names cl).lookup x = some c
        rw [key, lookup_app, hc]; rfl
      · obtain ⟨q2, _⟩ := hcap x i d a e
        rw [q] at q2; cases q2
    · rw [q]
      have m := lookup_some_mem q
      obtain ⟨h1, h2⟩ := C.free _ m rfl
      have h3 := C.cls _ m
      refine ⟨?_, ?_⟩
      · simp only [Option.map_some]
        by_cases z : (NameKind.free == NameKind.free && env.scope.kind == .function && env.scope.names.lookup x == some .cell) = true
        · rw [if_pos z]; exact .inl rfl
        · rw [if_neg z]; exact .inr ⟨rfl, h3⟩
      · obtain ⟨j, hj⟩ := Option.isSome_iff_exists.mp h1
        obtain ⟨_, c, v0, e1, e2, e3⟩ := R₃.cel x j hj h2
        obtain ⟨c', hc'⟩ := hall _ m rfl
        have ec : c' = c := by
          have := hcl _ hc'
          exact Option.some.inj (this.symm.trans e1)
        subst ec
        refine ⟨c', v0, ?_, e2.keeps hk, fun d e => ?_⟩
        · show (cellsFrom (s₃.heap.objs.size + 1) scope.names cl).lookup x = some c'
          rw [key, lookup_app]
          cases z : (cellsFrom (s₃.heap.objs.size + 1) scope.names []).lookup x with
          | none => exact lookup_mem hnd hc'
          | some c2 =>
            have := lookup_mem C.nd (cellsFrom_mem _ _ _ _ (mem_of_lookup z))
            rw [q] at this; cases this
        · obtain ⟨_, j', hj', hd⟩ := hcap x i d a e
          rw [hj] at hj'; cases hj'
          exact e3 d hd
  · have m' : a = s₃.heap.objs.size ∨ ∃ x, (x, a) ∈ cellsFrom (s₃.heap.objs.size + 1) scope.names [] ∨ (x, a) ∈ cl := by
      rcases List.mem_cons.mp m with e | m
      · exact .inl e
      · obtain ⟨p, hp, e⟩ := List.mem_map.mp m
        subst e
        refine .inr ⟨p.1, ?_⟩
        rw [show cellsFrom (s₃.heap.objs.size + 1) scope.names cl = cellsFrom (s₃.heap.objs.size + 1) scope.names [] ++ cl from key] at hp
        exact List.mem_append.mp hp
    rcases m' with e | ⟨x, m | m⟩
    · subst e
      refine ⟨unk _ (Nat.le_refl _), ?_⟩
      rw [pushCells_keeps _ _ _ _ (Heap.get?_push_size s₃.heap (o := { cls := .type "dict", data := .dict #[] }) rfl)]; simp
    · obtain ⟨⟨o, e, _⟩, lo⟩ := ok.empty x a m
      refine ⟨unk _ (by (first | with_reducible assumption | exact Nat.lt_of_lt_of_le (by assumption) (by decide) | exact Nat.lt_of_le_of_lt (by assumption) (by decide) | lia | omega)), ?_⟩
      rw [e]; simp
    · have m2 : a ∈ frameAddrs env := List.mem_cons_of_mem _ (List.mem_map.mpr ⟨(x, a), mem_of_lookup (hcl _ m), rfl⟩)
      have R4 := R₃.out a m2
      refine ⟨R4.1, ?_⟩
      cases z : s₃.heap.get? a with
      | none => exact absurd z R4.2
      | some o => rw [hk a o z]; simp
  · show (cellsFrom (s₃.heap.objs.size + 1) scope.names cl).Pairwise _
    rw [key]
    refine List.pairwise_append.mpr ⟨ok.apart, ?_, fun p hp q hq e => ?_⟩
    · refine List.Pairwise.imp_of_mem (R := fun x y => x.1 ≠ y.1) (fun {x y} hx hy n e => n ?_) (by rw [List.Nodup, List.pairwise_map] at hnd; exact hnd)
      have h1 : (y.1, x.2) ∈ env.cells := by rw [e]; exact mem_of_lookup (hcl _ hy)
      exact name_of_addr R.apart (mem_of_lookup (hcl _ hx) : (x.1, x.2) ∈ env.cells) h1
    · have h1 := (ok.empty p.1 p.2 hp).2
      have h2 := oldlt q hq
      exact Nat.lt_irrefl _ (Nat.lt_trans h2 (e ▸ h1))
  · have hp : p ∈ cellsFrom (s₃.heap.objs.size + 1) scope.names [] ++ cl := by rw [← key]; exact m
    rcases List.mem_append.mp hp with hp | hp
    · have h1 := (ok.empty p.1 p.2 hp).2
      exact Nat.ne_of_gt h1
    · exact Nat.ne_of_lt (oldlt p hp)
end
section
variable {prog : Program} {w : World} {K : Frag} {n : Nat} {sc : Scope} {tab : Tab} {ρ : Loc} {G : GH} {F : FH} {A : Around} {s : Shared} {env : Env}

noncomputable def ownE (scope : Scope) : Expr → Bool
  | .Name x _ => scope.names.lookup x == some .local || scope.names.lookup x == some .cell
  | _ => true
noncomputable def ownTgt (scope : Scope) : Expr → Bool
  | .Tuple ts _ _ => ts.all (ownE scope)
  | t => ownE scope t

theorem kept {X : List Addr} {F' : FH} {G' : GH} {s' : Shared} {a : Addr} {o : Obj} (O : Out prog w K X F G s F' G' s') (h : ¬ Known F G a) (hx : a ∉ X) (e : s.heap.get? a = some o) : s'.heap.get? a = some o := O.step.keep a o (G_none h) hx e

theorem own_name {scope : Scope} {C : Addr} {own cl : List (Str × Addr)} {cenv : Env} {x : Str} {pos : Pos} (hs : cenv.scope = relS sc scope) (hl : cenv.locals = C) (hc : cenv.cells = own ++ cl) (hown : scope.names.lookup x = some .cell → ∃ c, own.lookup x = some c)
    (h : (scope.names.lookup x == some .local || scope.names.lookup x == some .cell) = true) : ∀ a ∈ nameAddrs cenv (.Name x pos), a ∈ C :: own.map (·.2) := by
  intro a m
  simp only [nameAddrs] at m
  have hk : cenv.kindOf x = scope.names.lookup x := by
    show cenv.scope.names.lookup x = _
    rw [hs, kind_relS]
    simp only [Bool.or_eq_true, beq_iff_eq] at h
    rcases h with h | h <;> rw [h] <;> rfl
  rw [hk] at m
  simp only [Bool.or_eq_true, beq_iff_eq] at h
  rcases h with h | h
  · rw [if_pos h, hl] at m
    rcases List.mem_cons.mp m with rfl | m
    · exact .head _
    · cases m
  · rw [if_neg (by rw [h]; decide)] at m
    obtain ⟨c, e⟩ := hown h
    rw [hc, lookup_app, e] at m
    rcases List.mem_cons.mp m with rfl | m
    · exact .tail _ (List.mem_map.mpr ⟨(x, _), mem_of_lookup e, rfl⟩)
    · cases m
theorem own_tgt {scope : Scope} {C : Addr} {own cl : List (Str × Addr)} {cenv : Env} {t : Expr} (hs : cenv.scope = relS sc scope) (hl : cenv.locals = C) (hc : cenv.cells = own ++ cl) (hown : ∀ x, scope.names.lookup x = some .cell → ∃ c, own.lookup x = some c)
    (h : ownTgt scope t = true) : ∀ a ∈ tgtAddrs cenv t, a ∈ C :: own.map (·.2) := by
  revert h
  refine expr_tgt (P := fun t => ownTgt scope t = true → ∀ a ∈ tgtAddrs cenv t, a ∈ C :: own.map (·.2)) ?_ ?_ ?_ t
  · exact fun x pos h a m => own_name (pos := pos) hs hl hc (hown x) h a m
  · intro ts k pos h a m
    obtain ⟨t, ht, m⟩ := List.mem_flatMap.mp m
    have h1 : ownE scope t = true := List.all_eq_true.mp h t ht
    clear ht h
    revert h1 m
    refine expr_tgt (P := fun t => a ∈ nameAddrs cenv t → ownE scope t = true → a ∈ C :: own.map (·.2)) ?_ ?_ ?_ t
    · exact fun x pos m h1 => own_name (pos := pos) hs hl hc (hown x) h1 a m
    · exact fun ts k pos m => nomatch m
    · exact fun t _ e m => by rw [e] at m; cases m
  · exact fun t e _ h a m => by rw [e] at m; cases m

inductive CompJ (prog : Program) (w : World) (K : Frag) (n : Nat) (sc' : Scope) (tab' : Tab) (tgt : Expr) (ifs : List Expr) (elt : Expr) (Q' : List D → GH → Prop) (items : List D) (Y : List Addr) (F₁ : FH) (G₁ : GH) (s4 : Shared) (cenv : Env) (St : Nat → Heap → Prop) (D : Addr) (k : Nat) (s' : Shared) : Prop
  | mk (i : Nat) (F' : FH) (G' : GH) (ρ' : Loc) (acc : List Mine.D) (vs : List Value) : k + i = items.length → Out prog w K Y F₁ G₁ s4 F' G' s' → Fra w cenv tab' ρ' F' G' s'.heap → St i s'.heap → s'.heap.PlainList D (List.toArray vs) → RepAll w.params F' acc vs → CompX prog w K n sc' tab' tgt ifs elt Q' (items.drop i) acc ρ' G' →
    CompJ prog w K n sc' tab' tgt ifs elt Q' items Y F₁ G₁ s4 cenv St D k s'

theorem comp_core0 {use : Option (Value → Sem Unit)} {elt tgt iter : Expr} {ifs : List Expr} {scope : Scope} {pos fp : Pos} {tab' : Tab} {ρc : Loc} {Q' : List D → GH → Prop} {Q : Value → Shared → Prop}
    (ok : OkA n A) (hsc : env.scope = sc) (I : Inv prog w K F G s.heap) (R : Fra w env tab ρ F G s.heap) (C : CompOk sc tab scope tab') (ht : ownTgt scope tgt = true)
    (hcap : ∀ x i d, tab'.lookup x = some i → ρc[i]? = some (some d) → scope.names.lookup x = some .free ∧ ∃ j, tab.lookup x = some j ∧ ρ[j]? = some (some d))
    (h : SRC prog w K n sc tab ρ G iter tgt (fun items G₁ => CompX prog w K n (relS sc scope) tab' tgt ifs elt Q' items [] ρc G₁))
    (hs : ∀ env x, foldedSetIterable iter env x = pure x)
    (fin : ∀ F' G' s' acc D C m vs mt, Out prog w K [] F G s F' G' s' → s.heap.get? D = none → F' D = none → G' D = none → s'.heap.get? D = some (seqO "list" vs mt) → RepAll w.params F' acc vs → Q' acc G' → s'.heap.Ns C m → s.heap.get? C = none → ¬ Known F' G' C → C ≠ D → compPost (model prog w) A (fun _ _ => False) use Q (.ref D) C (.ok .next) s') :
    wpAny (model prog w) A (comprehension (.ListComp elt [⟨tgt, iter, ifs, 0⟩] scope pos) scope env fp (newList []) false (eval iter env) use) Q (fun _ _ => False) s := by
  subst hsc
  obtain ⟨cl, hclos, hcl, hall, hnd, hfr⟩ := closure_of (env := env) scope (fun x m e => by
    obtain ⟨h1, h2⟩ := C.free x m e
    obtain ⟨j, hj⟩ := Option.isSome_iff_exists.mp h1
    obtain ⟨_, c, _, e1, _⟩ := R.cel x.1 j hj h2
    exact ⟨c, e1⟩) C.nd
  refine wpAny_comprehension_free (g := ⟨tgt, iter, ifs, 0⟩) (gs := []) rfl (hs env) hclos C.kind C.locs ?_
  refine wpAny_mono (h A env F s ok rfl I R) (fun x s₁ h₁ => wpAny_mono h₁ (fun it s₂ h₂ => ?_) fun _ _ x => x.elim) fun _ _ x => x.elim
  obtain ⟨F₁, G₁, X, St, items, O₁, T, st, hX, hf⟩ := h₂
  refine wpAny_newList ?_ (by rw [sizeLine_eq]; simp)
  rw [R.glob]
  refine wpAny_compEnv ?_
  rw [relabel_eq]
  dsimp only
  have hD0 := get_size s₂.heap
  obtain ⟨D, eD⟩ : ∃ x, s₂.heap.objs.size = x := ⟨_, rfl⟩
  rw [eD] at hD0 ⊢
  have O₂ : Out prog w K [] F₁ G₁ s₂ F₁ G₁ { s₂ with heap := s₂.heap.push { cls := .type "list", data := .seq ([] : List Value).toArray } } := Out.pushX O₁.inv _ s₂.toks
  have O₃ := O₁.trans O₂
  have hD3 : (s₂.heap.push { cls := .type "list", data := .seq ([] : List Value).toArray }).get? D = some { cls := .type "list", data := .seq ([] : List Value).toArray } := eD ▸ Heap.get?_push_size s₂.heap rfl
  obtain ⟨s₃, es3⟩ : ∃ x, ({ s₂ with heap := s₂.heap.push { cls := .type "list", data := .seq ([] : List Value).toArray } } : Shared) = x := ⟨_, rfl⟩
  rw [es3] at O₂ O₃
  have eh3 : s₂.heap.push { cls := .type "list", data := .seq ([] : List Value).toArray } = s₃.heap := by rw [← es3]
  rw [eh3] at hD3 ⊢
  have R₄ := comp_frame (qual := env.qual) R I C hcap hcl hall hnd hfr O₃
  have hCn : s₃.heap.get? s₃.heap.objs.size = none := get_size s₃.heap
  have ok' := cellsFrom_ok scope.names (s₃.heap.push { cls := .type "dict", data := .dict #[] }) (s₃.heap.objs.size + 1) [] ⟨fun _ _ hm => (nomatch hm), List.Pairwise.nil⟩ (by rw [Heap.size_push]; exact Nat.le_refl _)
  rw [Heap.size_push] at ok'
  obtain ⟨Cx, eC⟩ : ∃ x, s₃.heap.objs.size = x := ⟨_, rfl⟩
  rw [eC] at R₄ hCn ok' ⊢
  obtain ⟨cenv, ecenv⟩ : ∃ x, ({ scope := relS env.scope scope, locals := Cx, globals := mainGlobals, cells := cellsFrom (Cx + 1) scope.names cl, qual := env.qual, func := none, code := env.code, frame := env.frame, builtins := env.builtins } : Env) = x := ⟨_, rfl⟩
  rw [ecenv] at R₄ ⊢
  have kp4 : ∀ b o, s₃.heap.get? b = some o → (pushCells (s₃.heap.push { cls := .type "dict", data := .dict #[] }) scope.names).get? b = some o := fun b o e => pushCells_keeps _ _ b o (Heap.get?_push_of_some _ e)
  have O₄ : Out prog w K [] F₁ G₁ s₃ F₁ G₁ { s₃ with heap := pushCells (s₃.heap.push { cls := .type "dict", data := .dict #[] }) scope.names } := Out.other (X := []) (t := s₃.toks) O₃.inv (fun a o _ e => kp4 a o e) (fun _ m => nomatch m) (fun _ m => nomatch m)
  have eT : ({ s₂ with heap := pushCells (s₃.heap.push { cls := .type "dict", data := .dict #[] }) scope.names } : Shared) = { s₃ with heap := pushCells (s₃.heap.push { cls := .type "dict", data := .dict #[] }) scope.names } := by rw [← es3]
  rw [eT]
  obtain ⟨s4, es4⟩ : ∃ x, ({ s₃ with heap := pushCells (s₃.heap.push { cls := .type "dict", data := .dict #[] }) scope.names } : Shared) = x := ⟨_, rfl⟩
  rw [es4] at O₄ ⊢
  have eh4 : pushCells (s₃.heap.push { cls := .type "dict", data := .dict #[] }) scope.names = s4.heap := by rw [← es4]
  rw [eh4] at R₄ kp4 ok'
  have key : cenv.cells = cellsFrom (Cx + 1) scope.names [] ++ cl := by rw [← ecenv]; exact cellsFrom_acc _ _ _
  have hlC : cenv.locals = Cx := by rw [← ecenv]
  have hsC : cenv.scope = relS env.scope scope := by rw [← ecenv]
  obtain ⟨own, eown⟩ : ∃ x, cellsFrom (Cx + 1) scope.names [] = x := ⟨_, rfl⟩
  rw [eown] at key ok'
  have Oall := O₃.trans O₄
  have gone : ∀ a, Cx ≤ a → s₃.heap.get? a = none := fun a h => by
    cases z : s₃.heap.get? a with
    | none => rfl
    | some o => have := Heap.lt_size z; rw [eC] at this; exact absurd this (Nat.not_lt.mpr h)
  have none0 : ∀ a, s₃.heap.get? a = none → s.heap.get? a = none := fun a e => by
    cases z : s.heap.get? a with
    | none => rfl
    | some o => exact absurd e (O₃.step.alive a (by rw [z]; simp))
  have ownGe : ∀ a ∈ Cx :: own.map (·.2), Cx ≤ a := fun a m => by
    rcases List.mem_cons.mp m with rfl | m
    · exact Nat.le_refl _
    · obtain ⟨p, hp, rfl⟩ := List.mem_map.mp m
      exact Nat.le_of_succ_le (ok'.empty p.1 p.2 hp).2
  have unk3 : ∀ a, s₃.heap.get? a = none → ¬ Known F₁ G₁ a := fun a e k => O₃.inv.known k e
  have hDk : ¬ Known F₁ G₁ D := fun k => O₁.inv.known k (by rw [← eD]; exact get_size _)
  have hDlt : D < Cx := by rw [← eC]; exact Heap.lt_size hD3
  have hDown : D ∉ Cx :: own.map (·.2) := fun m => Nat.lt_irrefl _ (Nat.lt_of_lt_of_le hDlt (ownGe D m))
  have hDX : D ∉ X := fun m => by
    have := (hX D m).2.1
    rw [← eD] at this
    exact this (get_size _)
  have Xown : ∀ a ∈ X, a ∉ Cx :: own.map (·.2) := fun a m q => by
    have h1 := (hX a m).2.1
    have h2 := gone a (ownGe a q)
    exact (O₂.step.alive a h1) h2
  let Y := (Cx :: own.map (·.2)) ++ X ++ [D]
  have hY0 : ∀ a ∈ Y, s.heap.get? a = none := fun a m => by
    rcases List.mem_append.mp m with m | m
    · rcases List.mem_append.mp m with m | m
      · exact none0 a (gone a (ownGe a m))
      · exact (hX a m).2.2
    · rcases List.mem_cons.mp m with rfl | m
      · cases z : s.heap.get? a with
        | none => rfl
        | some o => exact absurd hD0 (O₁.step.alive a (by rw [z]; simp))
      · cases m
  have hYk : ∀ a ∈ Y, ¬ Known F₁ G₁ a := fun a m => by
    rcases List.mem_append.mp m with m | m
    · rcases List.mem_append.mp m with m | m
      · exact unk3 a (gone a (ownGe a m))
      · exact (hX a m).1
    · rcases List.mem_cons.mp m with rfl | m
      · exact hDk
      · cases m
  have hframe : ∀ a ∈ frameAddrs cenv, a ∉ X ∧ a ≠ D := fun a m => by
    have h1 : a ∈ Cx :: own.map (·.2) ∨ ∃ p ∈ cl, p.2 = a := by
      rcases List.mem_cons.mp m with e | m
      · rw [hlC] at e; subst e; exact .inl (.head _)
      · obtain ⟨p, hp, rfl⟩ := List.mem_map.mp m
        rw [key] at hp
        rcases List.mem_append.mp hp with hp | hp
        · exact .inl (.tail _ (List.mem_map.mpr ⟨p, hp, rfl⟩))
        · exact .inr ⟨p, hp, rfl⟩
    rcases h1 with h1 | ⟨p, hp, rfl⟩
    · exact ⟨fun q => Xown a q h1, fun q => hDown (q ▸ h1)⟩
    · have h2 := (R.out p.2 (List.mem_cons_of_mem _ (List.mem_map.mpr ⟨p, mem_of_lookup (hcl p hp), rfl⟩))).2
      exact ⟨fun q => h2 (hX _ q).2.2, fun q => h2 (hY0 _ (q ▸ List.mem_append_right _ (.head _)))⟩
  have hst4 : St 0 s4.heap := T.frame _ _ _ st (fun b m o e => kp4 b o (O₂.step.keep b o (G_none (hX b m).1) (by simp) e)) fun a o e => ⟨O₁.inv.hF a o e, O₄.inv.hF a o e⟩
  have alive4 : ∀ a ∈ Y, s4.heap.get? a ≠ none := fun a m => by
    rcases List.mem_append.mp m with m | m
    · rcases List.mem_append.mp m with m | m
      · rcases List.mem_cons.mp m with rfl | m
        · exact (R₄.out _ (hlC ▸ .head _)).2
        · obtain ⟨p, hp, rfl⟩ := List.mem_map.mp m
          obtain ⟨⟨o, e, _⟩, _⟩ := ok'.empty p.1 p.2 hp
          rw [e]; simp
      · exact (O₄.step.alive a (O₂.step.alive a (hX a m).2.1))
    · rcases List.mem_cons.mp m with rfl | m
      · rw [kp4 _ _ hD3]; simp
      · cases m
  have hown : ∀ x, scope.names.lookup x = some .cell → ∃ c, own.lookup x = some c := fun x hx => by
    have hs := cellsFrom_some (x := x) scope.names (Cx + 1) [] (.inl hx)
    rw [eown] at hs
    exact Option.isSome_iff_exists.mp hs
  have tsub := own_tgt (t := tgt) hsC hlC key hown ht
  have loop : codeAny (model prog w) A (.compLoop (.ListComp elt [⟨tgt, iter, ifs, 0⟩] scope pos) 0 it (.ref D) cenv) (compPost (model prog w) A (fun _ _ => False) use Q (.ref D) Cx) s4 := by
    refine codeAny_compLoop_own (fun k s' => CompJ prog w K n (relS env.scope scope) tab' tgt ifs elt Q' items Y F₁ G₁ s4 cenv St D k s') (fun k s' hI => ?_) items.length ⟨0, F₁, G₁, ρc, [], [], rfl, Out.refl O₄.inv, R₄, hst4, ⟨_, kp4 _ _ hD3⟩, .nil, hf⟩
    obtain ⟨i, F', G', ρ', acc, vs, hk, O', R', st', hPL, ra, hc⟩ := hI
    have hYu : ∀ a ∈ Y, ¬ Known F' G' a := fun a m => unknown_still O' (hYk a m) (alive4 a m)
    have hu : ∀ a ∈ X, ¬ Known F' G' a := fun a m => hYu a (List.mem_append_left _ (List.mem_append_right _ m))
    by_cases hi : i < items.length
    · have hg : items[i]? = some items[i] := List.getElem?_eq_getElem hi
      rw [drop_get hg] at hc
      refine wpAny_mono (T.turn i _ F' G' s' (fun v s'' => wpAny (model prog w) A (assign tgt cenv v) (fun _ s₂ =>
          wpAny (model prog w) A (forIn ifs true fun c r => if r = true then do let ok ← isTrue c cenv (eval c cenv); pure (ForInStep.yield ok) else pure (ForInStep.yield r)) (fun ok s₃ =>
            if ok = true then wpAny (model prog w) A (eval elt cenv) (fun x s₄ =>
              wpAny (model prog w) A (call (.builtin "list.append") [.ref D, x]) (fun _ s₅ => ∃ m, m < k ∧ CompJ prog w K n (relS env.scope scope) tab' tgt ifs elt Q' items Y F₁ G₁ s4 cenv St D m s₅) (fun _ _ => False) s₄) (fun _ _ => False) s₃
            else ∃ m, m < k ∧ CompJ prog w K n (relS env.scope scope) tab' tgt ifs elt Q' items Y F₁ G₁ s4 cenv St D m s₃) (fun _ _ => False) s₂) (fun _ _ => False) s'') hg O'.step.mono O'.inv hu st' (fun v F₂ s'' O₂ r₂ st₂ => ?_)) (fun r s'' ⟨v, e, q⟩ => ?_) fun _ _ x => x.elim
      · have R₂ := R'.keep O₂ fun a m => (hframe a m).1
        have hDu : ¬ Known F' G' D := hYu D (List.mem_append_right _ (.head _))
        have hDk2 : ¬ Known F₂ G' D := unknown_still O₂ hDu (by obtain ⟨_, e⟩ := hPL; rw [e]; simp)
        have hPL2 : s''.heap.PlainList D vs.toArray := by obtain ⟨m, e⟩ := hPL; exact ⟨m, kept O₂ hDu hDX e⟩
        refine wpAny_mono (hc A cenv F₂ s'' v ok hsC O₂.inv R₂ r₂) (fun _ s₃' ⟨F₃, G₃, ρ₃, O₃', R₃, hb⟩ => ?_) fun _ _ x => x
        have hD3t : D ∉ tgtAddrs cenv tgt := fun m => hDown (tsub D m)
        have Oc : Out prog w K Y F₁ G₁ s4 F₃ G₃ s₃' := (O'.trans (O₂.weaken fun a m => List.mem_append_left _ (List.mem_append_right _ m))).trans (O₃'.weaken fun a m => List.mem_append_left _ (List.mem_append_left _ (tsub a m)))
        have hPL3 : s₃'.heap.PlainList D vs.toArray := by obtain ⟨m, e⟩ := hPL2; exact ⟨m, kept O₃' hDk2 hD3t e⟩
        have st₃ : St (i + 1) s₃'.heap := T.frame _ _ _ st₂ (fun b m o e => kept O₃' (unknown_still O₂ (hu b m) (O'.step.alive b (alive4 b (List.mem_append_left _ (List.mem_append_right _ m))))) (fun q => Xown b m (tsub b q)) e) fun a o e => ⟨O₂.inv.hF a o (O₂.step.mono a o (O'.step.mono a o e)), O₃'.inv.hF a o (O₃'.step.mono a o (O₂.step.mono a o (O'.step.mono a o e)))⟩
        have ra3 : RepAll w.params F₃ acc vs := (ra.mono O₂.step.mono).mono O₃'.step.mono
        have later : ∀ {F₅ : FH} {G₅ : GH} {s₅ : Shared}, Out prog w K [] F₃ G₃ s₃' F₅ G₅ s₅ → Out prog w K Y F₁ G₁ s4 F₅ G₅ s₅ ∧ Fra w cenv tab' ρ₃ F₅ G₅ s₅.heap ∧ St (i + 1) s₅.heap ∧ s₅.heap.PlainList D vs.toArray ∧ RepAll w.params F₅ acc vs ∧ ¬ Known F₅ G₅ D := by
          intro F₅ G₅ s₅ O₅
          have O6 := Oc.trans O₅.nil
          have Yk3 : ∀ a ∈ Y, ¬ Known F₃ G₃ a := fun a m => unknown_still Oc (hYk a m) (alive4 a m)
          refine ⟨O6, R₃.nil O₅, T.frame _ _ _ st₃ (fun b m o e => kept O₅ (Yk3 b (List.mem_append_left _ (List.mem_append_right _ m))) (by simp) e) fun a o e => ⟨Oc.inv.hF a o (Oc.step.mono a o e), O6.inv.hF a o (O6.step.mono a o e)⟩, ?_, ra3.mono O₅.step.mono, unknown_still O6 hDk (alive4 D (List.mem_append_right _ (.head _)))⟩
          obtain ⟨m, e⟩ := hPL3
          exact ⟨m, kept O₅ (Yk3 D (List.mem_append_right _ (.head _))) (by simp) e⟩
        have push : ∀ {F₅ : FH} {G₅ : GH} {s₅ : Shared} {e : Mine.D} {x : Value}, Out prog w K [] F₃ G₃ s₃' F₅ G₅ s₅ → Rep w.params F₅ e x → acc.length < 2 ^ 20 → CompX prog w K n (relS env.scope scope) tab' tgt ifs elt Q' (items.drop (i + 1)) (acc ++ [e]) ρ₃ G₅ →
            wpAny (model prog w) A (call (.builtin "list.append") [.ref D, x]) (fun _ s₅ => ∃ m, m < k ∧ CompJ prog w K n (relS env.scope scope) tab' tgt ifs elt Q' items Y F₁ G₁ s4 cenv St D m s₅) (fun _ _ => False) s₅ := by
          intro F₅ G₅ s₅ e x O₅ rx hl hX5
          obtain ⟨O6, R6, st6, pl6, ra6, uk6⟩ := later O₅
          refine wpAny_list_append_plain pl6 (fun h' pl' hs' => ?_) (by rw [toArray_size]; exact size_ok ra6 hl)
          have O7 : Out prog w K [D] F₅ G₅ s₅ F₅ G₅ { s₅ with heap := h' } := Out.other (X := [D]) (t := s₅.toks) O6.inv (fun a o m e => hs'.extBut a o (fun z => m (z ▸ .head _)) e) (fun a m => by
              rcases List.mem_cons.mp m with rfl | m
              · obtain ⟨_, e⟩ := pl'; rw [e]; simp
              · cases m) (fun a m => by
              rcases List.mem_cons.mp m with rfl | m
              · exact uk6
              · cases m)
          refine ⟨k - 1, by (first | with_reducible assumption | exact Nat.lt_of_lt_of_le (by assumption) (by decide) | exact Nat.lt_of_le_of_lt (by assumption) (by decide) | lia | omega), i + 1, F₅, G₅, ρ₃, acc ++ [e], vs ++ [x], by (first | with_reducible assumption | exact Nat.lt_of_lt_of_le (by assumption) (by decide) | exact Nat.lt_of_le_of_lt (by assumption) (by decide) | lia | omega), O6.trans (O7.weaken fun a m => List.mem_append_right _ m), R6.keep O7 fun a m q => ?_, ?_, ?_, ra6.append (.cons rx .nil), hX5⟩
          · rcases List.mem_cons.mp q with rfl | q
            · exact (hframe _ m).2 rfl
            · cases q
          · refine T.frame _ _ _ st6 (fun b m o e => hs'.extBut b o (fun z => hDX (z ▸ m)) e) fun a o e => ⟨O6.inv.hF a o (O6.step.mono a o e), O7.inv.hF a o (O6.step.mono a o e)⟩
          · have : (vs ++ [x]).toArray = vs.toArray.push x := by simp
            rw [this]; exact pl'
        cases ifs with
        | nil =>
          refine wpAny_tests_nil ?_
          rw [if_pos rfl]
          refine wpAny_mono (hb A cenv F₃ s₃' ok hsC Oc.inv R₃) (fun x s₅ ⟨F₅, G₅, e, O₅, rx, hl, hX5⟩ => push O₅ rx hl hX5) fun _ _ x => x
        | cons t rest =>
          cases rest with
          | nil =>
            refine wpAny_tests_one (wpAny_mono (hb A cenv F₃ s₃' ok hsC Oc.inv R₃) (fun c s₅ ⟨F₅, G₅, O₅, h1, h2⟩ => ?_) fun _ _ x => x)
            cases c with
            | true =>
              rw [if_pos rfl]
              refine wpAny_mono (h1 rfl A cenv F₅ s₅ ok hsC O₅.inv (R₃.nil O₅)) (fun x s₆ ⟨F₆, G₆, e, O₆, rx, hl, hX5⟩ => push (O₅.trans O₆) rx hl hX5) fun _ _ x => x
            | false =>
              rw [if_neg (by decide)]
              obtain ⟨O6, R6, st6, pl6, ra6, uk6⟩ := later O₅
              exact ⟨k - 1, by (first | with_reducible assumption | exact Nat.lt_of_lt_of_le (by assumption) (by decide) | exact Nat.lt_of_le_of_lt (by assumption) (by decide) | lia | omega), i + 1, F₅, G₅, ρ₃, acc, vs, by (first | with_reducible assumption | exact Nat.lt_of_lt_of_le (by assumption) (by decide) | exact Nat.lt_of_le_of_lt (by assumption) (by decide) | lia | omega), O6, R6, st6, pl6, ra6, h2 rfl⟩
          | cons _ _ => exact hb.elim
      · subst e
        exact q
    · have e : i = items.length := by (first | with_reducible assumption | exact Nat.lt_of_lt_of_le (by assumption) (by decide) | exact Nat.lt_of_le_of_lt (by assumption) (by decide) | lia | omega)
      subst e
      rw [List.drop_length] at hc
      refine wpAny_mono (T.done F' G' s' (fun s'' => compPost (model prog w) A (fun _ _ => False) use Q (.ref D) Cx (.ok .next) s'') O'.step.mono O'.inv hu st' fun s'' sm kp => ?_) (fun r s'' ⟨e, q⟩ => ?_) fun _ _ x => x.elim
      · have Od : Out prog w K [] F G s F' G' s' := Out.drop (Y := []) (X := Y) Oall O' hY0
        have Oe := Od.tail sm kp hu fun a m => (hX a m).2.2
        obtain ⟨m, ePL⟩ := hPL
        have e3 := kp D _ hDX ePL
        have hDn := hYu D (List.mem_append_right _ (.head _))
        have fD : F' D = none := by
          cases z : F' D with
          | none => rfl
          | some o => exact absurd (.inl (by rw [z]; simp)) hDn
        obtain ⟨mm, hn, _⟩ := R'.ns
        have hCY : Cx ∈ Y := List.mem_append_left _ (List.mem_append_left _ (.head _))
        have hne : Cx ≠ D := fun z => Nat.lt_irrefl _ (z ▸ hDlt)
        exact fin _ G' s'' acc D Cx mm vs m Oe (hY0 D (List.mem_append_right _ (.head _))) fD (G_none hDn) e3 ra hc (ns_at (hlC ▸ hn) fun o e => kp _ o (fun q => Xown Cx q (.head _)) e) (hY0 Cx hCY) (hYu Cx hCY) hne
      · subst e
        exact q
  exact codeAny_compStart_list loop (wpAny_mono (T.self 0 _ (fun it' s' => codeAny (model prog w) A (.compLoop (.ListComp elt [⟨tgt, iter, ifs, 0⟩] scope pos) 0 it' (.ref D) cenv) (compPost (model prog w) A (fun _ _ => False) use Q (.ref D) Cx) s') hst4 loop) (fun _ _ x => x) fun _ _ x => x.elim)
theorem comp_core {use : Option (Value → Sem Unit)} {elt tgt iter : Expr} {ifs : List Expr} {scope : Scope} {pos fp : Pos} {tab' : Tab} {ρc : Loc} {Q' : List D → GH → Prop} {Q : Value → Shared → Prop}
    (ok : OkA n A) (hsc : env.scope = sc) (I : Inv prog w K F G s.heap) (R : Fra w env tab ρ F G s.heap) (C : CompOk sc tab scope tab') (ht : ownTgt scope tgt = true)
    (hcap : ∀ x i d, tab'.lookup x = some i → ρc[i]? = some (some d) → scope.names.lookup x = some .free ∧ ∃ j, tab.lookup x = some j ∧ ρ[j]? = some (some d))
    (h : SRC prog w K n sc tab ρ G iter tgt (fun items G₁ => CompX prog w K n (relS sc scope) tab' tgt ifs elt Q' items [] ρc G₁))
    (hs : ∀ env x, foldedSetIterable iter env x = pure x)
    (fin : ∀ F' G' s' acc D C m, Out prog w K [] F G s F' G' s' → Rep w.params F' (.list acc) (.ref D) → Q' acc G' → s'.heap.Ns C m → s.heap.get? C = none → ¬ Known F' G' C → compPost (model prog w) A (fun _ _ => False) use Q (.ref D) C (.ok .next) s') :
    wpAny (model prog w) A (comprehension (.ListComp elt [⟨tgt, iter, ifs, 0⟩] scope pos) scope env fp (newList []) false (eval iter env) use) Q (fun _ _ => False) s :=
  comp_core0 ok hsc I R C ht hcap h hs fun F' G' s' acc D C m vs mt O d1 d2 d3 e3 ra q hn hC hu hne => fin _ G' s' acc D C m (O.addF d1 d2 d3 e3) (.list FH.put_self (ra.mono (FH.le_put d2))) q hn hC fun k => by
    rcases k with k | k
    · rw [FH.put_ne hne] at k; exact hu (.inl k)
    · exact hu (.inr k)
end
section
variable {prog : Program} {w : World} {K : Frag} {n : Nat} {sc : Scope} {tab : Tab} {ρ : Loc} {G : GH} {F : FH} {A : Around} {s : Shared} {env : Env}

noncomputable def Cap (scope : Scope) (tab tab' : Tab) (ρ ρc : Loc) : Prop := ∀ x i d, tab'.lookup x = some i → ρc[i]? = some (some d) → scope.names.lookup x = some .free ∧ ∃ j, tab.lookup x = some j ∧ ρ[j]? = some (some d)

theorem ns_alive {h : Heap} {C : Addr} {m : Str → Option Value} (n : h.Ns C m) : h.get? C ≠ none := by
  obtain ⟨o, _, _, e, _⟩ := n; rw [e]; simp

theorem EX_comp {elt tgt iter : Expr} {ifs : List Expr} {scope : Scope} {pos : Pos} {tab' : Tab} {ρc : Loc} {Q : D → GH → Prop} (C : CompOk sc tab scope tab') (ht : ownTgt scope tgt = true) (hcap : Cap scope tab tab' ρ ρc)
    (h : SRC prog w K n sc tab ρ G iter tgt (fun items G₁ => CompX prog w K n (relS sc scope) tab' tgt ifs elt (fun acc G' => Q (.list acc) G') items [] ρc G₁)) (hs : ∀ env x, foldedSetIterable iter env x = pure x := by intro _ _; rfl) :
    EX prog w K n sc tab ρ G (.ListComp elt [⟨tgt, iter, ifs, 0⟩] scope pos) Q := by
  intro A env F s ok hsc I R
  show wpAny _ _ (comprehension (.ListComp elt [⟨tgt, iter, ifs, 0⟩] scope pos) scope env _ (newList []) false (eval iter env) none) _ _ _
  refine comp_core ok hsc I R C ht hcap h hs fun F' G' s' acc D Cx m O r q hn hC hu => ?_
  refine ⟨m, hn, fun h' hs' => ?_⟩
  exact ⟨F', G', _, O.tail (X := [Cx]) (s'' := { s' with heap := h' }) (Same.mk' h' s'.toks) (fun b o m e => hs'.extBut b o (fun z => m (z ▸ .head _)) e) (fun a m => by
      rcases List.mem_cons.mp m with rfl | m
      · exact hu
      · cases m) (fun a m => by
      rcases List.mem_cons.mp m with rfl | m
      · exact hC
      · cases m), r, q⟩

theorem S1_comp {x : Str} {px : Pos} {i : Nat} {elt tgt iter : Expr} {ifs : List Expr} {scope : Scope} {pos spos : Pos} {tab' : Tab} {ρc : Loc} {Q : Fl → Loc → GH → Prop} (hx : tab.lookup x = some i) (hinj : tab.inj) (C : CompOk sc tab scope tab') (ht : ownTgt scope tgt = true) (hcap : Cap scope tab tab' ρ ρc)
    (h : SRC prog w K n sc tab ρ G iter tgt (fun items G₁ => CompX prog w K n (relS sc scope) tab' tgt ifs elt (fun acc G' => Q .next (ρ.set i (some (.list acc))) G') items [] ρc G₁)) (hs : ∀ env x, foldedSetIterable iter env x = pure x := by intro _ _; rfl)
    (hsw : ∀ env : Env, env.scope = sc → swapsWith (.ListComp elt [⟨tgt, iter, ifs, 0⟩] scope pos) (some (.Name x px)) spos.line env = pure true) :
    S1 prog w K n sc tab ρ G (.Assign [.Name x px] (.ListComp elt [⟨tgt, iter, ifs, 0⟩] scope pos) spos) Q := by
  intro A env F s ok hsc I R
  rw [exec_Assign_Name_used _ _ _ _ (hsw env hsc)]
  refine wpAny_bind (wpAny_standAt (wpAny_bind ?_))
  show wpAny _ A (do let _ ← comprehension (.ListComp elt [⟨tgt, iter, ifs, 0⟩] scope pos) scope env _ (newList []) false (eval iter env) (some (assign (.Name x px) env))) _ _ s
  refine wpAny_bind (wpAny_mono (comp_core (Q := fun _ => SP prog w K env tab F G s Q .next) ok hsc I R C ht hcap h hs fun F' G' s' acc D Cx m O r q hn hC hu => ?_) (fun _ s' hq => wpAny_pure (wpAny_pure hq)) fun _ _ x => x)
  have hCf : Cx ∉ frameAddrs env := fun q => (R.out Cx q).2 hC
  have hCt : Cx ∉ tgtAddrs env (.Name x px) := fun q => hCf (tgtAddrs_sub _ Cx q)
  refine wpAny_mono (AX_name (prog := prog) (w := w) (K := K) (n := n) (sc := sc) (pos := px) (Q := fun ρ' G'' => Q .next ρ' G'') hx hinj q A env F' s' _ ok hsc O.inv (R.nil O) r) (fun _ s'' ⟨F₂, G₂, ρ₂, O₂, R₂, q₂⟩ => ?_) fun _ _ x => x
  refine ⟨m, ns_at hn fun o e => kept O₂ hu hCt e, fun h' hs' => ?_⟩
  have hu2 : ¬ Known F₂ G₂ Cx := unknown_still O₂ hu (ns_alive hn)
  have kp : ∀ b o, b ∉ [Cx] → s''.heap.get? b = some o → h'.get? b = some o := fun b o m e => hs'.extBut b o (fun z => m (z ▸ .head _)) e
  refine ⟨F₂, G₂, ρ₂, .next, (O.nil.trans (O₂.weaken (tgtAddrs_sub _))).tail (X := [Cx]) (s'' := { s'' with heap := h' }) (Same.mk' h' s''.toks) kp (fun a m => by
      rcases List.mem_cons.mp m with rfl | m
      · exact hu2
      · cases m) (fun a m => by
      rcases List.mem_cons.mp m with rfl | m
      · exact hC
      · cases m), R₂.tail (X := [Cx]) (s' := { s'' with heap := h' }) kp (fun a m q => by
      rcases List.mem_cons.mp q with rfl | q
      · exact hCf m
      · cases q), .next, q₂⟩
theorem Out.addG {X : List Addr} {F' : FH} {G' : GH} {s' : Shared} (O : Out prog w K X F G s F' G' s') {T : Addr} {o : Obj} {c : Cell} (hT : s.heap.get? T = none) (f : F' T = none) (g : G' T = none) (e : s'.heap.get? T = some o) (r : CellRel prog w F' c o) : Out prog w K X F G s F' (G'.put T c) s' := by
  refine ⟨O.same, ⟨O.step.keep, O.step.mono, fun a k => ?_, O.step.alive⟩, ⟨O.inv.kF, O.inv.hF, fun a c' q => ?_, fun a q => ?_⟩⟩
  · by_cases m : a = T
    · subst m; exact .inr hT
    · rcases k with k | k
      · exact O.step.dom a (.inl k)
      · rw [GH.put_ne m] at k; exact O.step.dom a (.inr k)
  · by_cases m : a = T
    · subst m; rw [GH.put_self] at q; cases q; exact ⟨o, e, r⟩
    · rw [GH.put_ne m] at q; exact O.inv.hG a c' q
  · have m : a ≠ T := by rintro rfl; exact q f
    rw [GH.put_ne m]; exact O.inv.ap a q
theorem S1_compG {x : Str} {px : Pos} {i : Nat} {elt tgt iter : Expr} {ifs : List Expr} {scope : Scope} {pos spos : Pos} {tab' : Tab} {ρc : Loc} {Q : Fl → Loc → GH → Prop} (hx : tab.lookup x = some i) (hinj : tab.inj) (C : CompOk sc tab scope tab') (ht : ownTgt scope tgt = true) (hcap : Cap scope tab tab' ρ ρc)
    (h : SRC prog w K n sc tab ρ G iter tgt (fun items G₁ => CompX prog w K n (relS sc scope) tab' tgt ifs elt (fun acc G' => ∀ a, G' a = none → Q .next (ρ.set i (some (.ref a))) (G'.put a (.list acc))) items [] ρc G₁)) (hs : ∀ env x, foldedSetIterable iter env x = pure x := by intro _ _; rfl)
    (hsw : ∀ env : Env, env.scope = sc → swapsWith (.ListComp elt [⟨tgt, iter, ifs, 0⟩] scope pos) (some (.Name x px)) spos.line env = pure true) :
    S1 prog w K n sc tab ρ G (.Assign [.Name x px] (.ListComp elt [⟨tgt, iter, ifs, 0⟩] scope pos) spos) Q := by
  intro A env F s ok hsc I R
  rw [exec_Assign_Name_used _ _ _ _ (hsw env hsc)]
  refine wpAny_bind (wpAny_standAt (wpAny_bind ?_))
  show wpAny _ A (do let _ ← comprehension (.ListComp elt [⟨tgt, iter, ifs, 0⟩] scope pos) scope env _ (newList []) false (eval iter env) (some (assign (.Name x px) env))) _ _ s
  refine wpAny_bind (wpAny_mono (comp_core0 (Q := fun _ => SP prog w K env tab F G s Q .next) ok hsc I R C ht hcap h hs fun F' G' s' acc D Cx m vs mt O₀ d1 d2 d3 e3 ra q₀ hn hC hu₀ hne => ?_) (fun _ s' hq => wpAny_pure (wpAny_pure hq)) fun _ _ x => x)
  have O := O₀.addG d1 d2 d3 e3 (CellRel.list ra)
  have q := q₀ D d3
  have hu : ¬ Known F' (G'.put D (.list acc)) Cx := fun k => by
    rcases k with k | k
    · exact hu₀ (.inl k)
    · rw [GH.put_ne hne] at k; exact hu₀ (.inr k)
  have hCf : Cx ∉ frameAddrs env := fun q => (R.out Cx q).2 hC
  have hCt : Cx ∉ tgtAddrs env (.Name x px) := fun q => hCf (tgtAddrs_sub _ Cx q)
  refine wpAny_mono (AX_name (prog := prog) (w := w) (K := K) (n := n) (sc := sc) (pos := px) (Q := fun ρ' G'' => Q .next ρ' G'') hx hinj q A env F' s' _ ok hsc O.inv (R.nil O) (.ref D)) (fun _ s'' ⟨F₂, G₂, ρ₂, O₂, R₂, q₂⟩ => ?_) fun _ _ x => x
  refine ⟨m, ns_at hn fun o e => kept O₂ hu hCt e, fun h' hs' => ?_⟩
  have hu2 : ¬ Known F₂ G₂ Cx := unknown_still O₂ hu (ns_alive hn)
  have kp : ∀ b o, b ∉ [Cx] → s''.heap.get? b = some o → h'.get? b = some o := fun b o m e => hs'.extBut b o (fun z => m (z ▸ .head _)) e
  refine ⟨F₂, G₂, ρ₂, .next, (O.nil.trans (O₂.weaken (tgtAddrs_sub _))).tail (X := [Cx]) (s'' := { s'' with heap := h' }) (Same.mk' h' s''.toks) kp (fun a m => by
      rcases List.mem_cons.mp m with rfl | m
      · exact hu2
      · cases m) (fun a m => by
      rcases List.mem_cons.mp m with rfl | m
      · exact hC
      · cases m), R₂.tail (X := [Cx]) (s' := { s'' with heap := h' }) kp (fun a m q => by
      rcases List.mem_cons.mp q with rfl | q
      · exact hCf m
      · cases q), .next, q₂⟩
theorem swaps_true {elt : Expr} {gens : List Comprehension} {scope : Scope} {pos p : Pos} {t : Str} {l : Nat} (hk : sc.kind = .function)
    (h : (sc.names.lookup t == some .local && p.line == (Expr.ListComp elt gens scope pos).pos.line && !(scope.names.any fun (n, k) => n == t && (k == .local || k == .cell))) = true) :
    ∀ env : Env, env.scope = sc → swapsWith (.ListComp elt gens scope pos) (some (.Name t p)) l env = pure true := by
  intro env e
  subst e
  show (pure (env.blockKind == .function && env.kindOf t == some .local && p.line == (Expr.ListComp elt gens scope pos).pos.line && !(scope.names.any fun (n, k) => n == t && (k == .local || k == .cell))) : Sem Bool) = _
  have : (env.blockKind == .function) = true := by unfold Env.blockKind; rw [hk]; rfl
  rw [this]
  simp only [Bool.and_eq_true] at h
  simp only [Bool.true_and]
  have h1 : env.kindOf t == some .local := h.1.1
  rw [h1, h.1.2, h.2]; rfl
theorem swaps_false {elt : Expr} {gens : List Comprehension} {scope : Scope} {pos p : Pos} {t : Str} {l : Nat} 
    (h : (sc.names.lookup t == some .local) = false) :
    ∀ env : Env, env.scope = sc → swapsWith (.ListComp elt gens scope pos) (some (.Name t p)) l env = pure false := by
  intro env e
  subst e
  show (pure (env.blockKind == .function && env.kindOf t == some .local && p.line == (Expr.ListComp elt gens scope pos).pos.line && !(scope.names.any fun (n, k) => n == t && (k == .local || k == .cell))) : Sem Bool) = _
  have h1 : (env.kindOf t == some .local) = false := h
  rw [h1, Bool.and_false]; rfl

noncomputable def tabOk (tab : Tab) : Bool := decide ((tab.map (·.2)).Nodup)
theorem tab_inj {tab : Tab} (h : tabOk tab = true) : tab.inj := by
  intro x y i hx hy
  have nd := of_decide_eq_true h
  have mx := mem_of_lookup hx
  have my := mem_of_lookup hy
  clear hx hy h
  induction tab with
  | nil => cases mx
  | cons p r ih =>
    rw [List.map_cons, List.nodup_cons] at nd
    rcases List.mem_cons.mp mx with e | mx2
    · rcases List.mem_cons.mp my with e' | my2
      · rw [← e] at e'; cases e'; rfl
      · subst e; exact absurd (List.mem_map.mpr ⟨(y, i), my2, rfl⟩ : i ∈ r.map (·.2)) nd.1
    · rcases List.mem_cons.mp my with e' | my2
      · subst e'; exact absurd (List.mem_map.mpr ⟨(x, i), mx2, rfl⟩ : i ∈ r.map (·.2)) nd.1
      · exact ih nd.2 mx2 my2
noncomputable def compChk (sc : Scope) (tab : Tab) (scope : Scope) (tab' : Tab) : Bool :=
  scope.kind == .function && scope.names.all (fun x => x.2 != .local || scope.names.lookup x.1 == some .local) && decide ((scope.names.map (·.1)).Nodup) &&
  scope.names.all (fun x => x.2 != .free || ((tab.lookup x.1).isSome && sc.names.lookup x.1 != some .local)) && scope.names.all (fun x => !(x.1 == ("__classdict__" : Str))) &&
  tab'.all (fun p => scope.names.lookup p.1 == some .local || scope.names.lookup p.1 == some .cell || scope.names.lookup p.1 == some .free) && tabOk tab'
theorem comp_ok {scope : Scope} {tab' : Tab} (h : compChk sc tab scope tab' = true) : CompOk sc tab scope tab' := by
  simp only [compChk, Bool.and_eq_true] at h
  obtain ⟨⟨⟨⟨⟨⟨h1, h2⟩, h3⟩, h4⟩, h5⟩, h6⟩, h7⟩ := h
  refine ⟨eq_of_beq h1, fun x m e => ?_, of_decide_eq_true h3, fun x m e => ?_, fun x m => ?_, fun x i e => ?_, tab_inj h7⟩
  · have := List.all_eq_true.mp h2 x m
    rw [e] at this
    simpa using this
  · have := List.all_eq_true.mp h4 x m
    rw [e] at this
    simp only [bne_self_eq_false, Bool.false_or, Bool.and_eq_true, bne_iff_ne] at this
    exact this
  · simpa using List.all_eq_true.mp h5 x m
  · have := List.all_eq_true.mp h6 (x, i) (mem_of_lookup e)
    simp only [Bool.or_eq_true, beq_iff_eq] at this
    rcases this with (h | h) | h
    · exact .inl h
    · exact .inr (.inl h)
    · exact .inr (.inr h)
noncomputable def capIdx (scope : Scope) (tab tab' : Tab) : List (Option Nat) := tab'.map fun p => if scope.names.lookup p.1 = some .free then tab.lookup p.1 else none
noncomputable def pick (ρ : Loc) (l : List (Option Nat)) : Loc := l.map fun o => o.bind fun j => (ρ[j]?).join
theorem cap_of {scope : Scope} {tab tab' : Tab} {ρ : Loc} {l : List (Option Nat)} (hi : tab'.map (·.2) = List.range tab'.length) (e : capIdx scope tab tab' = l) : Cap scope tab tab' ρ (pick ρ l) := by
  subst e
  intro x i d hx hd
  have m := mem_of_lookup hx
  have : tab'[i]? = some (x, i) := by
    obtain ⟨j, hj, ej⟩ := List.mem_iff_getElem.mp m
    have h1 : (tab'.map (·.2))[j]? = some i := by rw [List.getElem?_map, List.getElem?_eq_getElem hj, ej]; rfl
    rw [hi, List.getElem?_range hj] at h1
    cases h1
    rw [List.getElem?_eq_getElem hj, ej]
  simp only [pick, capIdx, List.map_map, List.getElem?_map, this, Option.map_some, Function.comp] at hd
  by_cases q : scope.names.lookup x = some .free
  · rw [if_pos q] at hd
    refine ⟨q, ?_⟩
    cases z : tab.lookup x with
    | none => rw [z] at hd; cases hd
    | some j =>
      rw [z] at hd
      simp only [Option.bind_some, Option.some.injEq] at hd
      refine ⟨j, rfl, ?_⟩
      cases y : ρ[j]? with
      | none => rw [y] at hd; cases hd
      | some o => rw [y] at hd; simp only [Option.join_some] at hd; rw [hd]
  · rw [if_neg q] at hd; cases hd
end
section
variable {prog : Program} {w : World} {K : Frag} {n : Nat} {sc : Scope} {tab : Tab} {ρ : Loc} {G : GH} {F : FH} {A : Around} {s : Shared} {env : Env} {a b : Int} {Q : D → GH → Prop}

theorem OP_ii {f : Value → Value → Sem Value} {d : D} (q : Q d G) (h : ∀ (A : Around) (F : FH) (s : Shared) (t u : Tok) (R : Value → Shared → Prop), OkA n A → Inv prog w K F G s.heap → (∀ tk v, Rep w.params F d v → R v { s with toks := tk }) → wpAny (model prog w) A (f (.int a t) (.int b u)) R (fun _ _ => False) s) : OP prog w K n G [.int a, .int b] (two f) Q := by
  intro A F s vs ok I r
  cases r with
  | cons r1 r =>
    cases r with
    | cons r2 r =>
      (first | obtain rfl := r.inv | obtain ⟨_, rfl⟩ := r.inv | cases r); (first | obtain rfl := r1.inv | obtain ⟨_, rfl⟩ := r1.inv | cases r1); (first | obtain rfl := r2.inv | obtain ⟨_, rfl⟩ := r2.inv | cases r2)
      exact h A F s _ _ _ ok I fun tk v rv => ⟨F, G, d, Out.toks I tk, rv, q⟩

theorem OP_add (q : Q (.int (a + b)) G) : OP prog w K n G [.int a, .int b] (two (binaryOp .Add)) Q := OP_ii q fun A F s t u R _ _ h => PySem.AutoIntOps.add_0 (h _ _ (.int _ _))
theorem OP_sub (q : Q (.int (a - b)) G) : OP prog w K n G [.int a, .int b] (two (binaryOp .Sub)) Q := OP_ii q fun A F s t u R _ _ h => PySem.AutoIntOps.sub_0 (h _ _ (.int _ _))
theorem OP_mul (q : Q (.int (a * b)) G) (hm : IntMulOk a b) : OP prog w K n G [.int a, .int b] (two (binaryOp .Mult)) Q := OP_ii q fun A F s t u R _ _ h => PySem.AutoIntOps.mul_0 (h _ _ (.int _ _)) hm
theorem OP_mod (q : Q (.int (a.fmod b)) G) (hb : b ≠ 0) : OP prog w K n G [.int a, .int b] (two (binaryOp .Mod)) Q := OP_ii q fun A F s t u R _ _ h => PySem.AutoIntOps.mod_1 (by simpa using hb) (h _ _ (.int _ _))
theorem OP_fdiv (q : Q (.int (a.fdiv b)) G) (hb : b ≠ 0) (hs : b.natAbs < 1073741824) : OP prog w K n G [.int a, .int b] (two (binaryOp .FloorDiv)) Q := OP_ii q fun A F s t u R _ _ h => PySem.AutoIntOps.floordiv_1 (by simpa using hb) (by rw [PyProof.noPylong_small hs]; decide) (h _ _ (.int _ _))
theorem OP_pow (q : Q (.int (a ^ b.toNat)) G) (hb : 0 ≤ b) (hs : (Builtin.Int.intBits a : Int) * b ≤ 2 ^ 27) : OP prog w K n G [.int a, .int b] (two (binaryOp .Pow)) Q := OP_ii q fun A F s t u R _ _ h => PyProof.Rows.pow_int hb hs (h _ _ (.int _ _))
theorem OP_shl (q : Q (.int (a * 2 ^ b.toNat)) G) (hb : 0 ≤ b) (hs : (Builtin.Int.intBits a : Int) + b ≤ 2 ^ 27) : OP prog w K n G [.int a, .int b] (two (binaryOp .LShift)) Q := OP_ii q fun A F s t u R _ _ h => PyProof.Rows.lshift_int hb hs (h _ _ (.int _ _))
theorem OP_or (q : Q (.int (Builtin.bitOr a b)) G) : OP prog w K n G [.int a, .int b] (two (binaryOp .BitOr)) Q := OP_ii q fun A F s t u R _ _ h => PyProof.Rows.or_int (h _ _ (.int _ _))
theorem OP_and (q : Q (.int (Builtin.bitAnd a b)) G) : OP prog w K n G [.int a, .int b] (two (binaryOp .BitAnd)) Q := OP_ii q fun A F s t u R _ _ h => PyProof.Rows.and_int (h _ _ (.int _ _))
theorem OP_lt (q : Q (.bool (decide (a < b))) G) : OP prog w K n G [.int a, .int b] (two (compareOp .Lt)) Q := OP_ii q fun A F s t u R _ _ h => PyProof.Rows.lt_int (h s.toks _ (.bool _))
theorem OP_gt (q : Q (.bool (decide (a > b))) G) : OP prog w K n G [.int a, .int b] (two (compareOp .Gt)) Q := OP_ii q fun A F s t u R _ _ h => PyProof.Rows.gt_int (h s.toks _ (.bool _))
theorem OP_ge (q : Q (.bool (decide (b ≤ a))) G) : OP prog w K n G [.int a, .int b] (two (compareOp .GtE)) Q := OP_ii q fun A F s t u R _ _ h => PyProof.Rows.ge_int (h s.toks _ (.bool _))
theorem OP_eqi (q : Q (.bool (a == b)) G) : OP prog w K n G [.int a, .int b] (two (compareOp .Eq)) Q := OP_ii q fun A F s t u R _ _ h => PySem.IsLeap.wpAny_eq_int' (h s.toks _ (.bool _))
theorem OP_nei (q : Q (.bool (a != b)) G) : OP prog w K n G [.int a, .int b] (two (compareOp .NotEq)) Q := OP_ii q fun A F s t u R _ _ h => PySem.IsLeap.wpAny_ne_int (h s.toks _ (.bool _))
theorem OP_shr (q : Q (.int (a.fdiv (2 ^ b.toNat))) G) (ha : 0 ≤ a) (hb : 0 ≤ b) : OP prog w K n G [.int a, .int b] (two (binaryOp .RShift)) Q := OP_ii q fun A F s t u R _ _ h => PyProof.Rows.rshift_int hb (h _ _ (.int _ _))
end
open PySem PySem.W PyProof.Rows PySem.Calls PySem.SeqAt

noncomputable def Like0 : D → D → Prop
  | .int _, .int _ => True
  | .str _, .str _ => True
  | _, _ => False
noncomputable def Like : Nat → D → D → Prop
  | 0, a, b => Like0 a b
  | k + 1, .list ds, .list es => ∀ x ∈ ds, ∀ y ∈ es, Like k x y
  | k + 1, .tup ds, .tup es => ∀ x ∈ ds, ∀ y ∈ es, Like k x y
  | _ + 1, a, b => Like0 a b

section
variable {P : Params} {F : FH}
theorem like0_cases {d e : D} (h : Like0 d e) : (∃ i j, d = .int i ∧ e = .int j) ∨ (∃ x y, d = .str x ∧ e = .str y) := by
  cases d <;> cases e <;> first | exact False.elim h | exact .inl ⟨_, _, rfl, rfl⟩ | exact .inr ⟨_, _, rfl, rfl⟩
theorem like0_inj {d e : D} {v : Value} (h : Like0 d e) (r : Rep P F d v) (r' : Rep P F e v) : d = e := by
  rcases like0_cases h with ⟨i, j, rfl, rfl⟩ | ⟨x, y, rfl, rfl⟩ <;> ((first | obtain rfl := r.inv | obtain ⟨_, rfl⟩ := r.inv | cases r); (first | obtain rfl := r'.inv | obtain ⟨_, rfl⟩ := r'.inv | cases r'); rfl)
theorem all_inj {R : D → D → Prop} (hR : ∀ d e v, R d e → Rep P F d v → Rep P F e v → d = e) : ∀ {ds es : List D} {vs : List Value}, (∀ x ∈ ds, ∀ y ∈ es, R x y) → RepAll P F ds vs → RepAll P F es vs → ds = es
  | [], es, _, _, h1, h2 => by cases h1; cases h2; rfl
  | d :: ds, es, _, h, h1, h2 => by
    cases h1 with
    | cons a b =>
      cases h2 with
      | cons a' b' =>
        rw [hR _ _ _ (h _ (.head _) _ (.head _)) a a', all_inj hR (fun x m y m' => h x (.tail _ m) y (.tail _ m')) b b']
theorem toArray_inj {α : Type} {a b : List α} (h : a.toArray = b.toArray) : a = b := by simpa using h
theorem like_inj : ∀ (k : Nat) (d e : D) (v : Value), Like k d e → Rep P F d v → Rep P F e v → d = e
  | 0, _, _, _, h, r, r' => like0_inj h r r'
  | k + 1, d, e, v, h, r, r' => by
    cases d <;> cases e <;> first | exact like0_inj h r r' | skip
    · cases r with
      | list f1 r1 =>
        cases r' with
        | list f2 r2 =>
          rw [f1] at f2
          have e := Option.some.inj f2
          simp only [seqO, Obj.mk.injEq, Data.seq.injEq] at e
          have e := toArray_inj e.2.2.1.1
          subst e
          rw [all_inj (like_inj k) h r1 r2]
    · cases r with
      | tup f1 q1 r1 =>
        cases r' with
        | tup f2 q2 r2 =>
          rw [f1] at f2
          have e := Option.some.inj f2
          subst e
          obtain ⟨_, n1, d1⟩ := q1
          obtain ⟨_, n2, d2⟩ := q2
          rw [d1] at d2
          simp only [Data.seq.injEq] at d2
          have e := toArray_inj d2.1
          subst e
          rw [all_inj (like_inj k) h r1 r2]
end

section
variable {P : Params} {F : FH} {s : Shared}
theorem RepAll.at {ds : List D} {vs : List Value} (r : RepAll P F ds vs) {j : Nat} (h : j < vs.toArray.size) : ∃ d, ds[j]? = some d ∧ d ∈ ds ∧ Rep P F d vs.toArray[j] := by
  have h' : j < vs.length := by simpa using h
  obtain ⟨d, e, q⟩ := r.getR (List.getElem?_eq_getElem h')
  exact ⟨d, e, List.mem_of_getElem? e, by simpa using q⟩
theorem range_all {ds es : List D} {e : Nat → Bool} {m : Nat} (hd : ds.length = m) (he : es.length = m) (h : ∀ j, j < m → (e j = true ↔ ds[j]? = es[j]?)) : ((List.range m).all e = true ↔ ds = es) := by
  rw [List.all_eq_true]
  constructor
  · intro q
    apply List.ext_getElem?
    intro j
    by_cases z : j < m
    · exact (h j z).mp (q j (List.mem_range.mpr z))
    · rw [List.getElem?_eq_none (by (first | with_reducible assumption | exact Nat.lt_of_lt_of_le (by assumption) (by decide) | exact Nat.lt_of_le_of_lt (by assumption) (by decide) | lia | omega)), List.getElem?_eq_none (by (first | with_reducible assumption | exact Nat.lt_of_lt_of_le (by assumption) (by decide) | exact Nat.lt_of_le_of_lt (by assumption) (by decide) | lia | omega))]
  · rintro rfl j hj
    exact (h j (List.mem_range.mp hj)).mpr rfl
theorem eqAt0 {d e : D} {v u : Value} {A : Around} (h : Like0 d e) (r : Rep P F d v) (r' : Rep P F e u) : ∃ b, (b = true ↔ d = e) ∧ EqAt A s v u b := by
  rcases like0_cases h with ⟨i, j, rfl, rfl⟩ | ⟨x, y, rfl, rfl⟩
  · (first | obtain rfl := r.inv | obtain ⟨_, rfl⟩ := r.inv | cases r); (first | obtain rfl := r'.inv | obtain ⟨_, rfl⟩ := r'.inv | cases r')
    exact ⟨_, by simp, EqAt.int_int _ _ _ _⟩
  · (first | obtain rfl := r.inv | obtain ⟨_, rfl⟩ := r.inv | cases r); (first | obtain rfl := r'.inv | obtain ⟨_, rfl⟩ := r'.inv | cases r')
    exact ⟨_, by simp, EqAt.str_str _ _ _ _⟩
open Classical in
set_option tactic.hygienic true in
theorem eqAt (hF : ∀ a o, F a = some o → s.heap.get? a = some o) : ∀ (k : Nat) (d e : D) (v u : Value) (A : Around), Like k d e → Rep P F d v → Rep P F e u → A.units + k < cLine → ∃ b, (b = true ↔ d = e) ∧ EqAt A s v u b := by
  intro k
  induction k with
  | zero =>
    intro d e v u A h r r' hu
    exact eqAt0 h r r'
  | succ k ih =>
    intro d e v u A h r r' hu
    cases d <;> cases e <;> first | exact eqAt0 h r r' | skip
    · rename_i ds es
      by_cases e : v = u
      · subst e
        exact ⟨true, by simp [like_inj (k + 1) (.list ds) (.list es) v h r r'], EqAt.same _⟩
      · cases r with
        | list f1 r1 =>
          cases r' with
          | list f2 r2 =>
            rename_i a vs na b us nb
            have hne : a ≠ b := fun q => e (by rw [q])
            have l1 : s.heap.IsList a vs.toArray := ⟨_, hF _ _ f1, rfl, _, rfl⟩
            have l2 : s.heap.IsList b us.toArray := ⟨_, hF _ _ f2, rfl, _, rfl⟩
            by_cases hl : vs.length = us.length
            · have all : ∀ j, ∃ b, j < vs.length → (b = true ↔ ds[j]? = es[j]?) ∧ ∀ (h1 : j < vs.toArray.size) (h2 : j < us.toArray.size), EqAt A.in1 s vs.toArray[j] us.toArray[j] b := fun j => by
                by_cases hj : j < vs.length
                · obtain ⟨d, e1, m1, q1⟩ := r1.at (j := j) (by simpa using hj)
                  obtain ⟨d', e2, m2, q2⟩ := r2.at (j := j) (by simpa [← hl] using hj)
                  obtain ⟨b, hb, hq⟩ := ih d d' _ _ A.in1 (h d m1 d' m2) q1 q2 (by show A.units + 1 + k < cLine; (first | with_reducible assumption | exact Nat.lt_of_lt_of_le (by assumption) (by decide) | exact Nat.lt_of_le_of_lt (by assumption) (by decide) | lia | omega))
                  exact ⟨b, fun _ => ⟨by rw [e1, e2, hb]; simp, fun _ _ => hq⟩⟩
                · exact ⟨false, fun z => absurd z hj⟩
              obtain ⟨eb, he⟩ := Classical.skolem.mp all
              refine ⟨(List.range vs.toArray.size).all eb, ?_, EqAt.of_refs hne (RcAt.lists l1 l2 (by simp [hl]) (by (first | with_reducible assumption | exact Nat.lt_of_lt_of_le (by assumption) (by decide) | exact Nat.lt_of_le_of_lt (by assumption) (by decide) | lia | omega)) fun j h1 h2 => (he j (by simpa using h1)).2 h1 h2)⟩
              rw [toArray_size, range_all r1.length (by rw [r2.length, hl]) fun j hj => (he j hj).1]
              simp
            · refine ⟨false, ?_, EqAt.of_refs hne (RcAt.lists_lengths l1 l2 (by simpa using hl) (by (first | with_reducible assumption | exact Nat.lt_of_lt_of_le (by assumption) (by decide) | exact Nat.lt_of_le_of_lt (by assumption) (by decide) | lia | omega)))⟩
              simp only [Bool.false_eq_true, false_iff, D.list.injEq]
              rintro rfl
              exact hl (r1.length.symm.trans r2.length)
    · rename_i ds es
      by_cases e : v = u
      · subst e
        exact ⟨true, by simp [like_inj (k + 1) (.tup ds) (.tup es) v h r r'], EqAt.same _⟩
      · cases r with
        | tup f1 q1 r1 =>
          cases r' with
          | tup f2 q2 r2 =>
            rename_i a vs o1 b us o2
            have hne : a ≠ b := fun q => e (by rw [q])
            have l1 : s.heap.IsTuple a vs.toArray := ⟨_, hF _ _ f1, q1.1, q1.2⟩
            have l2 : s.heap.IsTuple b us.toArray := ⟨_, hF _ _ f2, q2.1, q2.2⟩
            have all : ∀ j, ∃ b, j < vs.length → j < us.length → (b = true ↔ ds[j]? = es[j]?) ∧ ∀ (h1 : j < vs.toArray.size) (h2 : j < us.toArray.size), EqAt A.in1 s vs.toArray[j] us.toArray[j] b := fun j => by
              by_cases hj : j < vs.length
              · by_cases hj2 : j < us.length
                · obtain ⟨d, e1, m1, q1⟩ := r1.at (j := j) (by simpa using hj)
                  obtain ⟨d', e2, m2, q2⟩ := r2.at (j := j) (by simpa using hj2)
                  obtain ⟨b, hb, hq⟩ := ih d d' _ _ A.in1 (h d m1 d' m2) q1 q2 (by show A.units + 1 + k < cLine; (first | with_reducible assumption | exact Nat.lt_of_lt_of_le (by assumption) (by decide) | exact Nat.lt_of_le_of_lt (by assumption) (by decide) | lia | omega))
                  exact ⟨b, fun _ _ => ⟨by rw [e1, e2, hb]; simp, fun _ _ => hq⟩⟩
                · exact ⟨false, fun _ z => absurd z hj2⟩
              · exact ⟨false, fun z => absurd z hj⟩
            obtain ⟨eb, he⟩ := Classical.skolem.mp all
            refine ⟨_, ?_, EqAt.of_refs hne (RcAt.tuples (e := eb) l1 l2 (by (first | with_reducible assumption | exact Nat.lt_of_lt_of_le (by assumption) (by decide) | exact Nat.lt_of_le_of_lt (by assumption) (by decide) | lia | omega)) fun j h1 h2 => (he j (by simpa using h1) (by simpa using h2)).2 h1 h2)⟩
            rw [toArray_size, toArray_size]
            by_cases hl : vs.length = us.length
            · rw [← hl, Nat.min_self, beq_self_eq_true, Bool.and_true, range_all r1.length (by rw [r2.length, hl]) fun j hj => (he j hj (hl ▸ hj)).1]
              simp
            · have : (vs.length == us.length) = false := by simpa using hl
              rw [this, Bool.and_false]
              simp only [Bool.false_eq_true, false_iff, D.tup.injEq]
              rintro rfl
              exact hl (r1.length.symm.trans r2.length)
end
noncomputable def pw {α : Type} (N : Nat) (c : Nat → Nat → Bool) : KasT α → (α → Prop) → Prop
  | .ret a, P => P a
  | .ask i j k, P => i < N ∧ j < N ∧ pw N c (k (c i j)) P
theorem pw_bind {α β : Type} {N : Nat} {c : Nat → Nat → Bool} {f : α → KasT β} {P : β → Prop} : ∀ (t : KasT α), pw N c t (fun a => pw N c (f a) P) → pw N c (t.bind f) P
  | .ret _, h => h
  | .ask i j k, h => ⟨h.1, h.2.1, pw_bind (k (c i j)) h.2.2⟩
theorem pw_mono {α : Type} {N : Nat} {c : Nat → Nat → Bool} {P P' : α → Prop} (q : ∀ a, P a → P' a) : ∀ (t : KasT α), pw N c t P → pw N c t P'
  | .ret _, h => q _ h
  | .ask i j k, h => ⟨h.1, h.2.1, pw_mono q (k (c i j)) h.2.2⟩
theorem pw_wp {α : Type} {N : Nat} {c : Nat → Nat → Bool} {cmp : Nat → Nat → (Bool → Shared → Prop) → Shared → Prop} {s : Shared} (hc : ∀ i j (C : Bool → Shared → Prop), i < N → j < N → C (c i j) s → cmp i j C s) {P : α → Prop} {Q : α → Shared → Prop} (q : ∀ a, P a → Q a s) :
    ∀ (t : KasT α), pw N c t P → t.kasWp cmp Q s
  | .ret _, h => q _ h
  | .ask i j k, h => hc i j _ h.1 h.2.1 (pw_wp hc q (k (c i j)) h.2.2)

section
variable (f : Nat → Int) {N : Nat} {p : Array Nat}
noncomputable def Ky (p : Array Nat) (i : Nat) : Int := f (p.getD i 0)
noncomputable abbrev ora : Nat → Nat → Bool := fun i j => decide (f i < f j)
noncomputable def Bd (N : Nat) (p : Array Nat) : Prop := p.Perm (List.toArray (List.range N))
variable {f}
theorem Bd.size (h : Bd N p) : p.size = N := by have := h.size_eq; simpa using this
theorem Bd.lt (h : Bd N p) {i : Nat} (hi : i < N) : p.getD i 0 < N := by
  have hs := h.size
  have hi' : i < p.size := by (first | with_reducible assumption | exact Nat.lt_of_lt_of_le (by assumption) (by decide) | exact Nat.lt_of_le_of_lt (by assumption) (by decide) | lia | omega)
  have e : p.getD i 0 = p[i] := by simp [Array.getD, hi']
  rw [e]
  have m : p[i] ∈ p := Array.getElem_mem hi'
  have := (Array.Perm.mem_iff h).mp m
  simpa using this
theorem getD_of {a b : Array Nat} {i j : Nat} (h : a[i]? = b[j]?) : a.getD i 0 = b.getD j 0 := by
  rw [Array.getD_eq_getD_getElem?, Array.getD_eq_getD_getElem?, h]
theorem Bd.rev (h : Bd N p) (i j : Nat) : Bd N (kas_rev p i j) := (mirror_perm _ _ _ _).trans h
theorem Bd.bub (h : Bd N p) (i j : Nat) : Bd N (bubble p i j) := (bubble_perm _ _ _).trans h
set_option tactic.hygienic true in
theorem Ky_rev (h : Bd N p) {i j : Nat} (hj : j ≤ N) (k : Nat) : Ky f (kas_rev p i j) k = if i ≤ k ∧ k < j then Ky f p (i + j - 1 - k) else Ky f p k := by
  have := getElem?_mirror_all (xs := p) (i := i) (j := j) (by rw [h.size]; exact hj) k
  unfold Ky kas_rev
  split
  · rename_i q; rw [if_pos q] at this; rw [getD_of this]
  · rename_i q; rw [if_neg q] at this; rw [getD_of this]
set_option tactic.hygienic true in
theorem Ky_rev_eq (h : Bd N p) {i j : Nat} (hj : j ≤ N) (he : ∀ k, i ≤ k → k < j → Ky f p k = Ky f p (j - 1)) (k : Nat) : Ky f (kas_rev p i j) k = Ky f p k := by
  rw [Ky_rev h hj]
  split
  · rename_i q
    rw [he k q.1 q.2, he (i + j - 1 - k) (by omega) (by omega)]
  · rfl
set_option tactic.hygienic true in
theorem Ky_bub (h : Bd N p) {src d : Nat} (hs : src < N) (hd : d ≤ src) (k : Nat) : Ky f (bubble p src d) k = if k = src - d then Ky f p src else if src - d < k ∧ k ≤ src then Ky f p (k - 1) else Ky f p k := by
  have := getElem?_bubble (xs := p) (by rw [h.size]; exact hs) d hd k
  unfold Ky
  split
  · rename_i q; rw [if_pos q] at this; rw [getD_of this]
  · rename_i q
    rw [if_neg q] at this
    split
    · rename_i q2; rw [if_pos q2] at this; rw [getD_of this]
    · rename_i q2; rw [if_neg q2] at this; rw [getD_of this]

noncomputable def Up (f : Nat → Int) (p : Array Nat) (n : Nat) : Prop := ∀ i, 1 ≤ i → i < n → Ky f p (i - 1) ≤ Ky f p i
noncomputable def Dn (f : Nat → Int) (p : Array Nat) (n : Nat) : Prop := ∀ i, 1 ≤ i → i < n → Ky f p i ≤ Ky f p (i - 1)

theorem Up.le {n : Nat} (h : Up f p n) : ∀ (d i : Nat), i + d < n → Ky f p i ≤ Ky f p (i + d)
  | 0, i, _ => Int.le_refl _
  | d + 1, i, hd => Int.le_trans (h.le d i (by (first | with_reducible assumption | exact Nat.lt_of_lt_of_le (by assumption) (by decide) | exact Nat.lt_of_le_of_lt (by assumption) (by decide) | lia | omega))) (h (i + (d + 1)) (by (first | with_reducible assumption | exact Nat.lt_of_lt_of_le (by assumption) (by decide) | exact Nat.lt_of_le_of_lt (by assumption) (by decide) | lia | omega)) hd)
theorem Up.le' {n i j : Nat} (h : Up f p n) (hij : i ≤ j) (hj : j < n) : Ky f p i ≤ Ky f p j := by
  have := h.le (j - i) i (by (first | with_reducible assumption | exact Nat.lt_of_lt_of_le (by assumption) (by decide) | exact Nat.lt_of_le_of_lt (by assumption) (by decide) | lia | omega))
  rwa [show i + (j - i) = j by (first | with_reducible assumption | exact Nat.lt_of_lt_of_le (by assumption) (by decide) | exact Nat.lt_of_le_of_lt (by assumption) (by decide) | lia | omega)] at this

theorem asc_pw (h : Bd N p) : ∀ (k n : Nat), 1 ≤ n → n + k ≤ N → Up f p n → pw N (ora f) (kas_asc p k n) (fun m => n ≤ m ∧ m ≤ n + k ∧ Up f p m ∧ (m < n + k → Ky f p m < Ky f p (m - 1)))
  | 0, n, h1, h2, h3 => ⟨Nat.le_refl _, Nat.le_refl _, h3, fun q => absurd q (Nat.lt_irrefl _)⟩
  | k + 1, n, h1, h2, h3 => by
    refine ⟨h.lt (by (first | with_reducible assumption | exact Nat.lt_of_lt_of_le (by assumption) (by decide) | exact Nat.lt_of_le_of_lt (by assumption) (by decide) | lia | omega)), h.lt (by (first | with_reducible assumption | exact Nat.lt_of_lt_of_le (by assumption) (by decide) | exact Nat.lt_of_le_of_lt (by assumption) (by decide) | lia | omega)), ?_⟩
    by_cases q : Ky f p n < Ky f p (n - 1)
    · have e : ora f (p.getD n 0) (p.getD (n - 1) 0) = true := decide_eq_true q
      rw [e]
      try dsimp only
      rw [if_pos rfl]
      exact ⟨Nat.le_refl _, by (first | with_reducible assumption | exact Nat.lt_of_lt_of_le (by assumption) (by decide) | exact Nat.lt_of_le_of_lt (by assumption) (by decide) | lia | omega), h3, fun _ => q⟩
    · have e : ora f (p.getD n 0) (p.getD (n - 1) 0) = false := decide_eq_false q
      rw [e]
      try dsimp only
      rw [if_neg (by decide)]
      refine pw_mono (fun m ⟨a, b, c, d⟩ => ⟨by (first | with_reducible assumption | exact Nat.lt_of_lt_of_le (by assumption) (by decide) | exact Nat.lt_of_le_of_lt (by assumption) (by decide) | lia | omega), by (first | with_reducible assumption | exact Nat.lt_of_lt_of_le (by assumption) (by decide) | exact Nat.lt_of_le_of_lt (by assumption) (by decide) | lia | omega), c, fun z => d (by (first | with_reducible assumption | exact Nat.lt_of_lt_of_le (by assumption) (by decide) | exact Nat.lt_of_le_of_lt (by assumption) (by decide) | lia | omega))⟩) _ (asc_pw h k (n + 1) (by (first | with_reducible assumption | exact Nat.lt_of_lt_of_le (by assumption) (by decide) | exact Nat.lt_of_le_of_lt (by assumption) (by decide) | lia | omega)) (by (first | with_reducible assumption | exact Nat.lt_of_lt_of_le (by assumption) (by decide) | exact Nat.lt_of_le_of_lt (by assumption) (by decide) | lia | omega)) fun i hi hi2 => ?_)
      by_cases z : i = n
      · subst z; (first | with_reducible assumption | exact Nat.lt_of_lt_of_le (by assumption) (by decide) | exact Nat.lt_of_le_of_lt (by assumption) (by decide) | lia | omega)
      · exact h3 i hi (by (first | with_reducible assumption | exact Nat.lt_of_lt_of_le (by assumption) (by decide) | exact Nat.lt_of_le_of_lt (by assumption) (by decide) | lia | omega))

theorem desc_pw : ∀ (k : Nat) (p : Array Nat) (n q : Nat), Bd N p → 1 ≤ n → n + k ≤ N → Dn f p n → q + 1 ≤ n → (∀ i, n - (q + 1) ≤ i → i < n → Ky f p i = Ky f p (n - 1)) →
    pw N (ora f) (kas_desc k p n q) (fun r => Bd N r.1 ∧ n ≤ r.2.1 ∧ r.2.1 ≤ n + k ∧ Dn f r.1 r.2.1 ∧ r.2.2 + 1 ≤ r.2.1 ∧ (∀ i, r.2.1 - (r.2.2 + 1) ≤ i → i < r.2.1 → Ky f r.1 i = Ky f r.1 (r.2.1 - 1)))
  | 0, p, n, q, h, h1, h2, h3, h4, h5 => ⟨h, Nat.le_refl _, Nat.le_refl _, h3, h4, h5⟩
  | k + 1, p, n, q, h, h1, h2, h3, h4, h5 => by
    refine ⟨h.lt (by (first | with_reducible assumption | exact Nat.lt_of_lt_of_le (by assumption) (by decide) | exact Nat.lt_of_le_of_lt (by assumption) (by decide) | lia | omega)), h.lt (by (first | with_reducible assumption | exact Nat.lt_of_lt_of_le (by assumption) (by decide) | exact Nat.lt_of_le_of_lt (by assumption) (by decide) | lia | omega)), ?_⟩
    by_cases c : Ky f p n < Ky f p (n - 1)
    · have e : ora f (p.getD n 0) (p.getD (n - 1) 0) = true := decide_eq_true c
      rw [e]
      try dsimp only
      rw [if_pos rfl]
      have dn : Dn f p (n + 1) := fun i hi hi2 => by
        by_cases z : i = n
        · subst z; (first | with_reducible assumption | exact Nat.lt_of_lt_of_le (by assumption) (by decide) | exact Nat.lt_of_le_of_lt (by assumption) (by decide) | lia | omega)
        · exact h3 i hi (by (first | with_reducible assumption | exact Nat.lt_of_lt_of_le (by assumption) (by decide) | exact Nat.lt_of_le_of_lt (by assumption) (by decide) | lia | omega))
      by_cases hq : q > 0
      · rw [if_pos hq]
        have ke := Ky_rev_eq h (i := n - (q + 1)) (j := n) (by (first | with_reducible assumption | exact Nat.lt_of_lt_of_le (by assumption) (by decide) | exact Nat.lt_of_le_of_lt (by assumption) (by decide) | lia | omega)) h5
        refine pw_mono (fun r ⟨a, b, c, d⟩ => ⟨a, by (first | with_reducible assumption | exact Nat.lt_of_lt_of_le (by assumption) (by decide) | exact Nat.lt_of_le_of_lt (by assumption) (by decide) | lia | omega), by (first | with_reducible assumption | exact Nat.lt_of_lt_of_le (by assumption) (by decide) | exact Nat.lt_of_le_of_lt (by assumption) (by decide) | lia | omega), d⟩) _ (desc_pw k _ (n + 1) 0 (h.rev _ _) (by (first | with_reducible assumption | exact Nat.lt_of_lt_of_le (by assumption) (by decide) | exact Nat.lt_of_le_of_lt (by assumption) (by decide) | lia | omega)) (by (first | with_reducible assumption | exact Nat.lt_of_lt_of_le (by assumption) (by decide) | exact Nat.lt_of_le_of_lt (by assumption) (by decide) | lia | omega)) (fun i hi hi2 => by rw [ke, ke]; exact dn i hi hi2) (by (first | with_reducible assumption | exact Nat.lt_of_lt_of_le (by assumption) (by decide) | exact Nat.lt_of_le_of_lt (by assumption) (by decide) | lia | omega)) fun i hi hi2 => ?_)
        have : i = n := by (first | with_reducible assumption | exact Nat.lt_of_lt_of_le (by assumption) (by decide) | exact Nat.lt_of_le_of_lt (by assumption) (by decide) | lia | omega)
        subst this; rfl
      · rw [if_neg hq]
        refine pw_mono (fun r ⟨a, b, c, d⟩ => ⟨a, by (first | with_reducible assumption | exact Nat.lt_of_lt_of_le (by assumption) (by decide) | exact Nat.lt_of_le_of_lt (by assumption) (by decide) | lia | omega), by (first | with_reducible assumption | exact Nat.lt_of_lt_of_le (by assumption) (by decide) | exact Nat.lt_of_le_of_lt (by assumption) (by decide) | lia | omega), d⟩) _ (desc_pw k _ (n + 1) 0 h (by (first | with_reducible assumption | exact Nat.lt_of_lt_of_le (by assumption) (by decide) | exact Nat.lt_of_le_of_lt (by assumption) (by decide) | lia | omega)) (by (first | with_reducible assumption | exact Nat.lt_of_lt_of_le (by assumption) (by decide) | exact Nat.lt_of_le_of_lt (by assumption) (by decide) | lia | omega)) dn (by (first | with_reducible assumption | exact Nat.lt_of_lt_of_le (by assumption) (by decide) | exact Nat.lt_of_le_of_lt (by assumption) (by decide) | lia | omega)) fun i hi hi2 => ?_)
        have : i = n := by (first | with_reducible assumption | exact Nat.lt_of_lt_of_le (by assumption) (by decide) | exact Nat.lt_of_le_of_lt (by assumption) (by decide) | lia | omega)
        subst this; rfl
    · have e : ora f (p.getD n 0) (p.getD (n - 1) 0) = false := decide_eq_false c
      rw [e]
      try dsimp only
      rw [if_neg (by decide)]
      refine ⟨h.lt (by (first | with_reducible assumption | exact Nat.lt_of_lt_of_le (by assumption) (by decide) | exact Nat.lt_of_le_of_lt (by assumption) (by decide) | lia | omega)), h.lt (by (first | with_reducible assumption | exact Nat.lt_of_lt_of_le (by assumption) (by decide) | exact Nat.lt_of_le_of_lt (by assumption) (by decide) | lia | omega)), ?_⟩
      by_cases c2 : Ky f p (n - 1) < Ky f p n
      · have e : ora f (p.getD (n - 1) 0) (p.getD n 0) = true := decide_eq_true c2
        rw [e]
        try dsimp only
        rw [if_pos rfl]
        exact ⟨h, Nat.le_refl _, Nat.le_add_right _ _, h3, h4, h5⟩
      · have e : ora f (p.getD (n - 1) 0) (p.getD n 0) = false := decide_eq_false c2
        rw [e]
        try dsimp only
        rw [if_neg (by decide)]
        have eq : Ky f p n = Ky f p (n - 1) := by (first | with_reducible assumption | exact Nat.lt_of_lt_of_le (by assumption) (by decide) | exact Nat.lt_of_le_of_lt (by assumption) (by decide) | lia | omega)
        have g1 : Dn f p (n + 1) := fun i hi hi2 => by
          by_cases z : i = n
          · subst z; (first | with_reducible assumption | exact Nat.lt_of_lt_of_le (by assumption) (by decide) | exact Nat.lt_of_le_of_lt (by assumption) (by decide) | lia | omega)
          · exact h3 i hi (by (first | with_reducible assumption | exact Nat.lt_of_lt_of_le (by assumption) (by decide) | exact Nat.lt_of_le_of_lt (by assumption) (by decide) | lia | omega))
        have g2 : ∀ i, n + 1 - (q + 1 + 1) ≤ i → i < n + 1 → Ky f p i = Ky f p (n + 1 - 1) := fun i hi hi2 => by
          rw [show n + 1 - 1 = n by (first | with_reducible assumption | exact Nat.lt_of_lt_of_le (by assumption) (by decide) | exact Nat.lt_of_le_of_lt (by assumption) (by decide) | lia | omega), eq]
          by_cases z : i = n
          · subst z; exact eq
          · exact h5 i (by (first | with_reducible assumption | exact Nat.lt_of_lt_of_le (by assumption) (by decide) | exact Nat.lt_of_le_of_lt (by assumption) (by decide) | lia | omega)) (by (first | with_reducible assumption | exact Nat.lt_of_lt_of_le (by assumption) (by decide) | exact Nat.lt_of_le_of_lt (by assumption) (by decide) | lia | omega))
        exact pw_mono (fun r hr => ⟨hr.1, by (first | with_reducible assumption | exact Nat.lt_of_lt_of_le (by assumption) (by decide) | exact Nat.lt_of_le_of_lt (by assumption) (by decide) | lia | omega), by (first | with_reducible assumption | exact Nat.lt_of_lt_of_le (by assumption) (by decide) | exact Nat.lt_of_le_of_lt (by assumption) (by decide) | lia | omega), hr.2.2.2⟩) _ (desc_pw k _ (n + 1) (q + 1) h (by (first | with_reducible assumption | exact Nat.lt_of_lt_of_le (by assumption) (by decide) | exact Nat.lt_of_le_of_lt (by assumption) (by decide) | lia | omega)) (by (first | with_reducible assumption | exact Nat.lt_of_lt_of_le (by assumption) (by decide) | exact Nat.lt_of_le_of_lt (by assumption) (by decide) | lia | omega)) g1 (by (first | with_reducible assumption | exact Nat.lt_of_lt_of_le (by assumption) (by decide) | exact Nat.lt_of_le_of_lt (by assumption) (by decide) | lia | omega)) g2)

theorem tail3_pw {n nrem : Nat} (h : Bd N p) (h1 : 1 ≤ n) (h2 : n ≤ nrem) (h3 : nrem ≤ N) (hd : Dn f p n) : pw N (ora f) (kas_tail3 n nrem p) (fun r => Bd N r.2 ∧ 1 ≤ r.1 ∧ r.1 ≤ nrem ∧ Up f r.2 r.1) := by
  refine pw_bind _ (pw_mono (fun m ⟨a, b, c, _⟩ => ⟨h.rev _ _, by (first | with_reducible assumption | exact Nat.lt_of_lt_of_le (by assumption) (by decide) | exact Nat.lt_of_le_of_lt (by assumption) (by decide) | lia | omega), by (first | with_reducible assumption | exact Nat.lt_of_lt_of_le (by assumption) (by decide) | exact Nat.lt_of_le_of_lt (by assumption) (by decide) | lia | omega), c⟩) _ (asc_pw (h.rev 0 n) (nrem - n) n h1 (by (first | with_reducible assumption | exact Nat.lt_of_lt_of_le (by assumption) (by decide) | exact Nat.lt_of_le_of_lt (by assumption) (by decide) | lia | omega)) fun i hi hi2 => ?_))
  rw [Ky_rev h (by (first | with_reducible assumption | exact Nat.lt_of_lt_of_le (by assumption) (by decide) | exact Nat.lt_of_le_of_lt (by assumption) (by decide) | lia | omega)), Ky_rev h (by (first | with_reducible assumption | exact Nat.lt_of_lt_of_le (by assumption) (by decide) | exact Nat.lt_of_le_of_lt (by assumption) (by decide) | lia | omega)), if_pos (by (first | with_reducible assumption | exact Nat.lt_of_lt_of_le (by assumption) (by decide) | exact Nat.lt_of_le_of_lt (by assumption) (by decide) | lia | omega)), if_pos (by (first | with_reducible assumption | exact Nat.lt_of_lt_of_le (by assumption) (by decide) | exact Nat.lt_of_le_of_lt (by assumption) (by decide) | lia | omega))]
  have := hd (0 + n - 1 - (i - 1)) (by (first | with_reducible assumption | exact Nat.lt_of_lt_of_le (by assumption) (by decide) | exact Nat.lt_of_le_of_lt (by assumption) (by decide) | lia | omega)) (by (first | with_reducible assumption | exact Nat.lt_of_lt_of_le (by assumption) (by decide) | exact Nat.lt_of_le_of_lt (by assumption) (by decide) | lia | omega))
  rwa [show 0 + n - 1 - (i - 1) - 1 = 0 + n - 1 - i by (first | with_reducible assumption | exact Nat.lt_of_lt_of_le (by assumption) (by decide) | exact Nat.lt_of_le_of_lt (by assumption) (by decide) | lia | omega)] at this
theorem descPart_pw {n nrem : Nat} (h : Bd N p) (h1 : 1 ≤ n) (h2 : n + 1 ≤ nrem) (h3 : nrem ≤ N) (hd : Dn f p (n + 1)) : pw N (ora f) (kas_descPart n nrem p) (fun r => Bd N r.2 ∧ 1 ≤ r.1 ∧ r.1 ≤ nrem ∧ Up f r.2 r.1) := by
  have st := desc_pw (f := f) (nrem - (n + 1)) p (n + 1) 0 h (by (first | with_reducible assumption | exact Nat.lt_of_lt_of_le (by assumption) (by decide) | exact Nat.lt_of_le_of_lt (by assumption) (by decide) | lia | omega)) (by (first | with_reducible assumption | exact Nat.lt_of_lt_of_le (by assumption) (by decide) | exact Nat.lt_of_le_of_lt (by assumption) (by decide) | lia | omega)) hd (by (first | with_reducible assumption | exact Nat.lt_of_lt_of_le (by assumption) (by decide) | exact Nat.lt_of_le_of_lt (by assumption) (by decide) | lia | omega)) fun i hi hi2 => by
    have : i = n := by (first | with_reducible assumption | exact Nat.lt_of_lt_of_le (by assumption) (by decide) | exact Nat.lt_of_le_of_lt (by assumption) (by decide) | lia | omega)
    subst this; rfl
  refine pw_bind _ (pw_mono (fun r hr => ?_) _ st)
  obtain ⟨a, b, c, d, e, g⟩ := hr
  by_cases hq : r.2.2 > 0
  · rw [if_pos hq]
    have ke := Ky_rev_eq a (i := r.2.1 - (r.2.2 + 1)) (j := r.2.1) (by (first | with_reducible assumption | exact Nat.lt_of_lt_of_le (by assumption) (by decide) | exact Nat.lt_of_le_of_lt (by assumption) (by decide) | lia | omega)) g
    exact tail3_pw (a.rev _ _) (by (first | with_reducible assumption | exact Nat.lt_of_lt_of_le (by assumption) (by decide) | exact Nat.lt_of_le_of_lt (by assumption) (by decide) | lia | omega)) (by (first | with_reducible assumption | exact Nat.lt_of_lt_of_le (by assumption) (by decide) | exact Nat.lt_of_le_of_lt (by assumption) (by decide) | lia | omega)) h3 fun i hi hi2 => by rw [ke, ke]; exact d i hi hi2
  · rw [if_neg hq]
    exact tail3_pw a (by (first | with_reducible assumption | exact Nat.lt_of_lt_of_le (by assumption) (by decide) | exact Nat.lt_of_le_of_lt (by assumption) (by decide) | lia | omega)) (by (first | with_reducible assumption | exact Nat.lt_of_lt_of_le (by assumption) (by decide) | exact Nat.lt_of_le_of_lt (by assumption) (by decide) | lia | omega)) h3 d
theorem count_pw (h : Bd N p) (h1 : 1 ≤ N) : pw N (ora f) (kas_count N p) (fun r => Bd N r.2 ∧ 1 ≤ r.1 ∧ r.1 ≤ N ∧ Up f r.2 r.1) := by
  refine pw_bind _ (pw_mono (fun n hn => ?_) _ (asc_pw h (N - 1) 1 (Nat.le_refl _) (by (first | with_reducible assumption | exact Nat.lt_of_lt_of_le (by assumption) (by decide) | exact Nat.lt_of_le_of_lt (by assumption) (by decide) | lia | omega)) fun i hi hi2 => by (first | with_reducible assumption | exact Nat.lt_of_lt_of_le (by assumption) (by decide) | exact Nat.lt_of_le_of_lt (by assumption) (by decide) | lia | omega)))
  obtain ⟨a, b, c, d⟩ := hn
  by_cases e1 : n = N
  · rw [if_pos (by rw [e1]; exact beq_self_eq_true N)]
    exact ⟨h, a, by (first | with_reducible assumption | exact Nat.lt_of_lt_of_le (by assumption) (by decide) | exact Nat.lt_of_le_of_lt (by assumption) (by decide) | lia | omega), c⟩
  · rw [if_neg (by simpa using e1)]
    have d' := d (by (first | with_reducible assumption | exact Nat.lt_of_lt_of_le (by assumption) (by decide) | exact Nat.lt_of_le_of_lt (by assumption) (by decide) | lia | omega))
    by_cases e2 : n > 1
    · rw [if_pos e2]
      refine ⟨h.lt (by (first | with_reducible assumption | exact Nat.lt_of_lt_of_le (by assumption) (by decide) | exact Nat.lt_of_le_of_lt (by assumption) (by decide) | lia | omega)), h.lt (by (first | with_reducible assumption | exact Nat.lt_of_lt_of_le (by assumption) (by decide) | exact Nat.lt_of_le_of_lt (by assumption) (by decide) | lia | omega)), ?_⟩
      by_cases q : Ky f p 0 < Ky f p (n - 1)
      · have e : ora f (p.getD 0 0) (p.getD (n - 1) 0) = true := decide_eq_true q
        rw [e]
        try dsimp only
        rw [if_pos rfl]
        exact ⟨h, a, by (first | with_reducible assumption | exact Nat.lt_of_lt_of_le (by assumption) (by decide) | exact Nat.lt_of_le_of_lt (by assumption) (by decide) | lia | omega), c⟩
      · have e : ora f (p.getD 0 0) (p.getD (n - 1) 0) = false := decide_eq_false q
        rw [e]
        try dsimp only
        rw [if_neg (by decide)]
        have all : ∀ k, 0 ≤ k → k < n → Ky f p k = Ky f p (n - 1) := fun k _ hk => by
          have l1 := c.le' (Nat.zero_le k) hk
          have l2 := c.le' (show k ≤ n - 1 by (first | with_reducible assumption | exact Nat.lt_of_lt_of_le (by assumption) (by decide) | exact Nat.lt_of_le_of_lt (by assumption) (by decide) | lia | omega)) (by (first | with_reducible assumption | exact Nat.lt_of_lt_of_le (by assumption) (by decide) | exact Nat.lt_of_le_of_lt (by assumption) (by decide) | lia | omega))
          (first | with_reducible assumption | exact Nat.lt_of_lt_of_le (by assumption) (by decide) | exact Nat.lt_of_le_of_lt (by assumption) (by decide) | lia | omega)
        have ke := Ky_rev_eq h (i := 0) (j := n) (by (first | with_reducible assumption | exact Nat.lt_of_lt_of_le (by assumption) (by decide) | exact Nat.lt_of_le_of_lt (by assumption) (by decide) | lia | omega)) all
        refine descPart_pw (h.rev _ _) (by (first | with_reducible assumption | exact Nat.lt_of_lt_of_le (by assumption) (by decide) | exact Nat.lt_of_le_of_lt (by assumption) (by decide) | lia | omega)) (by (first | with_reducible assumption | exact Nat.lt_of_lt_of_le (by assumption) (by decide) | exact Nat.lt_of_le_of_lt (by assumption) (by decide) | lia | omega)) (Nat.le_refl _) fun i hi hi2 => ?_
        rw [ke, ke]
        by_cases z : i = n
        · subst z; (first | with_reducible assumption | exact Nat.lt_of_lt_of_le (by assumption) (by decide) | exact Nat.lt_of_le_of_lt (by assumption) (by decide) | lia | omega)
        · rw [all i (by (first | with_reducible assumption | exact Nat.lt_of_lt_of_le (by assumption) (by decide) | exact Nat.lt_of_le_of_lt (by assumption) (by decide) | lia | omega)) (by (first | with_reducible assumption | exact Nat.lt_of_lt_of_le (by assumption) (by decide) | exact Nat.lt_of_le_of_lt (by assumption) (by decide) | lia | omega)), all (i - 1) (by (first | with_reducible assumption | exact Nat.lt_of_lt_of_le (by assumption) (by decide) | exact Nat.lt_of_le_of_lt (by assumption) (by decide) | lia | omega)) (by (first | with_reducible assumption | exact Nat.lt_of_lt_of_le (by assumption) (by decide) | exact Nat.lt_of_le_of_lt (by assumption) (by decide) | lia | omega))]; exact Int.le_refl _
    · rw [if_neg e2]
      have : n = 1 := by (first | with_reducible assumption | exact Nat.lt_of_lt_of_le (by assumption) (by decide) | exact Nat.lt_of_le_of_lt (by assumption) (by decide) | lia | omega)
      subst this
      refine descPart_pw h (by (first | with_reducible assumption | exact Nat.lt_of_lt_of_le (by assumption) (by decide) | exact Nat.lt_of_le_of_lt (by assumption) (by decide) | lia | omega)) (by (first | with_reducible assumption | exact Nat.lt_of_lt_of_le (by assumption) (by decide) | exact Nat.lt_of_le_of_lt (by assumption) (by decide) | lia | omega)) (Nat.le_refl _) fun i hi hi2 => ?_
      have : i = 1 := by (first | with_reducible assumption | exact Nat.lt_of_lt_of_le (by assumption) (by decide) | exact Nat.lt_of_le_of_lt (by assumption) (by decide) | lia | omega)
      subst this; (first | with_reducible assumption | exact Nat.lt_of_lt_of_le (by assumption) (by decide) | exact Nat.lt_of_le_of_lt (by assumption) (by decide) | lia | omega)
theorem place_pw {k : Nat} (h : Bd N p) (hk : k < N) (hu : Up f p k) : ∀ (m l r : Nat), r ≤ k → l ≤ r → r - l ≤ m → (∀ i, i < l → Ky f p i ≤ Ky f p k) → (∀ i, r ≤ i → i < k → Ky f p k < Ky f p i) →
    pw N (ora f) (kas_place p k m l r) (fun x => x ≤ k ∧ (∀ i, i < x → Ky f p i ≤ Ky f p k) ∧ (∀ i, x ≤ i → i < k → Ky f p k < Ky f p i))
  | 0, l, r, h1, h2, h3, h4, h5 => ⟨by (first | with_reducible assumption | exact Nat.lt_of_lt_of_le (by assumption) (by decide) | exact Nat.lt_of_le_of_lt (by assumption) (by decide) | lia | omega), h4, fun i hi => h5 i (by (first | with_reducible assumption | exact Nat.lt_of_lt_of_le (by assumption) (by decide) | exact Nat.lt_of_le_of_lt (by assumption) (by decide) | lia | omega))⟩
  | m + 1, l, r, h1, h2, h3, h4, h5 => by
    unfold kas_place
    by_cases c : l ≥ r
    · rw [if_pos c]; exact ⟨by (first | with_reducible assumption | exact Nat.lt_of_lt_of_le (by assumption) (by decide) | exact Nat.lt_of_le_of_lt (by assumption) (by decide) | lia | omega), h4, fun i hi => h5 i (by (first | with_reducible assumption | exact Nat.lt_of_lt_of_le (by assumption) (by decide) | exact Nat.lt_of_le_of_lt (by assumption) (by decide) | lia | omega))⟩
    · rw [if_neg c]
      refine ⟨h.lt hk, h.lt (by (first | with_reducible assumption | exact Nat.lt_of_lt_of_le (by assumption) (by decide) | exact Nat.lt_of_le_of_lt (by assumption) (by decide) | lia | omega)), ?_⟩
      by_cases q : Ky f p k < Ky f p ((l + r) / 2)
      · have e : ora f (p.getD k 0) (p.getD ((l + r) / 2) 0) = true := decide_eq_true q
        rw [e]
        try dsimp only
        rw [if_pos rfl]
        refine place_pw h hk hu m l ((l + r) / 2) (by (first | with_reducible assumption | exact Nat.lt_of_lt_of_le (by assumption) (by decide) | exact Nat.lt_of_le_of_lt (by assumption) (by decide) | lia | omega)) (by (first | with_reducible assumption | exact Nat.lt_of_lt_of_le (by assumption) (by decide) | exact Nat.lt_of_le_of_lt (by assumption) (by decide) | lia | omega)) (by (first | with_reducible assumption | exact Nat.lt_of_lt_of_le (by assumption) (by decide) | exact Nat.lt_of_le_of_lt (by assumption) (by decide) | lia | omega)) h4 fun i hi hi2 => ?_
        have := hu.le' hi hi2
        (first | with_reducible assumption | exact Nat.lt_of_lt_of_le (by assumption) (by decide) | exact Nat.lt_of_le_of_lt (by assumption) (by decide) | lia | omega)
      · have e : ora f (p.getD k 0) (p.getD ((l + r) / 2) 0) = false := decide_eq_false q
        rw [e]
        try dsimp only
        rw [if_neg (by decide)]
        refine place_pw h hk hu m ((l + r) / 2 + 1) r h1 (by (first | with_reducible assumption | exact Nat.lt_of_lt_of_le (by assumption) (by decide) | exact Nat.lt_of_le_of_lt (by assumption) (by decide) | lia | omega)) (by (first | with_reducible assumption | exact Nat.lt_of_lt_of_le (by assumption) (by decide) | exact Nat.lt_of_le_of_lt (by assumption) (by decide) | lia | omega)) (fun i hi => ?_) h5
        have := hu.le' (show i ≤ (l + r) / 2 by (first | with_reducible assumption | exact Nat.lt_of_lt_of_le (by assumption) (by decide) | exact Nat.lt_of_le_of_lt (by assumption) (by decide) | lia | omega)) (by (first | with_reducible assumption | exact Nat.lt_of_lt_of_le (by assumption) (by decide) | exact Nat.lt_of_le_of_lt (by assumption) (by decide) | lia | omega))
        (first | with_reducible assumption | exact Nat.lt_of_lt_of_le (by assumption) (by decide) | exact Nat.lt_of_le_of_lt (by assumption) (by decide) | lia | omega)
theorem bin_pw : ∀ (m : Nat) (p : Array Nat) (k : Nat), Bd N p → k + m = N → Up f p k → pw N (ora f) (kas_bin m p k) (fun r => Bd N r ∧ Up f r N)
  | 0, p, k, h, e, hu => ⟨h, by rw [← e]; exact hu⟩
  | m + 1, p, k, h, e, hu => by
    refine pw_bind _ (pw_mono (fun l hl => ?_) _ (place_pw h (by (first | with_reducible assumption | exact Nat.lt_of_lt_of_le (by assumption) (by decide) | exact Nat.lt_of_le_of_lt (by assumption) (by decide) | lia | omega)) hu k 0 k (Nat.le_refl _) (Nat.zero_le _) (by (first | with_reducible assumption | exact Nat.lt_of_lt_of_le (by assumption) (by decide) | exact Nat.lt_of_le_of_lt (by assumption) (by decide) | lia | omega)) (fun i hi => absurd hi (Nat.not_lt_zero _)) fun i hi hi2 => by (first | with_reducible assumption | exact Nat.lt_of_lt_of_le (by assumption) (by decide) | exact Nat.lt_of_le_of_lt (by assumption) (by decide) | lia | omega)))
    obtain ⟨a, b, c⟩ := hl
    refine bin_pw m _ (k + 1) (h.bub _ _) (by (first | with_reducible assumption | exact Nat.lt_of_lt_of_le (by assumption) (by decide) | exact Nat.lt_of_le_of_lt (by assumption) (by decide) | lia | omega)) fun i hi hi2 => ?_
    rw [Ky_bub h (by (first | with_reducible assumption | exact Nat.lt_of_lt_of_le (by assumption) (by decide) | exact Nat.lt_of_le_of_lt (by assumption) (by decide) | lia | omega)) (by (first | with_reducible assumption | exact Nat.lt_of_lt_of_le (by assumption) (by decide) | exact Nat.lt_of_le_of_lt (by assumption) (by decide) | lia | omega)), Ky_bub h (by (first | with_reducible assumption | exact Nat.lt_of_lt_of_le (by assumption) (by decide) | exact Nat.lt_of_le_of_lt (by assumption) (by decide) | lia | omega)) (by (first | with_reducible assumption | exact Nat.lt_of_lt_of_le (by assumption) (by decide) | exact Nat.lt_of_le_of_lt (by assumption) (by decide) | lia | omega))]
    have el : k - (k - l) = l := by (first | with_reducible assumption | exact Nat.lt_of_lt_of_le (by assumption) (by decide) | exact Nat.lt_of_le_of_lt (by assumption) (by decide) | lia | omega)
    rw [el]
    by_cases z1 : i = l
    · subst z1
      rw [if_neg (by (first | with_reducible assumption | exact Nat.lt_of_lt_of_le (by assumption) (by decide) | exact Nat.lt_of_le_of_lt (by assumption) (by decide) | lia | omega)), if_neg (by (first | with_reducible assumption | exact Nat.lt_of_lt_of_le (by assumption) (by decide) | exact Nat.lt_of_le_of_lt (by assumption) (by decide) | lia | omega)), if_pos rfl]
      exact b (i - 1) (by (first | with_reducible assumption | exact Nat.lt_of_lt_of_le (by assumption) (by decide) | exact Nat.lt_of_le_of_lt (by assumption) (by decide) | lia | omega))
    · by_cases z2 : i - 1 = l
      · rw [if_pos z2, if_neg z1, if_pos (by (first | with_reducible assumption | exact Nat.lt_of_lt_of_le (by assumption) (by decide) | exact Nat.lt_of_le_of_lt (by assumption) (by decide) | lia | omega))]
        rw [z2]
        exact Int.le_of_lt (c l (Nat.le_refl _) (by (first | with_reducible assumption | exact Nat.lt_of_lt_of_le (by assumption) (by decide) | exact Nat.lt_of_le_of_lt (by assumption) (by decide) | lia | omega)))
      · rw [if_neg z2, if_neg z1]
        by_cases z3 : l < i
        · rw [if_pos (by (first | with_reducible assumption | exact Nat.lt_of_lt_of_le (by assumption) (by decide) | exact Nat.lt_of_le_of_lt (by assumption) (by decide) | lia | omega)), if_pos (by (first | with_reducible assumption | exact Nat.lt_of_lt_of_le (by assumption) (by decide) | exact Nat.lt_of_le_of_lt (by assumption) (by decide) | lia | omega))]
          exact hu (i - 1) (by (first | with_reducible assumption | exact Nat.lt_of_lt_of_le (by assumption) (by decide) | exact Nat.lt_of_le_of_lt (by assumption) (by decide) | lia | omega)) (by (first | with_reducible assumption | exact Nat.lt_of_lt_of_le (by assumption) (by decide) | exact Nat.lt_of_le_of_lt (by assumption) (by decide) | lia | omega))
        · rw [if_neg (by (first | with_reducible assumption | exact Nat.lt_of_lt_of_le (by assumption) (by decide) | exact Nat.lt_of_le_of_lt (by assumption) (by decide) | lia | omega)), if_neg (by (first | with_reducible assumption | exact Nat.lt_of_lt_of_le (by assumption) (by decide) | exact Nat.lt_of_le_of_lt (by assumption) (by decide) | lia | omega))]
          exact hu i hi (by (first | with_reducible assumption | exact Nat.lt_of_lt_of_le (by assumption) (by decide) | exact Nat.lt_of_le_of_lt (by assumption) (by decide) | lia | omega))
theorem sort_pw (h1 : 1 ≤ N) : pw N (ora f) (kas_sort N) (fun r => Bd N r ∧ Up f r N) := by
  refine pw_bind _ (pw_mono (fun r hr => ?_) _ (count_pw (Array.Perm.refl _) h1))
  obtain ⟨a, b, c, d⟩ := hr
  have e : max r.1 1 = r.1 := by (first | with_reducible assumption | exact Nat.lt_of_lt_of_le (by assumption) (by decide) | exact Nat.lt_of_le_of_lt (by assumption) (by decide) | lia | omega)
  by_cases q : r.1 < N
  · rw [if_pos q, e]
    exact bin_pw _ _ _ a (by (first | with_reducible assumption | exact Nat.lt_of_lt_of_le (by assumption) (by decide) | exact Nat.lt_of_le_of_lt (by assumption) (by decide) | lia | omega)) d
  · rw [if_neg q]
    have : r.1 = N := by (first | with_reducible assumption | exact Nat.lt_of_lt_of_le (by assumption) (by decide) | exact Nat.lt_of_le_of_lt (by assumption) (by decide) | lia | omega)
    exact ⟨a, this ▸ d⟩
end
inductive PairsAre (h : Heap) : List Value → List (Int × Int) → Prop
  | nil : PairsAre h [] []
  | cons {a : Addr} {o : Obj} {n : Nat} {x y : Int} {t u : Tok} {vs : List Value} {ks : List (Int × Int)} : h.get? a = some o → o.cls = .type "tuple" → o.data = .seq #[.int x t, .int y u] n → PairsAre h vs ks → PairsAre h (.ref a :: vs) ((x, y) :: ks)
theorem PairsAre.length {h : Heap} : ∀ {vs : List Value} {ks : List (Int × Int)}, PairsAre h vs ks → vs.length = ks.length
  | _, _, .nil => rfl
  | _, _, .cons _ _ _ r => by rw [List.length_cons, List.length_cons, r.length]
theorem PairsAre.get {h : Heap} : ∀ {vs : List Value} {ks : List (Int × Int)} {i : Nat}, PairsAre h vs ks → i < vs.length → ∃ a o n x y t u, vs.getD i .none = .ref a ∧ h.get? a = some o ∧ o.cls = .type "tuple" ∧ o.data = .seq #[.int x t, .int y u] n ∧ ks.getD i (0, 0) = (x, y)
  | _, _, _, .nil, hi => by simp at hi
  | _, _, 0, .cons a b c r, _ => ⟨_, _, _, _, _, _, _, rfl, a, b, c, rfl⟩
  | _, _, i + 1, .cons a b c r, hi => by
    have := r.get (i := i) (by simpa using hi)
    simpa using this
theorem PairsAre.mono {h h' : Heap} (k : ∀ a o, h.get? a = some o → h'.get? a = some o) : ∀ {vs : List Value} {ks : List (Int × Int)}, PairsAre h vs ks → PairsAre h' vs ks
  | _, _, .nil => .nil
  | _, _, .cons a b c r => .cons (k _ _ a) b c (r.mono k)
theorem PairsAre.tups {h : Heap} : ∀ {vs : List Value} {ks : List (Int × Int)}, PairsAre h vs ks → ∃ fs, KatTups h vs fs ∧ fs.length = vs.length ∧ ∀ v ∈ fs, ∃ i t, v = .int i t
  | _, _, .nil => ⟨[], trivial, rfl, fun _ m => nomatch m⟩
  | _, _, .cons (x := x) (t := t) a b c r => by
    obtain ⟨fs, h1, h2, h3⟩ := r.tups
    refine ⟨.int x t :: fs, KatTups.cons a b c rfl h1, by rw [List.length_cons, List.length_cons, h2], fun v m => ?_⟩
    rcases List.mem_cons.mp m with rfl | m
    · exact ⟨_, _, rfl⟩
    · exact h3 v m
noncomputable def pkey (k : Int × Int) : Int := k.1 * 1048576 + k.2

section
variable {prog : Program} {w : World} {A : Around} {E : Value → Shared → Prop} {s : Shared}

theorem pair_lt {a b : Addr} {oa ob : Obj} {na nb : Nat} {x y x' y' : Int} {t u t' u' : Tok} {C : Bool → Shared → Prop} (ha : s.heap.get? a = some oa) (da : oa.data = .seq #[.int x t, .int y u] na) (hb : s.heap.get? b = some ob) (db : ob.data = .seq #[.int x' t', .int y' u'] nb)
    (h1 : 0 ≤ y ∧ y < 1048576) (h2 : 0 ≤ y' ∧ y' < 1048576) (h : C (decide (pkey (x, y) < pkey (x', y'))) s) : wpAny (model prog w) A (keyLt' (tuples' true) (.ref a) (.ref b)) C (fun _ _ => False) s := by
  refine kat_lt ha da hb db ?_
  show KatLex prog w A true _ C [(.int x t, .int x' t'), (.int y u, .int y' u')] 0 s
  refine kat_cons (MeetsSeq.EqGives.int x x' t t' prog w A _ s _ ?_)
  by_cases e : x = x'
  · subst e
    rw [beq_self_eq_true]
    refine kat_yes (kat_cons (MeetsSeq.EqGives.int y y' u u' prog w A _ s _ ?_))
    by_cases e2 : y = y'
    · subst e2
      rw [beq_self_eq_true]
      refine kat_yes (kat_nil ?_)
      have : decide (pkey (x, y) < pkey (x, y)) = false := decide_eq_false (Int.lt_irrefl _)
      rw [this] at h
      exact h
    · have : (y == y') = false := by simpa using e2
      rw [this]
      refine kat_no ?_
      show wpAny _ _ (oneLt' false _ _) _ _ _
      refine kat_one _ _ (PyProof.Rows.lt_int ?_)
      have e3 : decide (pkey (x, y) < pkey (x, y')) = decide (y < y') := by unfold pkey; congr 1; apply propext; constructor <;> intro z <;> lia
      rw [e3] at h
      exact h
  · have : (x == x') = false := by simpa using e
    rw [this]
    refine kat_no ?_
    show wpAny _ _ (oneLt' true _ _) _ _ _
    have e3 : decide (pkey (x, y) < pkey (x', y')) = decide (x < x') := by unfold pkey; congr 1; apply propext; constructor <;> intro z <;> lia
    rw [e3] at h
    exact oneLt_int h

theorem few_sorted {n : Nat} (f : Nat → Int) (h : n < 2) : ((List.range n).map f).Pairwise (· ≤ ·) := by
  rcases n with _ | _ | n
  · exact List.Pairwise.nil
  · exact List.pairwise_singleton ..
  · exact absurd h (by (first | with_reducible assumption | exact Nat.lt_of_lt_of_le (by assumption) (by decide) | exact Nat.lt_of_le_of_lt (by assumption) (by decide) | lia | omega))
theorem few_items {vs : List Value} (h : vs.length < 2) : ((List.range vs.length).map fun i => vs.getD i Value.none).toArray = (vs.toArray.zip vs.toArray).map (·.2) := by
  rcases vs with _ | ⟨v, _ | ⟨u, l⟩⟩
  · simp
  · simp
  · exact absurd h (by simp only [List.length_cons]; (first | with_reducible assumption | exact Nat.lt_of_lt_of_le (by assumption) (by decide) | exact Nat.lt_of_le_of_lt (by assumption) (by decide) | lia | omega))

theorem list_sort_pairs {a : Addr} {vs : List Value} {ks : List (Int × Int)} {n : Nat} {P : Fin → Shared → Prop} (ho : s.heap.get? a = some (seqObj "list" vs.toArray n))
    (hI : PairsAre s.heap vs ks) (hb : ∀ k ∈ ks, 0 ≤ k.2 ∧ k.2 < 1048576) (h64 : vs.length < 64)
    (h : ∀ p : List Nat, p.Perm (List.range vs.length) → (p.map fun i => pkey (ks.getD i (0, 0))).Pairwise (· ≤ ·) → P (.done (.ret .none)) { s with heap := sortedHeap s.heap a vs (p.map fun i => vs.getD i .none).toArray }) :
    wpAny (model prog w) A (Builtin.«list.sort» ⟨[.ref a], []⟩) P E s := by
  rw [list_sort_plain]
  have ha : a < s.heap.objs.size := Heap.lt_size ho
  refine wpAny_bind (listItems_at ho rfl ?_)
  refine wpAny_bind (listUpdate_at ho rfl ?_ (by rw [List.size_toArray, sizeLine_eq]; (first | with_reducible assumption | exact Nat.lt_of_lt_of_le (by assumption) (by decide) | exact Nat.lt_of_le_of_lt (by assumption) (by decide) | lia | omega)) (Nat.zero_le _))
  obtain ⟨e1, ho1⟩ : ∃ e1, (s.heap.update a (Obj.mapSeq fun _ => #[])).get? a = some (seqObj "list" #[] e1) := ⟨_, get?_update_seq ho (fun _ => #[])⟩
  refine wpAny_bind (seqEpoch_at ho1 rfl ?_)
  refine wpAny_bind (wpAny_newTuple ?_ (by show vs.length ≤ _; rw [sizeLine_eq]; (first | with_reducible assumption | exact Nat.lt_of_lt_of_le (by assumption) (by decide) | exact Nat.lt_of_le_of_lt (by assumption) (by decide) | lia | omega)))
  refine wpAny_bind (wpAny_newList ?_ (Nat.zero_le _))
  refine wpAny_holding ?_
  have ho6 : (((s.heap.update a (Obj.mapSeq fun _ => #[])).push (seqObj "tuple" vs.toArray 0)).push (seqObj "list" #[] 0)).get? a = some (seqObj "list" #[] e1) := by
    rw [Heap.get?_push_ne _ _ _ (by rw [size_push', Heap.size_update]; exact Nat.ne_of_lt (Nat.lt_succ_of_lt ha)), Heap.get?_push_ne _ _ _ (by rw [Heap.size_update]; exact Nat.ne_of_lt ha)]
    exact ho1
  show wpAny (model prog w) A _ P E { s with heap := ((s.heap.update a (Obj.mapSeq fun _ => #[])).push (seqObj "tuple" vs.toArray 0)).push (seqObj "list" #[] 0) }
  have hI6 : PairsAre (((s.heap.update a (Obj.mapSeq fun _ => #[])).push (seqObj "tuple" vs.toArray 0)).push (seqObj "list" #[] 0)) vs ks := by
    clear h h64 hb
    have k : ∀ b o, s.heap.get? b = some o → o.cls = .type "tuple" → (((s.heap.update a (Obj.mapSeq fun _ => #[])).push (seqObj "tuple" vs.toArray 0)).push (seqObj "list" #[] 0)).get? b = some o := fun b o e c => by
      have ne : b ≠ a := by
        rintro rfl
        rw [ho] at e
        have e0 := Option.some.inj e
        rw [← e0] at c
        exact absurd c (by simp)
      exact Heap.get?_push_of_some _ (Heap.get?_push_of_some _ ((Heap.get?_update_ne _ _ _ _ ne).trans e))
    revert k
    generalize ((s.heap.update a (Obj.mapSeq fun _ => #[])).push (seqObj "tuple" vs.toArray 0)).push (seqObj "list" #[] 0) = H
    intro k
    clear ho ho6 ho1
    induction hI with
    | nil => exact .nil
    | cons x1 x2 x3 _ ih => exact .cons (k _ _ x1 x2) x2 x3 ih
  dsimp only
  have hsz : vs.toArray.size = vs.length := by simp
  generalize eH : ((s.heap.update a (Obj.mapSeq fun _ => #[])).push (seqObj "tuple" vs.toArray 0)).push (seqObj "list" #[] 0) = H at ho6 hI6
  by_cases h2 : vs.toArray.size < 2
  · rw [if_pos h2, if_pos h2]
    refine wpAny_bind (wpAny_pure ?_)
    rw [StateT.run_pure]
    refine wpAny_bind (wpAny_pure ?_)
    dsimp only
    refine wpAny_bind (seqEpoch_at ho6 rfl ?_)
    refine wpAny_bind (listUpdate_at ho6 rfl ?_ (hsz2 := by rw [Array.size_map]; show (pairsOf vs).size ≤ _; rw [pairsOf_size, sizeLine_eq]; (first | with_reducible assumption | exact Nat.lt_of_lt_of_le (by assumption) (by decide) | exact Nat.lt_of_le_of_lt (by assumption) (by decide) | lia | omega)))
    simp only [bne_self_eq_false, Bool.false_eq_true, if_false]
    have fin := h (List.range vs.length) (List.Perm.refl _) (by
      rw [hsz] at h2
      exact few_sorted _ h2)
    have e : ((List.range vs.length).map fun i => vs.getD i Value.none).toArray = (arrOf (SortSt.mk' general' (vs.toArray.zip vs.toArray) #[] 7 none)).map (·.2) := by
      show _ = (vs.toArray.zip vs.toArray).map (·.2)
      rw [hsz] at h2
      exact few_items h2
    rw [e] at fin
    unfold sortedHeap at fin
    rw [eH] at fin
    exact wpAny_pure fin
  · rw [if_neg h2, if_neg h2]
    obtain ⟨fs, t1, t2, t3⟩ := hI6.tups
    refine wpAny_bind (kat_kind (s := { s with heap := H }) (T := .type "int") t1 (by rw [t2]; (first | with_reducible assumption | exact Nat.lt_of_lt_of_le (by assumption) (by decide) | exact Nat.lt_of_le_of_lt (by assumption) (by decide) | lia | omega)) (fun v hv => by
      obtain ⟨i, t, rfl⟩ := t3 v hv
      exact Looks.of_pure rfl) (by decide) ?_)
    have eb : (Value.type "int" != Value.type "tuple") = true := by decide
    rw [eb]
    have run := pw_wp (s := { s with heap := H }) (cmp := kas_ask prog w A (tuples' true) vs) (c := ora fun i => pkey (ks.getD i (0, 0))) (N := vs.length) (Q := fun p s' => s' = { s with heap := H } ∧ Bd vs.length p ∧ Up (fun i => pkey (ks.getD i (0, 0))) p vs.length) (fun i j C hi hj hC => by
      obtain ⟨a1, o1, n1, x1, y1, t1, u1, e1, e2, e3, e4, e5⟩ := hI6.get hi
      obtain ⟨a2, o2, n2, x2, y2, t2, u2, f1, f2, f3, f4, f5⟩ := hI6.get hj
      show wpAny _ _ (keyLt' _ (vs.getD i .none) (vs.getD j .none)) _ _ _
      rw [e1, f1]
      have m1 : (x1, y1) ∈ ks := by
        have hi' : i < ks.length := by rw [← hI.length]; exact hi
        rw [← e5, List.getD_eq_getElem?_getD, List.getElem?_eq_getElem hi']
        exact List.getElem_mem hi'
      have m2 : (x2, y2) ∈ ks := by
        have hj' : j < ks.length := by rw [← hI.length]; exact hj
        rw [← f5, List.getD_eq_getElem?_getD, List.getElem?_eq_getElem hj']
        exact List.getElem_mem hj'
      refine pair_lt e2 e4 f2 f4 (hb _ m1) (hb _ m2) ?_
      rw [← e5, ← f5]
      exact hC) (fun p hp => ⟨rfl, hp⟩) (kas_sort vs.length) (sort_pw (f := fun i => pkey (ks.getD i (0, 0))) (by (first | with_reducible assumption | exact Nat.lt_of_lt_of_le (by assumption) (by decide) | exact Nat.lt_of_le_of_lt (by assumption) (by decide) | lia | omega)))
    refine wpAny_bind (wpAny_mono (kat_run (ks := vs) (Q := fun st' s' => ∃ p : Array Nat, arrOf st' = p.map (kas_item (vs.toArray.zip vs.toArray)) ∧ failedOf st' = none ∧ s' = { s with heap := H } ∧ Bd vs.length p ∧ Up (fun i => pkey (ks.getD i (0, 0))) p vs.length) rfl (by (first | with_reducible assumption | exact Nat.lt_of_lt_of_le (by assumption) (by decide) | exact Nat.lt_of_le_of_lt (by assumption) (by decide) | lia | omega)) h64
      (fun p st' s' a1 a2 a3 a4 => ⟨p, a2, a3, a4⟩) run) ?_ fun _ _ e => e)
    rintro ⟨⟨⟩, st'⟩ s' ⟨p, har, hf, rfl, hB, hU⟩
    dsimp only
    have hsn := kat_snds (ks := vs) (vs := vs) rfl har
    refine wpAny_bind (seqEpoch_at ho6 rfl ?_)
    refine wpAny_bind (listUpdate_at ho6 rfl ?_ (hsz2 := by rw [hsn, List.size_toArray, List.length_map, Array.length_toList, hB.size, sizeLine_eq]; (first | with_reducible assumption | exact Nat.lt_of_lt_of_le (by assumption) (by decide) | exact Nat.lt_of_le_of_lt (by assumption) (by decide) | lia | omega)))
    rw [hf]
    simp only [bne_self_eq_false, Bool.false_eq_true, if_false]
    have fin := h p.toList (by have := Array.perm_iff_toList_perm.mp hB; simpa using this) (by
      rw [List.pairwise_iff_getElem]
      intro i j hi hj hij
      have hi' : i < p.size := by simpa using hi
      have hj' : j < p.size := by simpa using hj
      have := hU.le' (Nat.le_of_lt hij) (by rw [← hB.size]; exact hj')
      have gi : p.getD i 0 = p[i] := by simp [Array.getD, hi']
      have gj : p.getD j 0 = p[j] := by simp [Array.getD, hj']
      simp only [Ky, gi, gj] at this
      simpa using this)
    rw [← hsn] at fin
    unfold sortedHeap at fin
    rw [eH] at fin
    exact wpAny_pure fin

theorem sorted_pairs {l : Addr} {vs : List Value} {ks : List (Int × Int)} {Q : Value → Shared → Prop} (hl : s.heap.IsList l vs.toArray) (hI : PairsAre s.heap vs ks) (hb : ∀ k ∈ ks, 0 ≤ k.2 ∧ k.2 < 1048576) (h64 : vs.length < 64)
    (h : ∀ p : List Nat, p.Perm (List.range vs.length) → (p.map fun i => pkey (ks.getD i (0, 0))).Pairwise (· ≤ ·) → Q (.ref (s.heap.objs.size + 1)) { s with heap := sortedAll s.heap vs (p.map fun i => vs.getD i .none).toArray }) :
    wpAny (model prog w) A (call (.builtin "sorted") [.ref l]) Q E s := by
  refine Calls.call_function_entry kind_sorted plain_sorted entry_sorted (args_sorted1 _) ?_
  unfold Builtin.«sorted»
  refine wpAny_bind (m := checkCount "sorted" 1 1 _) (wpAny_pure ?_)
  refine wpAny_bind (collect_list hl ?_ (by rw [sizeLine_eq]; (first | with_reducible assumption | exact Nat.lt_of_lt_of_le (by assumption) (by decide) | exact Nat.lt_of_le_of_lt (by assumption) (by decide) | lia | omega)))
  refine wpAny_bind (wpAny_newList ?_ (by rw [sizeLine_eq]; (first | with_reducible assumption | exact Nat.lt_of_lt_of_le (by assumption) (by decide) | exact Nat.lt_of_le_of_lt (by assumption) (by decide) | lia | omega)))
  have hsz : ((s.heap.push (seqObj "list" #[] 0)).update s.heap.objs.size (Obj.mapSeq (· ++ vs.toArray))).objs.size = s.heap.objs.size + 1 := by
    rw [Heap.size_update, size_push']
  have hoL : (((s.heap.push (seqObj "list" #[] 0)).update s.heap.objs.size (Obj.mapSeq (· ++ vs.toArray))).push (seqObj "list" vs.toArray 0)).get? (s.heap.objs.size + 1) = some (seqObj "list" vs.toArray 0) := by
    rw [← hsz]; exact Heap.get?_push_size _ rfl
  have kp : ∀ b o, s.heap.get? b = some o → (((s.heap.push (seqObj "list" #[] 0)).update s.heap.objs.size (Obj.mapSeq (· ++ vs.toArray))).push (seqObj "list" vs.toArray 0)).get? b = some o := fun b o e =>
    Heap.get?_push_of_some _ ((Heap.get?_update_ne _ _ _ _ (Nat.ne_of_lt (Heap.lt_size e))).trans (Heap.get?_push_of_some _ e))
  show wpAny _ _ _ _ _ { s with heap := ((s.heap.push (seqObj "list" #[] 0)).update s.heap.objs.size (Obj.mapSeq (· ++ vs.toArray))).push (seqObj "list" vs.toArray 0) }
  rw [hsz]
  refine wpAny_bind (wpAny_holding (wpAny_call_entry slot_list_sort ⟨_, hoL, rfl⟩ entry_list_sort (list_sort_pairs hoL (hI.mono kp) hb h64 fun p a1 a2 => ⟨_, rfl, ?_⟩) (args_list_sort _)))
  exact wpAny_pure ⟨_, rfl, h p a1 a2⟩
end
section
variable {prog : Program} {w : World} {A : Around} {E : Value → Shared → Prop} {s : Shared}

noncomputable def Collects (prog : Program) (w : World) (A : Around) (s : Shared) (v : Value) (C : List Value → Prop) : Prop :=
  ∀ (E : Value → Shared → Prop) (R : List Value → Shared → Prop), (∀ vs h' tk, (∀ b o, s.heap.get? b = some o → h'.get? b = some o) → C vs → R vs { s with heap := h', toks := tk }) → wpAny (model prog w) A (collect v) R E s

theorem collects_seq {it : Addr} {T : String} {o : Obj} {items : Array Value} {n : Nat} (hT : T = "list" ∨ T = "tuple") (ho : s.heap.get? it = some o) (hc : o.cls = .type T) (hd : o.data = .seq items n) (hsz : items.size ≤ sizeLine) :
    Collects prog w A s (.ref it) (fun vs => vs = items.toList) := fun E R h => wpAny_collect_seq it hT ho hc hd (fun h' k => h _ h' s.toks k rfl) hsz
theorem collects_dict {d : Addr} {kvs : List (Int × Value)} {ep : Nat} (hh : A.handled = none) (lo : (d == sysModules) = false) (hd : s.heap.DictAt (intKind prog w) d kvs ep) (hsz : kvs.length ≤ sizeLine) :
    Collects prog w A s (.ref d) (fun vs => IntsAre vs (kvs.map (·.1))) := fun E R h => by
  refine kdu_collect (kdl_dict (prog := prog) (w := w) (knd := intKind prog w) (kvs := kvs) (ep := ep) lo) hh hd hsz fun h' tk acc k hi => h _ h' tk k ?_
  obtain ⟨h1, h2⟩ := hi
  have hl : acc.toList.length = (kvs.map (·.1)).length := by rw [Array.length_toList, h1, List.length_map]
  have go : ∀ (vs : List Value) (ns : List Int), vs.length = ns.length → (∀ (i : Nat) (v : Value) (n : Int), vs[i]? = some v → ns[i]? = some n → ∃ t, v = Value.int n t) → IntsAre vs ns := by
    intro vs
    induction vs with
    | nil => intro ns hl _; cases ns with | nil => exact .nil | cons _ _ => simp at hl
    | cons v vs ih =>
      intro ns hl hp
      cases ns with
      | nil => simp at hl
      | cons n ns =>
        obtain ⟨t, rfl⟩ := hp 0 v n rfl rfl
        exact .cons n t (ih ns (by simpa using hl) fun i v n a b => hp (i + 1) v n a b)
  refine go _ _ hl fun i v n a b => ?_
  obtain ⟨k', x, e1, e2⟩ := h2 i v (by rw [← Array.getElem?_toList]; exact a)
  rw [List.getElem?_map, e1] at b
  simp only [Option.map_some, Option.some.injEq] at b
  subst b
  exact Value.isInt_shape e2

theorem sortI {v : Value} {ns : List Int} {Q : Value → Shared → Prop} (hC : Collects prog w A.in1 s v (fun vs => IntsAre vs ns)) (h64 : ns.length < 64)
    (h : ∀ h' tk D out ns' e, (∀ b o, s.heap.get? b = some o → h'.get? b = some o) → s.heap.get? D = none → h'.get? D = some (seqObj "list" out e) → IntsAre out.toList ns' → ns'.Perm ns → ns'.Pairwise (· ≤ ·) → Q (.ref D) { s with heap := h', toks := tk }) :
    wpAny (model prog w) A (call (.builtin "sorted") [v]) Q E s := by
  refine Calls.call_function_entry kind_sorted plain_sorted entry_sorted (args_sorted1 _) ?_
  unfold Builtin.«sorted»
  refine wpAny_bind (m := checkCount "sorted" 1 1 _) (wpAny_pure ?_)
  refine wpAny_bind (hC _ _ fun vs h₁ tk k hI => ?_)
  have hlen := IntsAre.length hI
  refine wpAny_bind (wpAny_newList ?_ (Nat.le_trans (Nat.le_of_lt (show vs.length < 64 by (first | with_reducible assumption | exact Nat.lt_of_lt_of_le (by assumption) (by decide) | exact Nat.lt_of_le_of_lt (by assumption) (by decide) | lia | omega))) (by rw [sizeLine_eq]; decide)))
  have hoL : (h₁.push (seqObj "list" vs.toArray 0)).get? h₁.objs.size = some (seqObj "list" vs.toArray 0) := Heap.get?_push_size _ rfl
  have hDn : s.heap.get? h₁.objs.size = none := by
    cases z : s.heap.get? h₁.objs.size with
    | none => rfl
    | some o => exact absurd (Heap.lt_size (k _ _ z)) (Nat.lt_irrefl _)
  refine wpAny_bind (wpAny_holding (wpAny_call_entry slot_list_sort ⟨_, hoL, rfl⟩ entry_list_sort (list_sort_tree (s := { s with heap := h₁.push (seqObj "list" vs.toArray 0), toks := tk }) hoL hI (by (first | with_reducible assumption | exact Nat.lt_of_lt_of_le (by assumption) (by decide) | exact Nat.lt_of_le_of_lt (by assumption) (by decide) | lia | omega)) fun out ns' a1 a2 a3 => ⟨_, rfl, ?_⟩) (args_list_sort _)))
  refine wpAny_pure ⟨_, rfl, ?_⟩
  obtain ⟨e, he⟩ := sortedHeap_at (vs := vs) (out := out) hoL
  refine h _ tk _ out ns' e (fun b o q => ?_) hDn he a1 a2 a3
  have hb := k b o q
  have lt := Heap.lt_size hb
  rw [sortedHeap_old (Nat.ne_of_lt lt) (by rw [Heap.size_push]; exact Nat.lt_succ_of_lt lt)]
  exact Heap.get?_push_of_some _ hb

theorem sortP {v : Value} {vs : List Value} {ks : List (Int × Int)} {Q : Value → Shared → Prop} (hC : Collects prog w A.in1 s v (fun us => us = vs)) (hI : PairsAre s.heap vs ks) (hb : ∀ k ∈ ks, 0 ≤ k.2 ∧ k.2 < 1048576) (h64 : vs.length < 64)
    (h : ∀ h' tk D e (p : List Nat), (∀ b o, s.heap.get? b = some o → h'.get? b = some o) → s.heap.get? D = none → h'.get? D = some (seqObj "list" (p.map fun i => vs.getD i .none).toArray e) → p.Perm (List.range vs.length) → (p.map fun i => pkey (ks.getD i (0, 0))).Pairwise (· ≤ ·) → Q (.ref D) { s with heap := h', toks := tk }) :
    wpAny (model prog w) A (call (.builtin "sorted") [v]) Q E s := by
  refine Calls.call_function_entry kind_sorted plain_sorted entry_sorted (args_sorted1 _) ?_
  unfold Builtin.«sorted»
  refine wpAny_bind (m := checkCount "sorted" 1 1 _) (wpAny_pure ?_)
  refine wpAny_bind (hC _ _ fun us h₁ tk k e => ?_)
  subst e
  refine wpAny_bind (wpAny_newList ?_ (Nat.le_trans (Nat.le_of_lt h64) (by rw [sizeLine_eq]; decide)))
  have hoL : (h₁.push (seqObj "list" us.toArray 0)).get? h₁.objs.size = some (seqObj "list" us.toArray 0) := Heap.get?_push_size _ rfl
  have hDn : s.heap.get? h₁.objs.size = none := by
    cases z : s.heap.get? h₁.objs.size with
    | none => rfl
    | some o => exact absurd (Heap.lt_size (k _ _ z)) (Nat.lt_irrefl _)
  have hI' : PairsAre (h₁.push (seqObj "list" us.toArray 0)) us ks := hI.mono fun b o e => Heap.get?_push_of_some _ (k b o e)
  refine wpAny_bind (wpAny_holding (wpAny_call_entry slot_list_sort ⟨_, hoL, rfl⟩ entry_list_sort (list_sort_pairs (s := { s with heap := h₁.push (seqObj "list" us.toArray 0), toks := tk }) hoL hI' hb h64 fun p a1 a2 => ⟨_, rfl, ?_⟩) (args_list_sort _)))
  refine wpAny_pure ⟨_, rfl, ?_⟩
  obtain ⟨e, he⟩ := sortedHeap_at (vs := us) (out := (p.map fun i => us.getD i .none).toArray) hoL
  refine h _ tk _ e p (fun b o q => ?_) hDn he a1 a2
  have hb := k b o q
  have lt := Heap.lt_size hb
  rw [sortedHeap_old (Nat.ne_of_lt lt) (by rw [Heap.size_push]; exact Nat.lt_succ_of_lt lt)]
  exact Heap.get?_push_of_some _ hb
end
noncomputable def LstD (G : GH) (d : D) (ds : List D) : Prop := d = .list ds ∨ ∃ a, d = .ref a ∧ G a = some (.list ds)
noncomputable def SeqD (G : GH) (d : D) (ds : List D) : Prop := LstD G d ds ∨ d = .tup ds
theorem LstD.frozen {G : GH} {ds : List D} : LstD G (.list ds) ds := .inl rfl
theorem LstD.live {G : GH} {a : Addr} {ds : List D} (h : G a = some (.list ds)) : LstD G (.ref a) ds := .inr ⟨a, rfl, h⟩
theorem SeqD.list {G : GH} {ds : List D} : SeqD G (.list ds) ds := .inl (.inl rfl)
theorem SeqD.tup {G : GH} {ds : List D} : SeqD G (.tup ds) ds := .inr rfl
theorem SeqD.live {G : GH} {a : Addr} {ds : List D} (h : G a = some (.list ds)) : SeqD G (.ref a) ds := .inl (.live h)

section
variable {prog : Program} {w : World} {K : Frag} {n : Nat} {sc : Scope} {tab : Tab} {ρ : Loc} {G : GH} {F : FH} {A : Around} {s : Shared} {env : Env} {a b : Int} {Q : D → GH → Prop}

theorem lst_at {d : D} {ds : List D} {v : Value} (I : Inv prog w K F G s.heap) (r : Rep w.params F d v) (h : LstD G d ds) : ∃ a vs m, v = .ref a ∧ s.heap.get? a = some (seqO "list" vs m) ∧ RepAll w.params F ds vs := by
  rcases h with rfl | ⟨a, rfl, g⟩
  · cases r with
    | list f r => exact ⟨_, _, _, rfl, I.hF _ _ f, r⟩
  · (first | obtain rfl := r.inv | obtain ⟨_, rfl⟩ := r.inv | cases r)
    obtain ⟨o, e, c⟩ := I.hG _ _ g
    cases c with
    | list r => exact ⟨_, _, _, rfl, e, r⟩
theorem seq_at {d : D} {ds : List D} {v : Value} (I : Inv prog w K F G s.heap) (r : Rep w.params F d v) (h : SeqD G d ds) : ∃ a T o vs m, v = .ref a ∧ (T = "list" ∨ T = "tuple") ∧ s.heap.get? a = some o ∧ o.cls = .type T ∧ o.data = .seq (List.toArray vs) m ∧ RepAll w.params F ds vs ∧ (∀ ds', d = .tup ds' → T = "tuple") ∧ (LstD G d ds → T = "list") := by
  rcases h with h | rfl
  · obtain ⟨a, vs, m, e, h1, h2⟩ := lst_at I r h
    refine ⟨a, "list", _, vs, m, e, .inl rfl, h1, rfl, rfl, h2, fun ds' e' => ?_, fun _ => rfl⟩
    subst e'
    rcases h with h | ⟨_, h, _⟩ <;> cases h
  · cases r with
    | tup f q r =>
      obtain ⟨m, hm⟩ := q.2
      refine ⟨_, "tuple", _, _, m, rfl, .inr rfl, I.hF _ _ f, q.1, hm, r, fun _ _ => rfl, fun z => ?_⟩
      rcases z with z | ⟨_, z, _⟩ <;> cases z

theorem Out.made (I : Inv prog w K F G s.heap) {h' : Heap} {t : Tok} {T : Addr} {o : Obj} (k : ∀ b o, s.heap.get? b = some o → h'.get? b = some o) (hn : s.heap.get? T = none) (ho : h'.get? T = some o) : Out prog w K [] F G s (F.put T o) G { s with heap := h', toks := t } := by
  have f := I.fresh hn
  exact Out.addF (Out.other (X := []) (t := t) I (fun b o _ e => k b o e) (fun _ m => nomatch m) (fun _ m => nomatch m)) hn f.1 f.2 ho
theorem fle_made (I : Inv prog w K F G s.heap) {T : Addr} {o : Obj} (hn : s.heap.get? T = none) : FLe F (F.put T o) := FH.le_put (I.fresh hn).1

theorem OP_1 {d : D} {f : List Value → Sem Value} (h : ∀ (A : Around) (F : FH) (s : Shared) (v : Value), OkA n A → Inv prog w K F G s.heap → Rep w.params F d v → VX prog w K A F G s (f [v]) Q) : OP prog w K n G [d] f Q := by
  intro A F s vs ok I r
  cases r with
  | cons r1 r => (first | obtain rfl := r.inv | obtain ⟨_, rfl⟩ := r.inv | cases r); exact h A F s _ ok I r1
theorem OP_2 {d e : D} {f : List Value → Sem Value} (h : ∀ (A : Around) (F : FH) (s : Shared) (v u : Value), OkA n A → Inv prog w K F G s.heap → Rep w.params F d v → Rep w.params F e u → VX prog w K A F G s (f [v, u]) Q) : OP prog w K n G [d, e] f Q := by
  intro A F s vs ok I r
  cases r with
  | cons r1 r =>
    cases r with
    | cons r2 r => (first | obtain rfl := r.inv | obtain ⟨_, rfl⟩ := r.inv | cases r); exact h A F s _ _ ok I r1 r2

open Classical in
theorem OP_eqL {k : Nat} {d e : D} {ds es : List D} (hd : LstD G d ds) (he : LstD G e es) (hl : ∀ x ∈ ds, ∀ y ∈ es, Like k x y) (hk : k ≤ 50) (q : ∀ b, (b = true ↔ ds = es) → Q (.bool b) G) : OP prog w K n G [d, e] (two (compareOp .Eq)) Q := by
  refine OP_2 fun A F s v u ok I r1 r2 => ?_
  obtain ⟨a, vs, m, rfl, h1, p1⟩ := lst_at I r1 hd
  obtain ⟨b, us, m', rfl, h2, p2⟩ := lst_at I r2 he
  have hu : A.units + 60 < cLine := by have := ok.2.2; (first | with_reducible assumption | exact Nat.lt_of_lt_of_le (by assumption) (by decide) | exact Nat.lt_of_le_of_lt (by assumption) (by decide) | lia | omega)
  have l1 : s.heap.IsList a vs.toArray := ⟨_, h1, rfl, _, rfl⟩
  have l2 : s.heap.IsList b us.toArray := ⟨_, h2, rfl, _, rfl⟩
  show wpAny _ _ (compareOp .Eq (.ref a) (.ref b)) _ _ _
  by_cases hl' : vs.length = us.length
  · have all : ∀ j, ∃ b, j < vs.length → (b = true ↔ ds[j]? = es[j]?) ∧ ∀ (h1 : j < vs.toArray.size) (h2 : j < us.toArray.size), EqAt A.in1 s vs.toArray[j] us.toArray[j] b := fun j => by
      by_cases hj : j < vs.length
      · obtain ⟨d, e1, m1, q1⟩ := p1.at (j := j) (by simpa using hj)
        obtain ⟨d', e2, m2, q2⟩ := p2.at (j := j) (by simpa [← hl'] using hj)
        obtain ⟨b, hb, hq⟩ := eqAt I.hF k d d' _ _ A.in1 (hl d m1 d' m2) q1 q2 (by show A.units + 1 + k < cLine; (first | with_reducible assumption | exact Nat.lt_of_lt_of_le (by assumption) (by decide) | exact Nat.lt_of_le_of_lt (by assumption) (by decide) | lia | omega))
        exact ⟨b, fun _ => ⟨by rw [e1, e2, hb]; simp, fun _ _ => hq⟩⟩
      · exact ⟨false, fun z => absurd z hj⟩
    obtain ⟨eb, hE⟩ := Classical.skolem.mp all
    refine eq_listAt (e := eb) l1 l2 (by simp [hl']) (by (first | with_reducible assumption | exact Nat.lt_of_lt_of_le (by assumption) (by decide) | exact Nat.lt_of_le_of_lt (by assumption) (by decide) | lia | omega)) (fun j h1 h2 => (hE j (by simpa using h1)).2 h1 h2) ⟨F, G, _, Out.refl I, .bool _, q _ ?_⟩
    rw [toArray_size, range_all p1.length (by rw [p2.length, hl']) fun j hj => (hE j hj).1]
  · refine eq_list_lengthsAt l1 l2 (by simpa using hl') (by (first | with_reducible assumption | exact Nat.lt_of_lt_of_le (by assumption) (by decide) | exact Nat.lt_of_le_of_lt (by assumption) (by decide) | lia | omega)) ⟨F, G, _, Out.refl I, .bool _, q _ ?_⟩
    simp only [Bool.false_eq_true, false_iff]
    rintro rfl
    exact hl' (p1.length.symm.trans p2.length)
theorem ints_are {P : Params} : ∀ {ns : List Int} {vs : List Value}, RepAll P F (ns.map .int) vs → IntsAre vs ns
  | [], _, h => by cases h; exact .nil
  | i :: ns, _, h => by
    cases h with
    | cons a b => cases a; exact .cons _ _ (ints_are b)
theorem are_ints {P : Params} : ∀ {vs : List Value} {ns : List Int}, IntsAre vs ns → RepAll P F (ns.map .int) vs
  | _, _, .nil => .nil
  | _, _, .cons _ _ r => .cons (.int _ _) (are_ints r)
theorem OP_neI {d e : D} {ns ms : List Int} (hd : LstD G d (ns.map .int)) (he : LstD G e (ms.map .int)) (q : Q (.bool (!decide (ns = ms))) G) : OP prog w K n G [d, e] (two (compareOp .NotEq)) Q := by
  refine OP_2 fun A F s v u ok I r1 r2 => ?_
  obtain ⟨a, vs, m, rfl, h1, p1⟩ := lst_at I r1 hd
  obtain ⟨b, us, m', rfl, h2, p2⟩ := lst_at I r2 he
  have l1 : s.heap.IsList a vs.toArray := ⟨_, h1, rfl, _, rfl⟩
  have l2 : s.heap.IsList b us.toArray := ⟨_, h2, rfl, _, rfl⟩
  exact ne_intsK l1 (ints_are p1) l2 (ints_are p2) (by have := ok.2.2; (first | with_reducible assumption | exact Nat.lt_of_lt_of_le (by assumption) (by decide) | exact Nat.lt_of_le_of_lt (by assumption) (by decide) | lia | omega)) ⟨F, G, _, Out.refl I, .bool _, q⟩
theorem OP_eqS {x y : Str} (q : Q (.bool (x == y)) G) : OP prog w K n G [.str x, .str y] (two (compareOp .Eq)) Q := by
  refine OP_2 fun A F s v u ok I r1 r2 => ?_
  (first | obtain rfl := r1.inv | obtain ⟨_, rfl⟩ := r1.inv | cases r1); (first | obtain rfl := r2.inv | obtain ⟨_, rfl⟩ := r2.inv | cases r2)
  exact RcAt.str_str _ _ _ _ prog w _ _ ⟨F, G, _, Out.refl I, .bool _, q⟩
theorem OP_isNotNone {d : D} (q : Q (.bool (match d with | .none => false | _ => true)) G) : OP prog w K n G [d, .none] (two (compareOp .IsNot)) Q := by
  refine OP_2 fun A F s v u ok I r1 r2 => ?_
  (first | obtain rfl := r2.inv | obtain ⟨_, rfl⟩ := r2.inv | cases r2)
  refine isnot_none_gen ⟨F, G, _, Out.refl I, .bool _, ?_⟩
  cases r1 <;> exact q

open Classical in
theorem mem_any {k : Nat} {d : D} {ds : List D} {vs : List Value} {u : Value} (I : Inv prog w K F G s.heap) (r : RepAll w.params F ds vs) (r2 : Rep w.params F d u) (hl : ∀ x ∈ ds, Like k x d) {A : Around} (hu : A.units + k < cLine) :
    ∃ e : Value → Bool, (∀ y, y ∈ vs.toArray → EqAt A s y u (e y)) ∧ (vs.toArray.any e = true ↔ d ∈ ds) ∧ ∀ (j : Nat) (hj : j < vs.toArray.size), (e vs.toArray[j] = true ↔ ds[j]? = some d) := by
  have key : ∀ y x, x ∈ ds → Rep w.params F x y → (decide (Rep w.params F d y) = true ↔ x = d) := fun y x m p => by
    rw [decide_eq_true_iff]
    constructor
    · intro z; exact like_inj k x d y (hl x m) p z
    · rintro rfl; exact p
  refine ⟨fun y => decide (Rep w.params F d y), fun y m => ?_, ?_, fun j hj => ?_⟩
  · have m' : y ∈ vs := by simpa using m
    obtain ⟨j, hj, e⟩ := List.getElem_of_mem m'
    obtain ⟨x, e1, m1, p⟩ := r.at (j := j) (by simpa using hj)
    have p : Rep w.params F x y := by simpa [e] using p
    obtain ⟨b, hb, hq⟩ := eqAt I.hF k x d y u A (hl x m1) p r2 hu
    have := key y x m1 p
    have eb : b = decide (Rep w.params F d y) := by
      cases b with
      | true => exact (this.mpr (hb.mp rfl)).symm
      | false =>
        cases z : decide (Rep w.params F d y) with
        | false => rfl
        | true => exact absurd (hb.mpr (this.mp z)) (by decide)
    show EqAt A s y u (decide (Rep w.params F d y))
    rw [← eb]; exact hq
  · rw [Array.any_eq_true]
    constructor
    · rintro ⟨j, hj, e⟩
      obtain ⟨x, e1, m1, p⟩ := r.at (j := j) hj
      have := (key _ x m1 p).mp e
      rw [← this]; exact m1
    · intro m
      obtain ⟨j, hj, e⟩ := List.getElem_of_mem m
      obtain ⟨v, e1, p⟩ := r.get (List.getElem?_eq_getElem hj)
      have hj' : j < vs.length := (List.getElem?_eq_some_iff.mp e1).1
      refine ⟨j, by simpa using hj', ?_⟩
      have e2 : vs.toArray[j]'(by simpa using hj') = v := by
        have := (List.getElem?_eq_some_iff.mp e1).2
        simpa using this
      rw [e2]
      exact decide_eq_true (e ▸ p)
  · obtain ⟨x, e1, m1, p⟩ := r.at (j := j) hj
    rw [e1, key _ x m1 p]; simp
theorem OP_in {k : Nat} {d e : D} {ds : List D} (he : SeqD G e ds) (hl : ∀ x ∈ ds, Like k x d) (hk : k ≤ 50) (q : ∀ b, (b = true ↔ d ∈ ds) → Q (.bool b) G) : OP prog w K n G [d, e] (two (compareOp .In)) Q := by
  refine OP_2 fun A F s v u ok I r1 r2 => ?_
  obtain ⟨a, T, o, vs, m, rfl, hT, h1, h2, h3, p, -, -⟩ := seq_at I r2 he
  have hu : A.units + 60 < cLine := by have := ok.2.2; (first | with_reducible assumption | exact Nat.lt_of_lt_of_le (by assumption) (by decide) | exact Nat.lt_of_le_of_lt (by assumption) (by decide) | lia | omega)
  obtain ⟨eb, e1, e2, -⟩ := mem_any I p r1 hl (A := A.in1) (by show A.units + 1 + k < cLine; (first | with_reducible assumption | exact Nat.lt_of_lt_of_le (by assumption) (by decide) | exact Nat.lt_of_le_of_lt (by assumption) (by decide) | lia | omega))
  rcases hT with rfl | rfl
  · exact in_listAt eb ⟨_, h1, h2, m, h3⟩ e1 ⟨F, G, _, Out.refl I, .bool _, q _ e2⟩
  · exact in_tupleAt eb ⟨_, h1, h2, m, h3⟩ e1 ⟨F, G, _, Out.refl I, .bool _, q _ e2⟩
theorem OP_notIn {k : Nat} {d e : D} {ds : List D} (he : SeqD G e ds) (hl : ∀ x ∈ ds, Like k x d) (hk : k ≤ 50) (q : ∀ b, (b = true ↔ d ∉ ds) → Q (.bool b) G) : OP prog w K n G [d, e] (two (compareOp .NotIn)) Q := by
  refine OP_2 fun A F s v u ok I r1 r2 => ?_
  obtain ⟨a, T, o, vs, m, rfl, hT, h1, h2, h3, p, -, -⟩ := seq_at I r2 he
  have hu : A.units + 60 < cLine := by have := ok.2.2; (first | with_reducible assumption | exact Nat.lt_of_lt_of_le (by assumption) (by decide) | exact Nat.lt_of_le_of_lt (by assumption) (by decide) | lia | omega)
  obtain ⟨eb, e1, e2, -⟩ := mem_any I p r1 hl (A := A.in1) (by show A.units + 1 + k < cLine; (first | with_reducible assumption | exact Nat.lt_of_lt_of_le (by assumption) (by decide) | exact Nat.lt_of_le_of_lt (by assumption) (by decide) | lia | omega))
  have e3 : (!vs.toArray.any eb) = true ↔ d ∉ ds := by rw [← e2]; cases vs.toArray.any eb <;> simp
  rcases hT with rfl | rfl
  · exact notIn_listAt eb ⟨_, h1, h2, m, h3⟩ e1 ⟨F, G, _, Out.refl I, .bool _, q _ e3⟩
  · exact notIn_tupleAt eb ⟨_, h1, h2, m, h3⟩ e1 ⟨F, G, _, Out.refl I, .bool _, q _ e3⟩

theorem OP_len {d : D} {ds : List D} (hd : SeqD G d ds) (hz : ds.length < 2 ^ 40) (q : Q (.int (ds.length : Nat)) G) : OP prog w K n G [d] (fun vs => call (.builtin "len") vs) Q := by
  refine OP_1 fun A F s v ok I r1 => ?_
  obtain ⟨a, T, o, vs, m, rfl, hT, h1, h2, h3, p, -, -⟩ := seq_at I r1 hd
  have el := p.length
  have ef : (Value.int ((List.toArray vs).size : Nat) (s.toks + 1)) = .int (ds.length : Nat) (s.toks + 1) := by rw [toArray_size, el]
  rcases hT with rfl | rfl
  · refine call_len_list (items := vs.toArray) ⟨_, h1, h2, m, h3⟩ (by rw [toArray_size]; (first | with_reducible assumption | exact Nat.lt_of_lt_of_le (by assumption) (by decide) | exact Nat.lt_of_le_of_lt (by assumption) (by decide) | lia | omega)) ⟨F, G, .int (ds.length : Nat), Out.toks I _, ?_, q⟩
    rw [ef]; exact .int _ _
  · refine PyProof.Rows.len_tuple (items := vs.toArray) ⟨_, h1, h2, m, h3⟩ (by rw [toArray_size]; (first | with_reducible assumption | exact Nat.lt_of_lt_of_le (by assumption) (by decide) | exact Nat.lt_of_le_of_lt (by assumption) (by decide) | lia | omega)) ⟨F, G, .int (ds.length : Nat), Out.toks I _, ?_, q⟩
    rw [ef]; exact .int _ _
theorem OP_list {d : D} {ds : List D} (hd : SeqD G d ds) (hz : ds.length < 2 ^ 20) (q : Q (.list ds) G) : OP prog w K n G [d] (fun vs => call (.type "list") vs) Q := by
  refine OP_1 fun A F s v ok I r1 => ?_
  obtain ⟨a, T, o, vs, m, rfl, hT, h1, h2, h3, p, -, -⟩ := seq_at I r1 hd
  refine call_list_seq a hT h1 h2 h3 (fun h' c' k hD => ?_) (by rw [toArray_size]; exact size_ok p hz)
  have hn := get_size s.heap
  exact ⟨_, G, .list ds, Out.made (t := s.toks) I k hn hD, .list (n := c') FH.put_self (p.mono (fle_made I hn)), q⟩
theorem OP_listG {d : D} {ds : List D} (hd : SeqD G d ds) (hz : ds.length < 2 ^ 20) (q : ∀ a, G a = none → Q (.ref a) (G.put a (.list ds))) : OP prog w K n G [d] (fun vs => call (.type "list") vs) Q := by
  refine OP_1 fun A F s v ok I r1 => ?_
  obtain ⟨a, T, o, vs, m, rfl, hT, h1, h2, h3, p, -, -⟩ := seq_at I r1 hd
  refine call_list_seq a hT h1 h2 h3 (fun h' c' k hD => ?_) (by rw [toArray_size]; exact size_ok p hz)
  have hn := get_size s.heap
  have f := I.fresh hn
  have O₁ : Out prog w K [] F G s F G { s with heap := h' } := Out.other (X := []) (t := s.toks) I (fun b o _ e => k b o e) (fun _ m => nomatch m) (fun _ m => nomatch m)
  refine ⟨F, G.put s.heap.objs.size (.list ds), .ref _, ⟨O₁.same, ⟨O₁.step.keep, O₁.step.mono, fun b kb => ?_, O₁.step.alive⟩, ⟨O₁.inv.kF, O₁.inv.hF, fun b c e => ?_, fun b e => ?_⟩⟩, .ref _, q _ f.2⟩
  · by_cases e : b = s.heap.objs.size
    · subst e; exact .inr hn
    · rcases kb with z | z
      · exact .inl (.inl z)
      · rw [GH.put_ne e] at z; exact .inl (.inr z)
  · by_cases z : b = s.heap.objs.size
    · subst z
      rw [GH.put_self] at e; cases e
      exact ⟨_, hD, .list p⟩
    · rw [GH.put_ne z] at e; exact O₁.inv.hG b c e
  · by_cases z : b = s.heap.objs.size
    · subst z; exact absurd f.1 e
    · rw [GH.put_ne z]; exact O₁.inv.ap b e
theorem OP_tuple {d : D} {ds : List D} (hd : LstD G d ds) (hz : ds.length < 2 ^ 20) (q : Q (.tup ds) G) : OP prog w K n G [d] (fun vs => call (.type "tuple") vs) Q := by
  refine OP_1 fun A F s v ok I r1 => ?_
  obtain ⟨a, vs, m, rfl, h1, p⟩ := lst_at I r1 hd
  refine call_tuple_list (items := vs.toArray) ⟨_, h1, rfl, m, rfl⟩ (fun h' k => ?_) (by rw [toArray_size]; exact size_ok p hz)
  have hn : s.heap.get? h'.objs.size = none := by
    cases z : s.heap.get? h'.objs.size with
    | none => rfl
    | some o => exact absurd (Heap.lt_size (k _ _ z)) (Nat.lt_irrefl _)
  exact ⟨_, G, .tup ds, Out.made (t := s.toks) (h' := h'.push { cls := .type "tuple", data := .seq vs.toArray }) I (fun b o e => Heap.get?_push_of_some _ (k b o e)) hn (Heap.get?_push_size _ rfl), .tup FH.put_self ⟨rfl, 0, rfl⟩ (p.mono (fle_made I hn)), q⟩
theorem OP_sortI {d : D} {ns : List Int} (hd : SeqD G d (ns.map .int)) (hz : ns.length < 64) (q : ∀ ns' : List Int, ns'.Perm ns → ns'.Pairwise (· ≤ ·) → Q (.list (ns'.map .int)) G) : OP prog w K n G [d] (fun vs => call (.builtin "sorted") vs) Q := by
  refine OP_1 fun A F s v ok I r1 => ?_
  obtain ⟨a, T, o, vs, m, rfl, hT, h1, h2, h3, p, -, -⟩ := seq_at I r1 hd
  have el := p.length
  rw [List.length_map] at el
  refine sortI (ns := ns) (fun E R h => collects_seq hT h1 h2 h3 (by rw [toArray_size, sizeLine_eq, ← el]; (first | with_reducible assumption | exact Nat.lt_of_lt_of_le (by assumption) (by decide) | exact Nat.lt_of_le_of_lt (by assumption) (by decide) | lia | omega)) E R fun vs' h' tk k e => h vs' h' tk k (by rw [e]; exact ints_are p)) hz fun h' tk D out ns' e k hn hD hI hp hs => ?_
  exact ⟨_, G, .list (ns'.map .int), Out.made (t := tk) I k hn hD, .list (vs := out.toList) (n := e) (by rw [FH.put_self]) (are_ints hI), q ns' hp hs⟩
noncomputable def pairD (k : Int × Int) : D := .tup [.int k.1, .int k.2]
theorem pairs_are {ks : List (Int × Int)} {vs : List Value} (I : Inv prog w K F G s.heap) : RepAll w.params F (ks.map pairD) vs → PairsAre s.heap vs ks := by
  intro h
  induction ks generalizing vs with
  | nil => cases h; exact .nil
  | cons x ks ih =>
    cases h with
    | cons a b =>
      cases a with
      | tup f q r =>
        cases r with
        | cons r1 r =>
          cases r with
          | cons r2 r =>
            (first | obtain rfl := r.inv | obtain ⟨_, rfl⟩ := r.inv | cases r); (first | obtain rfl := r1.inv | obtain ⟨_, rfl⟩ := r1.inv | cases r1); (first | obtain rfl := r2.inv | obtain ⟨_, rfl⟩ := r2.inv | cases r2)
            obtain ⟨m, hm⟩ := q.2
            exact .cons (I.hF _ _ f) q.1 hm (ih b)
theorem OP_sortP {d : D} {ks : List (Int × Int)} (hd : SeqD G d (ks.map pairD)) (hb : ∀ k ∈ ks, 0 ≤ k.2 ∧ k.2 < 1048576) (hz : ks.length < 64) (q : ∀ ks' : List (Int × Int), ks'.Perm ks → (ks'.map pkey).Pairwise (· ≤ ·) → Q (.list (ks'.map pairD)) G) : OP prog w K n G [d] (fun vs => call (.builtin "sorted") vs) Q := by
  refine OP_1 fun A F s v ok I r1 => ?_
  obtain ⟨a, T, o, vs, m, rfl, hT, h1, h2, h3, p, -, -⟩ := seq_at I r1 hd
  have el := p.length
  rw [List.length_map] at el
  refine sortP (vs := vs) (ks := ks) (fun E R h => collects_seq hT h1 h2 h3 (by rw [toArray_size, sizeLine_eq, ← el]; (first | with_reducible assumption | exact Nat.lt_of_lt_of_le (by assumption) (by decide) | exact Nat.lt_of_le_of_lt (by assumption) (by decide) | lia | omega)) E R fun vs' h' tk k e => h vs' h' tk k (by rw [e])) (pairs_are I p) hb (by (first | with_reducible assumption | exact Nat.lt_of_lt_of_le (by assumption) (by decide) | exact Nat.lt_of_le_of_lt (by assumption) (by decide) | lia | omega)) fun h' tk D e pm k hn hD hp hs => ?_
  have hlt : ∀ i ∈ pm, i < ks.length := fun i m => by
    have := hp.mem_iff.mp m
    rw [el]; exact List.mem_range.mp this
  have hmem : ∀ i, i < ks.length → Rep w.params F (pairD (ks.getD i (0, 0))) (vs.getD i .none) := fun i hi => by
    have e1 : (ks.map pairD)[i]? = some (pairD (ks.getD i (0, 0))) := by
      rw [List.getElem?_map, List.getElem?_eq_getElem hi, List.getD_eq_getElem?_getD, List.getElem?_eq_getElem hi]; rfl
    obtain ⟨v, e2, r⟩ := p.get e1
    have e3 : vs.getD i .none = v := by rw [List.getD_eq_getElem?_getD, e2]; rfl
    rw [e3]; exact r
  have hall : ∀ (l : List Nat), (∀ i ∈ l, i < ks.length) → RepAll w.params (F.put D (seqObj "list" (pm.map fun i => vs.getD i .none).toArray e)) ((l.map fun i => ks.getD i (0, 0)).map pairD) (l.map fun i => vs.getD i .none) := by
    intro l hl
    induction l with
    | nil => exact .nil
    | cons i l ih => exact .cons ((hmem i (hl i (.head _))).mono (fle_made I hn)) (ih fun j m => hl j (.tail _ m))
  refine ⟨_, G, .list ((pm.map fun i => ks.getD i (0, 0)).map pairD), Out.made (t := tk) I k hn hD, .list (vs := pm.map fun i => vs.getD i .none) (n := e) FH.put_self (hall pm hlt), q _ ?_ ?_⟩
  · have h1 : (pm.map fun i => ks.getD i (0, 0)).Perm ((List.range vs.length).map fun i => ks.getD i (0, 0)) := hp.map _
    have h2 : ((List.range vs.length).map fun i => ks.getD i (0, 0)) = ks := by
      rw [← el]
      apply List.ext_getElem?
      intro i
      rw [List.getElem?_map]
      by_cases hi : i < ks.length
      · rw [List.getElem?_range hi, List.getElem?_eq_getElem hi, Option.map_some, List.getD_eq_getElem?_getD, List.getElem?_eq_getElem hi]; rfl
      · rw [List.getElem?_eq_none (by simpa using hi), List.getElem?_eq_none (by simpa using hi)]; rfl
    rw [h2] at h1; exact h1
  · rw [List.map_map]; exact hs
theorem OP_abs (q : Q (.int (if a < 0 then -a else a)) G) : OP prog w K n G [.int a] (fun vs => call (.builtin "abs") vs) Q := by
  refine OP_1 fun A F s v ok I r1 => ?_
  (first | obtain rfl := r1.inv | obtain ⟨_, rfl⟩ := r1.inv | cases r1)
  exact call_abs_int fun u tk => ⟨F, G, _, Out.toks I tk, .int _ _, q⟩
theorem OP_int (q : Q (.int a) G) : OP prog w K n G [.int a] (fun vs => call (.type "int") vs) Q := by
  refine OP_1 fun A F s v ok I r1 => ?_
  (first | obtain rfl := r1.inv | obtain ⟨_, rfl⟩ := r1.inv | cases r1)
  exact call_int_int ⟨F, G, _, Out.refl I, .int _ _, q⟩
end
noncomputable def itemAt (ds : List D) (k : Int) : Option D := if 0 ≤ k then ds[k.toNat]? else if -(ds.length : Int) ≤ k then ds[(k + ds.length).toNat]? else none
noncomputable def pickD (ds : List D) (lo hi : Option Int) : List D := (ds.drop (kms_lo lo ds.length)).take (kms_hi hi ds.length - kms_lo lo ds.length)

section
variable (prog : Program) (w : World) (K : Frag)
noncomputable def PX (n : Nat) (sc : Scope) (tab : Tab) (ρ : Loc) (G : GH) (e : Option Expr) (Q : Option Int → GH → Prop) : Prop := match e with
  | none => Q none G
  | some e => EX prog w K n sc tab ρ G e (fun d G' => ∃ k, d = .int k ∧ Q (some k) G')
end

section
variable {prog : Program} {w : World} {K : Frag} {n : Nat} {sc : Scope} {tab : Tab} {ρ : Loc} {G : GH} {F : FH} {A : Around} {s : Shared} {env : Env} {a b : Int} {Q : D → GH → Prop}

theorem EX_neg {i : Int} {k : Nat} {p pos : Pos} (q : Q (.int (-i)) G) : EX prog w K n sc tab ρ G (.UnaryOp .USub (.Constant (.int i) k p) pos) Q := by
  intro A env F s ok hsc I R
  refine lit_neg _ (fun v tk hv => ?_)
  have hr := hv s.heap
  cases hr
  exact ⟨F, G, .int (-i), Out.toks I tk, .int _ _, q⟩

inductive itmQ (a : D) (Q : D → GH → Prop) (b : D) (G₂ : GH) : Prop
  | mk (ds : List D) (k : Int) (d : D) : SeqD G₂ a ds → b = .int k → k.natAbs < 2 ^ 62 → itemAt ds k = some d → Q d G₂ → itmQ a Q b G₂
noncomputable abbrev idxQ (prog : Program) (w : World) (K : Frag) (n : Nat) (sc : Scope) (tab : Tab) (ρ : Loc) (slice : Expr) (Q : D → GH → Prop) : D → GH → Prop := fun a G₁ => EX prog w K n sc tab ρ G₁ slice (itmQ a Q)
set_option tactic.hygienic true in
theorem EX_index {value slice : Expr} {pos : Pos} (h : EX prog w K n sc tab ρ G value (idxQ prog w K n sc tab ρ slice Q))
    (hs : ∀ o i : Value, subscripted slice false o i = operate [o, i] (getItem o i) := by intro _ _; with_unfolding_all rfl) :
    EX prog w K n sc tab ρ G (.Subscript value slice pos) Q := by
  intro A env F s ok hsc I R
  refine Subscript_ (wpAny_mono (h A env F s ok hsc I R) (fun o s₁ ⟨F₁, G₁, d₁, O₁, r₁, h₁⟩ => ?_) fun _ _ x => x)
  refine wpAny_mono (h₁ A env F₁ s₁ ok hsc O₁.inv (R.nil O₁)) (fun i s₂ ⟨F₂, G₂, d₂, O₂, r₂, ds, k, d, hd, e, hk, hi, q⟩ => ?_) fun _ _ x => x
  subst e
  (first | obtain rfl := r₂.inv | obtain ⟨_, rfl⟩ := r₂.inv | cases r₂)
  obtain ⟨a, T, o, vs, m, rfl, hT, g1, g2, g3, p, -, -⟩ := seq_at O₂.inv (r₁.mono O₂.step.mono) hd
  have O := O₁.trans O₂
  have el := p.length
  unfold itemAt at hi
  by_cases h0 : 0 ≤ k
  · rw [if_pos h0] at hi
    obtain ⟨v, ev, rv⟩ := p.get hi
    have fin : VP prog w K F G s Q v s₂ := ⟨F₂, G₂, d, O, rv, q⟩
    rcases hT with rfl | rfl
    · exact tail_any (show s₂.TypeIs (.ref a) "list" from ⟨_, g1, g2⟩) slot_list_getitem.lookup (wpAny_getItem_list (items := vs.toArray) ⟨_, g1, g2, m, g3⟩ h0 (by (first | with_reducible assumption | exact Nat.lt_of_lt_of_le (by assumption) (by decide) | exact Nat.lt_of_le_of_lt (by assumption) (by decide) | lia | omega)) (by simpa using ev) fin) (hs _ _)
    · have hlt := (List.getElem?_eq_some_iff.mp ev).1
      have hj : seqIndex? k vs.toArray.size = some k.toNat := by rw [toArray_size]; exact seqIndex_of h0 (by (first | with_reducible assumption | exact Nat.lt_of_lt_of_le (by assumption) (by decide) | exact Nat.lt_of_le_of_lt (by assumption) (by decide) | lia | omega))
      exact tail_any (show s₂.TypeIs (.ref a) "tuple" from ⟨_, g1, g2⟩) PySem.F.slot_tuple_getitem.lookup (PyProof.Rows.getItem_tuple (items := vs.toArray) ⟨_, g1, g2, m, g3⟩ (by (first | with_reducible assumption | exact Nat.lt_of_lt_of_le (by assumption) (by decide) | exact Nat.lt_of_le_of_lt (by assumption) (by decide) | lia | omega)) (by (first | with_reducible assumption | exact Nat.lt_of_lt_of_le (by assumption) (by decide) | exact Nat.lt_of_le_of_lt (by assumption) (by decide) | lia | omega)) hj (by simpa using ev) fin) (hs _ _)
  · rw [if_neg h0] at hi
    split at hi
    · rename_i h1
      obtain ⟨v, ev, rv⟩ := p.get hi
      rw [el] at h1 ev
      have fin : VP prog w K F G s Q v s₂ := ⟨F₂, G₂, d, O, rv, q⟩
      rcases hT with rfl | rfl
      · have hl : s₂.heap.IsList a vs.toArray := ⟨_, g1, g2, m, g3⟩
        exact tail_any hl.typeIs slot_list_getitem.lookup (wpAny_getItem_list_neg hl (by (first | with_reducible assumption | exact Nat.lt_of_lt_of_le (by assumption) (by decide) | exact Nat.lt_of_le_of_lt (by assumption) (by decide) | lia | omega)) (by rw [List.size_toArray]; exact h1) (by (first | with_reducible assumption | exact Nat.lt_of_lt_of_le (by assumption) (by decide) | exact Nat.lt_of_le_of_lt (by assumption) (by decide) | lia | omega)) (by rw [List.size_toArray]; simpa using ev) fin) (hs _ _)
      · have hj : seqIndex? k vs.length = some (k + vs.length).toNat := by
          unfold seqIndex?
          have := (List.getElem?_eq_some_iff.mp ev).1
          simp only [show k < 0 by (first | with_reducible assumption | exact Nat.lt_of_lt_of_le (by assumption) (by decide) | exact Nat.lt_of_le_of_lt (by assumption) (by decide) | lia | omega), if_true]
          rw [if_pos (by simp; (first | with_reducible assumption | exact Nat.lt_of_lt_of_le (by assumption) (by decide) | exact Nat.lt_of_le_of_lt (by assumption) (by decide) | lia | omega))]
        exact tail_any (show s₂.TypeIs (.ref a) "tuple" from ⟨_, g1, g2⟩) PySem.F.slot_tuple_getitem.lookup (PyProof.Rows.getItem_tuple (items := vs.toArray) ⟨_, g1, g2, m, g3⟩ (by (first | with_reducible assumption | exact Nat.lt_of_lt_of_le (by assumption) (by decide) | exact Nat.lt_of_le_of_lt (by assumption) (by decide) | lia | omega)) (by (first | with_reducible assumption | exact Nat.lt_of_lt_of_le (by assumption) (by decide) | exact Nat.lt_of_le_of_lt (by assumption) (by decide) | lia | omega)) (by rw [toArray_size]; exact hj) (by simpa using ev) fin) (hs _ _)
    · cases hi

theorem pick_rep {P : Params} {ds : List D} {vs : List Value} (r : RepAll P F ds vs) (lo hi : Option Int) : RepAll P F (pickD ds lo hi) (slicePick vs.toArray lo hi none).toList := by
  rw [kms_pick_eq, List.toList_toArray, List.toList_toArray]
  unfold kms_pick pickD
  rw [r.length]
  exact (r.drop _).take _
theorem part_of {F₁ : FH} {e : Option Expr} {Q : Option Int → GH → Prop} {s₁ : Shared} (ok : OkA n A) (hsc : env.scope = sc) (I : Inv prog w K F₁ G s₁.heap) (R : Fra w env tab ρ F₁ G s₁.heap) (h : PX prog w K n sc tab ρ G e Q) :
    wpAny (model prog w) A (evalPart e env) (fun v s' => ∃ F' G' l, Out prog w K [] F₁ G s₁ F' G' s' ∧ IsPart v l ∧ Q l G') (fun _ _ => False) s₁ := by
  cases e with
  | none => exact wpAny_pure ⟨F₁, G, none, Out.refl I, .none, h⟩
  | some e =>
    rw [evalPart_some]
    refine wpAny_mono (h A env F₁ s₁ ok hsc I R) (fun v s' ⟨F', G', d, O, r, k, e, q⟩ => ?_) fun _ _ x => x
    subst e; (first | obtain rfl := r.inv | obtain ⟨_, rfl⟩ := r.inv | cases r)
    exact ⟨F', G', some k, O, .int _ _, q⟩
inductive cutQ (a : D) (lo : Option Int) (Q : D → GH → Prop) (hi : Option Int) (G₃ : GH) : Prop
  | mk (ds : List D) : LstD G₃ a ds → ds.length < 2 ^ 20 → Q (.list (pickD ds lo hi)) G₃ → cutQ a lo Q hi G₃
noncomputable abbrev slcQ (prog : Program) (w : World) (K : Frag) (n : Nat) (sc : Scope) (tab : Tab) (ρ : Loc) (lower upper : Option Expr) (Q : D → GH → Prop) : D → GH → Prop := fun a G₁ => PX prog w K n sc tab ρ G₁ lower (fun lo G₂ => PX prog w K n sc tab ρ G₂ upper (cutQ a lo Q))
theorem EX_slice {value : Expr} {lower upper : Option Expr} {p pos : Pos} (h : EX prog w K n sc tab ρ G value (slcQ prog w K n sc tab ρ lower upper Q))
    (hs : ∀ o i : Value, subscripted (.Slice lower upper none p) false o i = operate [i, o] (getItem o i) := by intro _ _; with_unfolding_all rfl) :
    EX prog w K n sc tab ρ G (.Subscript value (.Slice lower upper none p) pos) Q := by
  intro A env F s ok hsc I R
  refine Subscript_ (wpAny_mono (h A env F s ok hsc I R) (fun o s₁ ⟨F₁, G₁, d₁, O₁, r₁, h₁⟩ => wpAny_Slice ?_) fun _ _ x => x)
  refine wpAny_mono (part_of ok hsc O₁.inv (R.nil O₁) h₁) (fun vl s₂ ⟨F₂, G₂, lo, O₂, pl, h₂⟩ => ?_) fun _ _ x => x
  refine wpAny_mono (part_of ok hsc O₂.inv ((R.nil O₁).nil O₂) h₂) (fun vu s₃ ⟨F₃, G₃, hi, O₃, pu, ds, hd, hz, q⟩ => ?_) fun _ _ x => x
  rw [evalPart_none]
  refine wpAny_pure ?_
  obtain ⟨a, vs, m, rfl, g1, pv⟩ := lst_at O₃.inv ((r₁.mono O₂.step.mono).mono O₃.step.mono) hd
  have O₄ : Out prog w K [] F₃ G₃ s₃ F₃ G₃ { s₃ with heap := s₃.heap.push { cls := .type "slice", data := .fields #[vl, vu, .none] } } := Out.pushX O₃.inv _ s₃.toks
  have hl : (s₃.heap.push { cls := .type "slice", data := .fields #[vl, vu, .none] }).IsList a vs.toArray := ⟨_, Heap.get?_push_of_some _ g1, rfl, m, rfl⟩
  refine tail_any (s := { s₃ with heap := s₃.heap.push { cls := .type "slice", data := .fields #[vl, vu, .none] } }) hl.typeIs slot_list_getitem.lookup ?_ (hs _ _)
  refine wpAny_getItem_list_slice (lo := lo) (hi := hi) (st := none) hl ⟨_, Heap.get?_push_size _ rfl, rfl, rfl⟩ pl pu .none (by decide) ?_ (by rw [toArray_size]; exact size_ok pv hz)
  have O₅ := Out.newF O₄.inv { cls := .type "list", data := .seq (slicePick vs.toArray lo hi none) }
  refine ⟨_, G₃, .list (pickD ds lo hi), (((O₁.trans O₂).trans O₃).trans O₄).trans O₅, ?_, q⟩
  refine .list (vs := (slicePick vs.toArray lo hi none).toList) (n := 0) ?_ ((pick_rep pv lo hi).mono O₅.step.mono)
  rw [Array.toArray_toList]; exact FH.put_self
theorem EX_back {value : Expr} {k : Nat} {p p1 p2 pos : Pos} (h : EX prog w K n sc tab ρ G value (fun a G₁ => ∃ ds, LstD G₁ a ds ∧ ds.length < 2 ^ 20 ∧ Q (.list ds.reverse) G₁))
    (hs : ∀ o i : Value, subscripted (.Slice none none (some (.UnaryOp .USub (.Constant (.int 1) k p1) p2)) p) false o i = operate [o, i] (getItem o i) := by intro _ _; with_unfolding_all rfl) :
    EX prog w K n sc tab ρ G (.Subscript value (.Slice none none (some (.UnaryOp .USub (.Constant (.int 1) k p1) p2)) p) pos) Q := by
  intro A env F s ok hsc I R
  refine Subscript_ (wpAny_mono (h A env F s ok hsc I R) (fun o s₁ ⟨F₁, G₁, d₁, O₁, r₁, ds, hd, hz, q⟩ => wpAny_Slice ?_) fun _ _ x => x)
  rw [evalPart_none, evalPart_some]
  refine wpAny_pure (wpAny_pure ?_)
  refine wpAny_mono (EX_neg (prog := prog) (w := w) (K := K) (n := n) (sc := sc) (tab := tab) (ρ := ρ) (Q := fun d G' => d = .int (-1) ∧ G' = G₁) ⟨rfl, rfl⟩ A env F₁ s₁ ok hsc O₁.inv (R.nil O₁)) (fun vk s₂ ⟨F₂, G₂, d₂, O₂, r₂, e, e2⟩ => ?_) fun _ _ x => x
  subst e; subst e2
  obtain ⟨tk, rfl⟩ : ∃ tk, vk = .int (-1) tk := by (first | obtain rfl := r₂.inv | obtain ⟨_, rfl⟩ := r₂.inv | cases r₂); exact ⟨_, rfl⟩
  obtain ⟨a, vs, m, rfl, g1, pv⟩ := lst_at O₂.inv (r₁.mono O₂.step.mono) hd
  have O₄ : Out prog w K [] F₂ G₂ s₂ F₂ G₂ { s₂ with heap := s₂.heap.push { cls := .type "slice", data := .fields #[.none, .none, .int (-1) tk] } } := Out.pushX O₂.inv _ s₂.toks
  have hl : (s₂.heap.push { cls := .type "slice", data := .fields #[.none, .none, .int (-1) tk] }).IsList a vs.toArray := ⟨_, Heap.get?_push_of_some _ g1, rfl, m, rfl⟩
  refine tail_any (s := { s₂ with heap := s₂.heap.push { cls := .type "slice", data := .fields #[.none, .none, .int (-1) tk] } }) hl.typeIs slot_list_getitem.lookup ?_ (hs _ _)
  refine wpAny_getItem_list_slice (lo := none) (hi := none) (st := some (-1)) hl ⟨_, Heap.get?_push_size _ rfl, rfl, rfl⟩ .none .none (.int _ _) (by decide) ?_ (by rw [toArray_size]; exact size_ok pv hz)
  have O₅ := Out.newF O₄.inv { cls := .type "list", data := .seq (slicePick vs.toArray none none (some (-1))) }
  refine ⟨_, G₂, .list ds.reverse, ((O₁.trans O₂).trans O₄).trans O₅, ?_, q⟩
  rw [krv_pick, List.toList_toArray] at O₅ ⊢
  exact .list (n := 0) FH.put_self (pv.reverse.mono O₅.step.mono)

theorem OP_addL {d e : D} {ds es : List D} (hd : LstD G d ds) (he : LstD G e es) (hz : ds.length + es.length < 2 ^ 20) (q : Q (.list (ds ++ es)) G) : OP prog w K n G [d, e] (two (binaryOp .Add)) Q := by
  refine OP_2 fun A F s v u ok I r1 r2 => ?_
  obtain ⟨a, vs, m, rfl, h1, p1⟩ := lst_at I r1 hd
  obtain ⟨b, us, m', rfl, h2, p2⟩ := lst_at I r2 he
  have O₅ := Out.newF I { cls := .type "list", data := .seq (vs.toArray ++ us.toArray) }
  have e1 := p1.length
  have e2 := p2.length
  refine PySem.P.add_list (items := vs.toArray) (items2 := us.toArray) h1 h2 ⟨_, G, .list (ds ++ es), O₅, ?_, q⟩ (by rw [toArray_size, toArray_size, sizeLine_eq, ← e1, ← e2]; (first | with_reducible assumption | exact Nat.lt_of_lt_of_le (by assumption) (by decide) | exact Nat.lt_of_le_of_lt (by assumption) (by decide) | lia | omega))
  refine .list (vs := vs ++ us) (n := 0) ?_ ((p1.append p2).mono O₅.step.mono)
  rw [FH.put_self]; unfold seqO; rw [show (vs ++ us).toArray = vs.toArray ++ us.toArray by simp]
theorem mul_exact {l : Addr} {items : Array Value} {k : Nat} {x : Int} {u : Tok} {Q : Value → Shared → Prop}
    (hl : s.heap.get? l = some { cls := .type "list", dict := none, data := .seq items k, slots := #[] })
    (hlo : -(2 ^ 63 : Int) ≤ x) (hhi : x < 2 ^ 63) (hsz : items.size * x.toNat ≤ 2 ^ 24)
    (h : Q (.ref s.heap.objs.size) { s with heap := s.heap.push { cls := .type "list", data := .seq (List.foldl (fun x1 x2 => x1 ++ x2) #[] (List.replicate (if items.isEmpty = true then 0 else x.toNat) items)) } }) :
    wpAny (model prog w) A (binaryOp .Mult (.ref l) (.int x u)) Q (fun _ _ => False) s :=
  wpAny_binaryOp_repeat_ref (T := "list") (U := "int") (by decide) ⟨_, hl, rfl⟩ (fun s' => typeIs_int s' x u) noFill_list_mul PySem.F.fills_int_mul PySem.F.slot_int_rmul repeat_list PySem.F.slot_int_index.lookup
    (call_meets PySem.F.slot_int_rmul (typeIs_int s x u) PySem.F.entry_int_rmul (PySem.F.args_int_rmul_2 _ _) (int___rmul___int_list x u l items k)
      ⟨hl, rfl, ⟨_, hl, rfl⟩, call_meets PySem.F.slot_list_mul ⟨_, hl, rfl⟩ PySem.F.entry_list_mul (PySem.F.args_list_mul_2 _ _)
        (AutoListH.list___mul___list_int_3 l items k x u (by simp [Builtin.List.listFitsIndex]; (first | with_reducible assumption | exact Nat.lt_of_lt_of_le (by assumption) (by decide) | exact Nat.lt_of_le_of_lt (by assumption) (by decide) | lia | omega)) (by (first | with_reducible assumption | exact Nat.lt_of_lt_of_le (by assumption) (by decide) | exact Nat.lt_of_le_of_lt (by assumption) (by decide) | lia | omega)) (by simp [Builtin.List.listTooLong, sizeLine]; (first | with_reducible assumption | exact Nat.lt_of_lt_of_le (by assumption) (by decide) | exact Nat.lt_of_le_of_lt (by assumption) (by decide) | lia | omega)))
        ⟨hl, h⟩⟩)
set_option tactic.hygienic true in
theorem OP_mulG {d e : D} (hd : d = .list [e]) {k : Nat} (hz : k < 1048576) (q : ∀ a, G a = none → Q (.ref a) (G.put a (.list (List.replicate k e)))) : OP prog w K n G [d, .int (k : Nat)] (two (binaryOp .Mult)) Q := by
  refine OP_2 fun A F s v u ok I r1 r2 => ?_
  (first | obtain rfl := r2.inv | obtain ⟨_, rfl⟩ := r2.inv | cases r2)
  obtain ⟨a, vs, m, rfl, h1, p1⟩ := lst_at I r1 (.inl hd)
  cases p1 with
  | cons r r' =>
    (first | obtain rfl := r'.inv | obtain ⟨_, rfl⟩ := r'.inv | cases r')
    rename_i t x
    refine mul_exact h1 (by (first | with_reducible assumption | exact Nat.lt_of_lt_of_le (by assumption) (by decide) | exact Nat.lt_of_le_of_lt (by assumption) (by decide) | lia | omega)) (by (first | with_reducible assumption | exact Nat.lt_of_lt_of_le (by assumption) (by decide) | exact Nat.lt_of_le_of_lt (by assumption) (by decide) | lia | omega)) (by simp; (first | with_reducible assumption | exact Nat.lt_of_lt_of_le (by assumption) (by decide) | exact Nat.lt_of_le_of_lt (by assumption) (by decide) | lia | omega)) ?_
    rw [listMul_foldl_if]
    have e0 : (List.replicate (k : Int).toNat [x].toArray.toList).flatten = List.replicate k x := by simp
    rw [e0]
    have O₅ := Out.newG (c := .list (List.replicate k e)) I (o := { cls := .type "list", data := .seq (List.replicate k x).toArray }) (CellRel.list (n := 0) (RepAll.replicate r k))
    exact ⟨F, _, .ref _, O₅, .ref _, q _ (I.fresh (get_size _)).2⟩
set_option tactic.hygienic true in
theorem OP_mulF {d e : D} (hd : d = .list [e]) {k : Nat} (hz : k < 1048576) (q : Q (.list (List.replicate k e)) G) : OP prog w K n G [d, .int (k : Nat)] (two (binaryOp .Mult)) Q := by
  refine OP_2 fun A F s v u ok I r1 r2 => ?_
  (first | obtain rfl := r2.inv | obtain ⟨_, rfl⟩ := r2.inv | cases r2)
  obtain ⟨a, vs, m, rfl, h1, p1⟩ := lst_at I r1 (.inl hd)
  cases p1 with
  | cons r r' =>
    (first | obtain rfl := r'.inv | obtain ⟨_, rfl⟩ := r'.inv | cases r')
    rename_i t x
    refine mul_exact h1 (by (first | with_reducible assumption | exact Nat.lt_of_lt_of_le (by assumption) (by decide) | exact Nat.lt_of_le_of_lt (by assumption) (by decide) | lia | omega)) (by (first | with_reducible assumption | exact Nat.lt_of_lt_of_le (by assumption) (by decide) | exact Nat.lt_of_le_of_lt (by assumption) (by decide) | lia | omega)) (by simp; (first | with_reducible assumption | exact Nat.lt_of_lt_of_le (by assumption) (by decide) | exact Nat.lt_of_le_of_lt (by assumption) (by decide) | lia | omega)) ?_
    rw [listMul_foldl_if]
    have e0 : (List.replicate (k : Int).toNat [x].toArray.toList).flatten = List.replicate k x := by simp
    rw [e0]
    have O₅ := Out.newF I { cls := .type "list", data := .seq (List.replicate k x).toArray }
    exact ⟨_, G, .list (List.replicate k e), O₅, .list (n := 0) FH.put_self ((RepAll.replicate r k).mono O₅.step.mono), q⟩
end
noncomputable def DicD (G : GH) (d : D) (kvs : List (Int × D)) : Prop := d = .dict kvs ∨ ∃ a, d = .ref a ∧ G a = some (.dict kvs)
theorem DicD.frozen {G : GH} {kvs : List (Int × D)} : DicD G (.dict kvs) kvs := .inl rfl
theorem DicD.live {G : GH} {a : Addr} {kvs : List (Int × D)} (h : G a = some (.dict kvs)) : DicD G (.ref a) kvs := .inr ⟨a, rfl, h⟩
noncomputable def lookD (kvs : List (Int × D)) (k : Int) : Option D := (kvs.find? fun kv => kv.1 = k).map (·.2)
noncomputable def storeD (kvs : List (Int × D)) (k : Int) (d : D) : List (Int × D) := if kvs.any (fun kv => kv.1 = k) then kvs.map (fun kv => if kv.1 = k then (kv.1, d) else kv) else kvs ++ [(k, d)]
inductive TyD (G : GH) (d : D) : String → Prop
  | lst {ds : List D} : LstD G d ds → TyD G d "list"
  | dic {kvs : List (Int × D)} : DicD G d kvs → TyD G d "dict"

section
variable {prog : Program} {w : World} {K : Frag} {n : Nat} {sc : Scope} {tab : Tab} {ρ : Loc} {G : GH} {F : FH} {A : Around} {s : Shared} {env : Env} {Q : D → GH → Prop}

theorem dic_at {d : D} {kvs : List (Int × D)} {v : Value} (hK : SysOk K) (I : Inv prog w K F G s.heap) (r : Rep w.params F d v) (h : DicD G d kvs) :
    ∃ a es m q, v = .ref a ∧ s.heap.get? a = some (dictO es m) ∧ RepKv w.params F kvs es ∧ (kvs.map (·.1)).Nodup ∧ ValsRel w.params F kvs q ∧ s.heap.DictOf (intKind prog w) a q ∧ (a == sysModules) = false := by
  rcases h with rfl | ⟨a, rfl, g⟩
  · cases r with
    | dict f nd r =>
      obtain ⟨q, h1, h2⟩ := dictOf_of (prog := prog) (I.hF _ _ f) nd r
      exact ⟨_, _, _, q, rfl, I.hF _ _ f, r, nd, h1, h2, not_sysF hK I f r⟩
  · (first | obtain rfl := r.inv | obtain ⟨_, rfl⟩ := r.inv | cases r)
    obtain ⟨o, e, c⟩ := I.hG _ _ g
    cases c with
    | dict nd r =>
      obtain ⟨q, h1, h2⟩ := dictOf_of (prog := prog) e nd r
      exact ⟨_, _, _, q, rfl, e, r, nd, h1, h2, not_sysG hK I g⟩
theorem ty_at {d : D} {T : String} {v : Value} (I : Inv prog w K F G s.heap) (r : Rep w.params F d v) (h : TyD G d T) : s.TypeIs v T ∧ (∀ a, v = .ref a → ∃ o, s.heap.get? a = some o ∧ o.dict = none) := by
  cases h with
  | lst h =>
    obtain ⟨a, vs, m, rfl, h1, -⟩ := lst_at I r h
    exact ⟨⟨_, h1, rfl⟩, fun b e => by cases e; exact ⟨_, h1, rfl⟩⟩
  | dic h =>
    rcases h with rfl | ⟨a, rfl, g⟩
    · cases r with
      | dict f nd r => exact ⟨⟨_, I.hF _ _ f, rfl⟩, fun b e => by cases e; exact ⟨_, I.hF _ _ f, rfl⟩⟩
    · (first | obtain rfl := r.inv | obtain ⟨_, rfl⟩ := r.inv | cases r)
      obtain ⟨o, e, c⟩ := I.hG _ _ g
      cases c with
      | dict nd r => exact ⟨⟨_, e, rfl⟩, fun b e' => by cases e'; exact ⟨_, e, rfl⟩⟩

noncomputable abbrev mthQ (prog : Program) (w : World) (K : Frag) (n : Nat) (sc : Scope) (tab : Tab) (ρ : Loc) (T id : String) (args : List Expr) (Q : D → GH → Prop) : D → GH → Prop := fun d G₁ => TyD G₁ d T ∧ EXs prog w K n sc tab ρ (fun ds G₂ => OP prog w K n G₂ (d :: ds) (fun vs => call (.builtin id) vs) Q) args [] G₁
theorem EX_methB {o : Expr} {name : Str} {apos pos : Pos} {args : List Expr} {T id : String} (S : Slot T name id) (pa : PlainAttrs T) (hty : typeOf (.builtin id) = pure (.type "method_descriptor"))
    (h : EX prog w K n sc tab ρ G o (mthQ prog w K n sc tab ρ T id args Q)) (hst : args.all notStar = true := by rfl)
    (he : ∀ env, ∃ pl, eval (.Call (.Attribute o name apos) args [] pos) env = (do
      let ov ← eval o env
      standAt apos.atName
      let (f, first) ← holding [ov] (getMethod ov name pl)
      callWith pos f first (backTo pos (starEach args env)) []) := by intro _; exact ⟨_, rfl⟩) :
    EX prog w K n sc tab ρ G (.Call (.Attribute o name apos) args [] pos) Q := by
  intro A env F s ok hsc I R
  obtain ⟨pl, he⟩ := he env
  refine MethodCall_ (pl := pl) (wpAny_mono (h A env F s ok hsc I R) (fun ov s₁ ⟨F₁, G₁, d₁, O₁, r₁, ht, h₁⟩ => ?_) fun _ _ x => x) he
  obtain ⟨t1, t2⟩ := ty_at O₁.inv r₁ ht
  refine getMethod_builtin t1 pa S hty t2 ?_
  refine callWith_EXs (first := [ov]) (.builtin id) hst ok hsc O₁.inv (R.nil O₁) h₁ fun F' G' ds vs s' O r q => ?_
  refine wpAny_mono (q A F' s' (ov :: vs) ok O.inv (.cons (r₁.mono O.step.mono) r)) (fun v s'' ⟨F₂, G₂, d, O₂, r₂, q₂⟩ => ?_) fun _ _ x => x
  exact ⟨F₂, G₂, d, (O₁.trans O).trans O₂, r₂, q₂⟩

set_option tactic.hygienic true in
theorem OP_append {a : Addr} {ds : List D} {e : D} (hg : G a = some (.list ds)) (hz : ds.length < 2 ^ 20) (q : Q .none (G.put a (.list (ds ++ [e])))) : OP prog w K n G [.ref a, e] (fun vs => call (.builtin "list.append") vs) Q := by
  refine OP_2 fun A F s v u ok I r1 r2 => ?_
  (first | obtain rfl := r1.inv | obtain ⟨_, rfl⟩ := r1.inv | cases r1)
  obtain ⟨o, ho, c⟩ := I.hG _ _ hg
  cases c with
  | list p =>
    rename_i vs m
    refine wpAny_list_append_plain (items := vs.toArray) ⟨m, ho⟩ (fun h' pl hs => ?_) (by rw [toArray_size]; exact size_ok p hz)
    obtain ⟨m', e'⟩ := pl
    have e2 : vs.toArray.push u = (vs ++ [u]).toArray := by simp
    rw [e2] at e'
    exact ⟨F, _, .none, Out.turn (t := s.toks) I hg hs ⟨_, e', .list (p.append (.cons r2 .nil))⟩, .none, q⟩
set_option tactic.hygienic true in
theorem OP_extend {a : Addr} {ds es : List D} {e : D} (hg : G a = some (.list ds)) (he : LstD G e es) (hz : ds.length + es.length < 2 ^ 20) (q : Q .none (G.put a (.list (ds ++ es)))) : OP prog w K n G [.ref a, e] (fun vs => call (.builtin "list.extend") vs) Q := by
  refine OP_2 fun A F s v u ok I r1 r2 => ?_
  (first | obtain rfl := r1.inv | obtain ⟨_, rfl⟩ := r1.inv | cases r1)
  obtain ⟨o, ho, c⟩ := I.hG _ _ hg
  obtain ⟨b, us, m', rfl, h2, p2⟩ := lst_at I r2 he
  cases c with
  | list p =>
    rename_i vs m
    have e1 := p.length
    have e3 := p2.length
    have hsz' : vs.toArray.size + us.toArray.size ≤ sizeLine := by rw [toArray_size, toArray_size, sizeLine_eq, ← e1, ← e3]; (first | with_reducible assumption | exact Nat.lt_of_lt_of_le (by assumption) (by decide) | exact Nat.lt_of_le_of_lt (by assumption) (by decide) | lia | omega)
    refine call_meets PySem.F.slot_list_extend ⟨_, ho, rfl⟩ PySem.F.entry_list_extend (PySem.F.args_list_extend_2 _ _) (AutoSeq1.list_extend_list_list_0 a vs.toArray m b us.toArray m' (extend_door hsz') (Nat.le_trans (Nat.le_add_right _ _) hsz')) ⟨ho, h2, ?_⟩
    refine ⟨F, _, .none, Out.turn (t := s.toks) I hg (Heap.SameBut.update ..) (c' := .list (ds ++ es)) ⟨_, Heap.get?_update_self _ ho (by rw [mapSeq_app]; rfl), ?_⟩, .none, q⟩
    rw [mapSeq_app, show vs.toArray ++ us.toArray = (vs ++ us).toArray by simp]
    exact .list (p.append p2)
theorem OP_indexL {k j : Nat} {d e : D} {ds : List D} (hd : LstD G d ds) (hl : ∀ x ∈ ds, Like k x e) (hk : k ≤ 50) (hz : ds.length < 2 ^ 40) (h1 : ds[j]? = some e) (h2 : ∀ m, m < j → ds[m]? ≠ some e) (q : Q (.int (j : Nat)) G) : OP prog w K n G [d, e] (fun vs => call (.builtin "list.index") vs) Q := by
  refine OP_2 fun A F s v u ok I r1 r2 => ?_
  obtain ⟨a, vs, m, rfl, g1, p⟩ := lst_at I r1 hd
  have hu : A.units + 60 < cLine := by have := ok.2.2; (first | with_reducible assumption | exact Nat.lt_of_lt_of_le (by assumption) (by decide) | exact Nat.lt_of_le_of_lt (by assumption) (by decide) | lia | omega)
  obtain ⟨eb, e1, -, e2⟩ := mem_any I p r2 hl (A := A.in1) (by show A.units + 1 + k < cLine; (first | with_reducible assumption | exact Nat.lt_of_lt_of_le (by assumption) (by decide) | exact Nat.lt_of_le_of_lt (by assumption) (by decide) | lia | omega))
  have el := p.length
  have hj : j < ds.length := (List.getElem?_eq_some_iff.mp h1).1
  have hj' : j < vs.toArray.size := by rw [toArray_size]; (first | with_reducible assumption | exact Nat.lt_of_lt_of_le (by assumption) (by decide) | exact Nat.lt_of_le_of_lt (by assumption) (by decide) | lia | omega)
  refine call_meets PySem.F.slot_list_index ⟨_, g1, rfl⟩ PySem.F.entry_list_index (PySem.F.args_list_index_2 _ _)
    (list_indexAt a vs.toArray m none #[] u eb j hj' (by (first | with_reducible assumption | exact Nat.lt_of_lt_of_le (by assumption) (by decide) | exact Nat.lt_of_le_of_lt (by assumption) (by decide) | lia | omega)) ((e2 j hj').mpr h1) fun i hi hlt => ?_) ⟨g1, fun y hy => e1 y hy, F, G, _, Out.toks I _, .int _ _, q⟩
  cases z : eb vs.toArray[i] with
  | false => rfl
  | true => exact absurd ((e2 i hi).mp z) (h2 i hlt)

inductive putQ (od : D) (ρ : Loc) (d : D) (Q : Loc → GH → Prop) (b : D) (G₂ : GH) : Prop
  | mk (a : Addr) (ds : List D) (k : Int) : od = .ref a → G₂ a = some (.list ds) → b = .int k → 0 ≤ k → k < ds.length → k < 2 ^ 62 → Q ρ (G₂.put a (.list (ds.set k.toNat d))) → putQ od ρ d Q b G₂
noncomputable abbrev sblQ (prog : Program) (w : World) (K : Frag) (n : Nat) (sc : Scope) (tab : Tab) (ρ : Loc) (i : Expr) (d : D) (Q : Loc → GH → Prop) : D → GH → Prop := fun od G₁ => EX prog w K n sc tab ρ G₁ i (putQ od ρ d Q)
set_option tactic.hygienic true in
theorem AX_subL {o i : Expr} {pos : Pos} {d : D} {Q : Loc → GH → Prop} (h : EX prog w K n sc tab ρ G o (sblQ prog w K n sc tab ρ i d Q))
    (hi : ∀ iv v ov : Value, (match i with | .Slice _ _ none _ => [iv, v, ov] | _ => [v, ov, iv]) = [v, ov, iv] := by intro _ _ _; rfl) : AX prog w K n sc tab ρ G (.Subscript o i pos) d Q := by
  intro A env F s v ok hsc I R rv
  rw [arm_assign_Subscript]
  refine wpAny_bind (wpAny_holding (wpAny_mono (h A env F s ok hsc I R) (fun ov s₁ ⟨F₁, G₁, d₁, O₁, r₁, h₁⟩ => ?_) fun _ _ x => x))
  refine wpAny_bind (wpAny_holding (wpAny_mono (h₁ A env F₁ s₁ ok hsc O₁.inv (R.nil O₁)) (fun iv s₂ ⟨F₂, G₂, d₂, O₂, r₂, a, ds, k, e1, g, e2, h0, hk, hk2, q⟩ => ?_) fun _ _ x => x))
  subst e1; subst e2
  (first | obtain rfl := r₁.inv | obtain ⟨_, rfl⟩ := r₁.inv | cases r₁); (first | obtain rfl := r₂.inv | obtain ⟨_, rfl⟩ := r₂.inv | cases r₂)
  refine wpAny_bind (wpAny_standAt (wpAny_bind (wpAny_holding ?_)))
  have O := O₁.trans O₂
  obtain ⟨ob, ho, c⟩ := O₂.inv.hG _ _ g
  cases c with
  | list p =>
    rename_i t vs m
    have el := p.length
    refine ki_setAt (items := vs.toArray) ho h0 (by omega) (by rw [toArray_size]; omega) ?_
    refine wpAny_release ?_
    have rv2 : Rep w.params F₂ d v := (rv.mono O₁.step.mono).mono O₂.step.mono
    have O₃ : Out prog w K [] F₂ G₂ s₂ F₂ (G₂.put a (.list (ds.set k.toNat d))) { s₂ with heap := s₂.heap.update a (Obj.mapSeq (·.setIfInBounds k.toNat v)) } := by
      refine Out.turn (t := s₂.toks) O₂.inv g (Heap.SameBut.update ..) ⟨_, get?_update_seq ho _, ?_⟩
      have : vs.toArray.setIfInBounds k.toNat v = (vs.set k.toNat v).toArray := by simp
      rw [this]
      exact .list (p.set rv2)
    exact ⟨_, _, ρ, Out.nil (O.trans O₃), R.nil (O.trans O₃), q⟩

set_option tactic.hygienic true in
theorem ValsRel.stored {P : Params} {F : FH} {kvs : List (Int × D)} {q : List (Int × Value)} {k : Int} {d : D} {v : Value} (h : ValsRel P F kvs q) (r : Rep P F d v) : ValsRel P F (storeD kvs k d) (stored q k v) := by
  have h1 : q.any (fun kv => kv.1 = k) = kvs.any (fun kv => kv.1 = k) := by
    induction h with
    | nil => rfl
    | cons a b ih => simp only [List.any_cons, ih]
  have h2 : ValsRel P F (kvs.map (fun kv => if kv.1 = k then (kv.1, d) else kv)) (q.map (fun kv => if kv.1 = k then (kv.1, v) else kv)) := by
    clear h1
    induction h with
    | nil => exact .nil
    | cons a b ih =>
      rw [List.map_cons, List.map_cons]
      rename_i i d' v' r' q'
      by_cases z : i = k
      · subst z; simp only [if_true]; exact .cons r ih
      · simp only [if_neg z]; exact .cons a ih
  have h3 : ValsRel P F (kvs ++ [(k, d)]) (q ++ [(k, v)]) := by
    clear h1 h2
    induction h with
    | nil => exact .cons r .nil
    | cons a b ih => exact .cons a ih
  unfold storeD PySem.stored
  rw [h1]
  split
  · exact h2
  · exact h3
inductive keyQ (od : D) (ρ : Loc) (d : D) (Q : Loc → GH → Prop) (b : D) (G₂ : GH) : Prop
  | mk (a : Addr) (kvs : List (Int × D)) (k : Int) : od = .ref a → G₂ a = some (.dict kvs) → b = .int k → kvs.length < 2 ^ 20 → Q ρ (G₂.put a (.dict (storeD kvs k d))) → keyQ od ρ d Q b G₂
noncomputable abbrev sbdQ (prog : Program) (w : World) (K : Frag) (n : Nat) (sc : Scope) (tab : Tab) (ρ : Loc) (i : Expr) (d : D) (Q : Loc → GH → Prop) : D → GH → Prop := fun od G₁ => EX prog w K n sc tab ρ G₁ i (keyQ od ρ d Q)
theorem AX_subD {o i : Expr} {pos : Pos} {d : D} {Q : Loc → GH → Prop} (h : EX prog w K n sc tab ρ G o (sbdQ prog w K n sc tab ρ i d Q))
    (hi : ∀ iv v ov : Value, (match i with | .Slice _ _ none _ => [iv, v, ov] | _ => [v, ov, iv]) = [v, ov, iv] := by intro _ _ _; rfl) : AX prog w K n sc tab ρ G (.Subscript o i pos) d Q := by
  intro A env F s v ok hsc I R rv
  rw [arm_assign_Subscript]
  refine wpAny_bind (wpAny_holding (wpAny_mono (h A env F s ok hsc I R) (fun ov s₁ ⟨F₁, G₁, d₁, O₁, r₁, h₁⟩ => ?_) fun _ _ x => x))
  refine wpAny_bind (wpAny_holding (wpAny_mono (h₁ A env F₁ s₁ ok hsc O₁.inv (R.nil O₁)) (fun iv s₂ ⟨F₂, G₂, d₂, O₂, r₂, a, kvs, k, e1, g, e2, hz, q⟩ => ?_) fun _ _ x => x))
  subst e1; subst e2
  (first | obtain rfl := r₁.inv | obtain ⟨_, rfl⟩ := r₁.inv | cases r₁); (first | obtain rfl := r₂.inv | obtain ⟨_, rfl⟩ := r₂.inv | cases r₂)
  refine wpAny_bind (wpAny_standAt (wpAny_bind (wpAny_holding ?_)))
  have O := O₁.trans O₂
  obtain ⟨ob, ho, c⟩ := O₂.inv.hG _ _ g
  cases c with
  | dict nd p =>
    obtain ⟨qv, p1, p2⟩ := dictOf_of (prog := prog) ho nd p
    refine wpAny_setItem_pairs (knd := intKind prog w) (k := k) (kvs := qv) (isInt_self _ _) p2 (fun h' hd hs => ?_) (by rw [p1.length, sizeLine_eq]; omega)
    refine wpAny_release ?_
    have rv2 : Rep w.params F₂ d v := (rv.mono O₁.step.mono).mono O₂.step.mono
    obtain ⟨es, m', e3, e4, e5⟩ := of_dictOf hd (p1.stored rv2)
    have O₃ := Out.turn (t := s₂.toks + 1) O₂.inv g hs ⟨_, e3, .dict e4 e5⟩
    exact ⟨_, _, ρ, Out.nil (O.trans O₃), R.nil (O.trans O₃), q⟩

theorem EX_dict0 {pos : Pos} (q : ∀ a, G a = none → Q (.ref a) (G.put a (.dict []))) : EX prog w K n sc tab ρ G (.Dict [] [] pos) Q := by
  intro A env F s ok hsc I R
  rw [eval_Dict_empty]
  refine wpAny_bind (wpAny_standAt (wpAny_newObj_type ?_))
  have O₅ := Out.newG (c := .dict []) I (o := { cls := .type "dict", data := .dict #[] }) (CellRel.dict (es := []) (n := 0) List.nodup_nil .nil)
  exact ⟨F, _, .ref _, O₅, .ref _, q _ (I.fresh (get_size _)).2⟩
theorem EX_dict0F {pos : Pos} (q : Q (.dict []) G) : EX prog w K n sc tab ρ G (.Dict [] [] pos) Q := by
  intro A env F s ok hsc I R
  rw [eval_Dict_empty]
  refine wpAny_bind (wpAny_standAt (wpAny_newObj_type ?_))
  have O₅ := Out.newF I { cls := .type "dict", data := .dict #[] }
  exact ⟨_, G, .dict [], O₅, .dict (es := []) (n := 0) FH.put_self List.nodup_nil .nil, q⟩
theorem lookD_some {P : Params} {F : FH} {kvs : List (Int × D)} {q : List (Int × Value)} (h : ValsRel P F kvs q) (k : Int) : (lookD kvs k).isSome = (PySem.valueAt q k).isSome := by
  have := h.valueAt k
  unfold lookD
  cases z : kvs.find? fun kv => kv.1 = k with
  | none => rw [z] at this; rw [this]; rfl
  | some kd => rw [z] at this; obtain ⟨v, e, -⟩ := this; rw [e]; rfl
theorem lookD_rep {P : Params} {F : FH} {kvs : List (Int × D)} {q : List (Int × Value)} (h : ValsRel P F kvs q) {k : Int} {d : D} (e : lookD kvs k = some d) : ∃ v, PySem.valueAt q k = some v ∧ Rep P F d v := by
  have := h.valueAt k
  unfold lookD at e
  cases z : kvs.find? fun kv => kv.1 = k with
  | none => rw [z] at e; cases e
  | some kd => rw [z] at this e; obtain ⟨v, e1, r⟩ := this; cases e; exact ⟨v, e1, r⟩
theorem OP_inD {k : Int} {d : D} {kvs : List (Int × D)} (hK : SysOk K) (hd : DicD G d kvs) (q : Q (.bool (lookD kvs k).isSome) G) : OP prog w K n G [.int k, d] (two (compareOp .In)) Q := by
  refine OP_2 fun A F s v u ok I r1 r2 => ?_
  (first | obtain rfl := r1.inv | obtain ⟨_, rfl⟩ := r1.inv | cases r1)
  obtain ⟨a, es, m, qv, rfl, h1, h2, h3, h4, h5, h6⟩ := dic_at hK I r2 hd
  rw [lookD_some h4] at q
  exact wpAny_in_of (isInt_self _ _) h6 h5.mapOf ⟨F, G, _, Out.toks I _, .bool _, q⟩
theorem OP_notInD {k : Int} {d : D} {kvs : List (Int × D)} (hK : SysOk K) (hd : DicD G d kvs) (q : Q (.bool (!(lookD kvs k).isSome)) G) : OP prog w K n G [.int k, d] (two (compareOp .NotIn)) Q := by
  refine OP_2 fun A F s v u ok I r1 r2 => ?_
  (first | obtain rfl := r1.inv | obtain ⟨_, rfl⟩ := r1.inv | cases r1)
  obtain ⟨a, es, m, qv, rfl, h1, h2, h3, h4, h5, h6⟩ := dic_at hK I r2 hd
  rw [lookD_some h4] at q
  exact wpAny_notIn_of (isInt_self _ _) h6 h5.mapOf ⟨F, G, _, Out.toks I _, .bool _, q⟩
inductive valQ (a : D) (Q : D → GH → Prop) (b : D) (G₂ : GH) : Prop
  | mk (kvs : List (Int × D)) (k : Int) (d : D) : DicD G₂ a kvs → b = .int k → lookD kvs k = some d → Q d G₂ → valQ a Q b G₂
theorem EX_indexD {value slice : Expr} {pos : Pos} (hK : SysOk K) (h : EX prog w K n sc tab ρ G value (fun a G₁ => EX prog w K n sc tab ρ G₁ slice (valQ a Q)))
    (hs : ∀ o i : Value, subscripted slice false o i = operate [o, i] (getItem o i) := by intro _ _; with_unfolding_all rfl) :
    EX prog w K n sc tab ρ G (.Subscript value slice pos) Q := by
  intro A env F s ok hsc I R
  refine Subscript_ (wpAny_mono (h A env F s ok hsc I R) (fun o s₁ ⟨F₁, G₁, d₁, O₁, r₁, h₁⟩ => ?_) fun _ _ x => x)
  refine wpAny_mono (h₁ A env F₁ s₁ ok hsc O₁.inv (R.nil O₁)) (fun i s₂ ⟨F₂, G₂, d₂, O₂, r₂, kvs, k, d, hd, e, hl, q⟩ => ?_) fun _ _ x => x
  subst e
  (first | obtain rfl := r₂.inv | obtain ⟨_, rfl⟩ := r₂.inv | cases r₂)
  obtain ⟨a, es, m, qv, rfl, g1, g2, g3, g4, g5, g6⟩ := dic_at hK O₂.inv (r₁.mono O₂.step.mono) hd
  obtain ⟨v, ev, rv⟩ := lookD_rep g4 hl
  exact tail_any g5.typeIs PySem.F.slot_dict_getitem.lookup (wpAny_getItem_of (isInt_self _ _) g5.mapOf ev ⟨F₂, G₂, d, (O₁.trans O₂).trans (Out.toks O₂.inv _), rv, q⟩) (hs _ _)
theorem OP_get {k : Int} {d e : D} {kvs : List (Int × D)} (hK : SysOk K) (hd : DicD G d kvs) (q : Q ((lookD kvs k).getD e) G) : OP prog w K n G [d, .int k, e] (fun vs => call (.builtin "dict.get") vs) Q := by
  intro A F s vs ok I r
  cases r with
  | cons r1 r =>
    cases r with
    | cons r2 r =>
      cases r with
      | cons r3 r =>
        (first | obtain rfl := r.inv | obtain ⟨_, rfl⟩ := r.inv | cases r); (first | obtain rfl := r2.inv | obtain ⟨_, rfl⟩ := r2.inv | cases r2)
        obtain ⟨a, es, m, qv, rfl, g1, g2, g3, g4, g5, g6⟩ := dic_at hK I r1 hd
        refine call_meetsIn PySem.F.slot_dict_get g5.typeIs PySem.F.entry_dict_get (PySem.F.args_dict_get_3 _ _ _) (meets_dict_get_default (intKind prog w) a (k := k) (isInt_self _ _) g6 _) ⟨_, g5.mapOf, ?_⟩
        show VP prog w K F G s Q _ _
        cases z : lookD kvs k with
        | none =>
          have := lookD_some g4 k
          rw [z] at this q
          have hn : PySem.valueAt qv k = none := by
            cases y : PySem.valueAt qv k with
            | none => rfl
            | some _ => rw [y] at this; cases this
          rw [hn]
          exact ⟨F, G, e, Out.toks I _, r3, q⟩
        | some d' =>
          obtain ⟨v, ev, rv⟩ := lookD_rep g4 z
          rw [ev]
          rw [z] at q
          exact ⟨F, G, d', Out.toks I _, rv, q⟩
theorem OP_lenD {d : D} {kvs : List (Int × D)} (hK : SysOk K) (hd : DicD G d kvs) (hz : kvs.length < 2 ^ 40) (q : Q (.int (kvs.length : Nat)) G) : OP prog w K n G [d] (fun vs => call (.builtin "len") vs) Q := by
  refine OP_1 fun A F s v ok I r1 => ?_
  obtain ⟨a, es, m, qv, rfl, h1, h2, h3, h4, h5, h6⟩ := dic_at hK I r1 hd
  have el := h4.length
  refine call_len_dict h6 h5 (by rw [el]; (first | with_reducible assumption | exact Nat.lt_of_lt_of_le (by assumption) (by decide) | exact Nat.lt_of_le_of_lt (by assumption) (by decide) | lia | omega)) ⟨F, G, .int (kvs.length : Nat), Out.toks I _, ?_, q⟩
  rw [el]; exact .int _ _
theorem OP_sortD {d : D} {kvs : List (Int × D)} (hK : SysOk K) (hd : DicD G d kvs) (hz : kvs.length < 64) (q : ∀ ns' : List Int, ns'.Perm (kvs.map (·.1)) → ns'.Pairwise (· ≤ ·) → Q (.list (ns'.map .int)) G) : OP prog w K n G [d] (fun vs => call (.builtin "sorted") vs) Q := by
  refine OP_1 fun A F s v ok I r1 => ?_
  obtain ⟨a, es, m, qv, rfl, h1, h2, h3, h4, h5, h6⟩ := dic_at hK I r1 hd
  obtain ⟨o, es', ep, h7⟩ := h5
  have el := h4.length
  have hat : s.heap.DictAt (intKind prog w) a qv ep := ⟨o, es', h7⟩
  refine sortI (ns := kvs.map (·.1)) (h4.keys ▸ collects_dict (A := A.in1) ok.1 h6 hat (by rw [el, sizeLine_eq]; (first | with_reducible assumption | exact Nat.lt_of_lt_of_le (by assumption) (by decide) | exact Nat.lt_of_le_of_lt (by assumption) (by decide) | lia | omega))) (by rw [List.length_map]; exact hz) fun h' tk D out ns' e k hn hD hI hp hs => ?_
  exact ⟨_, G, .list (ns'.map .int), Out.made (t := tk) I k hn hD, .list (vs := out.toList) (n := e) (by rw [FH.put_self]) (are_ints hI), q ns' hp hs⟩
end
inductive TRel (P : Params) (F : FH) : List (List Int × D) → List (List Int × Addr × Value) → Prop
  | nil : TRel P F [] []
  | cons {ks : List Int} {d : D} {a : Addr} {v : Value} {r : List (List Int × D)} {q : List (List Int × Addr × Value)} : Rep P F (.tup (ks.map .int)) (.ref a) → Rep P F d v → TRel P F r q → TRel P F ((ks, d) :: r) ((ks, a, v) :: q)
noncomputable def lookT (kvs : List (List Int × D)) (k : List Int) : Option D := (kvs.find? fun kv => kv.1 = k).map (·.2)
noncomputable def storeT (kvs : List (List Int × D)) (k : List Int) (d : D) : List (List Int × D) := if (lookT kvs k).isSome then kvs.map (fun kv => if kv.1 = k then (kv.1, d) else kv) else kvs ++ [(k, d)]

section
variable {prog : Program} {w : World} {K : Frag} {n : Nat} {sc : Scope} {tab : Tab} {ρ : Loc} {G : GH} {F : FH} {A : Around} {s : Shared} {env : Env} {Q : D → GH → Prop}

theorem TRel.keys {P : Params} {F : FH} : ∀ {kvs : List (List Int × D)} {q : List (List Int × Addr × Value)}, TRel P F kvs q → q.map (·.1) = kvs.map (·.1)
  | _, _, .nil => rfl
  | _, _, .cons _ _ x => by simp only [List.map_cons, x.keys]
theorem TRel.length {P : Params} {F : FH} {kvs : List (List Int × D)} {q : List (List Int × Addr × Value)} (h : TRel P F kvs q) : q.length = kvs.length := by
  have := congrArg List.length h.keys
  simpa using this
theorem td_rel : ∀ {kvs : List (List Int × D)} {es : List DictEntry}, RepTd prog w F kvs es → ∃ q, TRel w.params F kvs q ∧ es = q.map (entryOfKey (tupleKind (intKind prog w)))
  | _, _, .nil => ⟨[], .nil, rfl⟩
  | _, _, .cons k r x => by
    obtain ⟨q, h1, rfl⟩ := td_rel x
    exact ⟨_ :: q, .cons k r h1, rfl⟩
theorem rel_td : ∀ {kvs : List (List Int × D)} {q : List (List Int × Addr × Value)}, TRel w.params F kvs q → RepTd prog w F kvs (q.map (entryOfKey (tupleKind (intKind prog w))))
  | _, _, .nil => .nil
  | _, _, .cons k r x => .cons k r (rel_td x)
theorem items_are : ∀ {ks : List Int} {vs : List Value}, RepAll w.params F (ks.map .int) vs → ItemsAre (intKind prog w) ks vs
  | [], _, h => by cases h; exact .nil
  | i :: ks, _, h => by
    cases h with
    | cons a b => cases a; exact .cons (isInt_self _ _) (items_are b)
theorem key_of {h : Heap} (hF : ∀ a o, F a = some o → h.get? a = some o) {ks : List Int} {a : Addr} (r : Rep w.params F (.tup (ks.map .int)) (.ref a)) : IsTupleKey (intKind prog w) h ks a := by
  cases r with
  | tup f q r =>
    obtain ⟨m, hm⟩ := q.2
    exact ⟨_, _, m, hF _ _ f, q.1, hm, by rw [List.toList_toArray]; exact items_are r⟩
theorem TRel.is {h : Heap} (hF : ∀ a o, F a = some o → h.get? a = some o) : ∀ {kvs : List (List Int × D)} {q : List (List Int × Addr × Value)}, TRel w.params F kvs q → ∀ x ∈ q, (tupleKind (intKind prog w)).is h x.1 x.2.1
  | _, _, .nil, _, m => nomatch m
  | _, _, .cons k r x, y, m => by
    rcases List.mem_cons.mp m with rfl | m
    · exact key_of hF k
    · exact x.is hF y m
theorem TRel.at {P : Params} {F : FH} : ∀ {kvs : List (List Int × D)} {q : List (List Int × Addr × Value)} (k : List Int), TRel P F kvs q → (match lookT kvs k with | some d => ∃ a v, atKey q k = some (a, v) ∧ Rep P F d v | none => atKey q k = none)
  | _, _, k, .nil => rfl
  | _, _, k, .cons (ks := ks) (d := d) (a := a) (v := v) _ r x => by
    have ih := x.at k
    unfold lookT atKey at ih ⊢
    by_cases h : ks = k
    · subst h
      simp only [List.find?_cons, decide_true, Option.map_some]
      exact ⟨a, v, rfl, r⟩
    · simp only [List.find?_cons, h, decide_false]
      exact ih
theorem TRel.some {P : Params} {F : FH} {kvs : List (List Int × D)} {q : List (List Int × Addr × Value)} (h : TRel P F kvs q) (k : List Int) : (lookT kvs k).isSome = (atKey q k).isSome := by
  have := h.at k
  cases z : lookT kvs k with
  | none => rw [z] at this; rw [this]; rfl
  | some d => rw [z] at this; obtain ⟨a, v, e, -⟩ := this; rw [e]; rfl
set_option tactic.hygienic true in
theorem TRel.stored {P : Params} {F : FH} {kvs : List (List Int × D)} {q : List (List Int × Addr × Value)} (h : TRel P F kvs q) {k : List Int} {a : Addr} {d : D} {v : Value} (rk : Rep P F (.tup (k.map .int)) (.ref a)) (r : Rep P F d v) : TRel P F (storeT kvs k d) (storedH q k a v) := by
  have h2 : TRel P F (kvs.map (fun kv => if kv.1 = k then (kv.1, d) else kv)) (q.map (putAt k v)) := by
    induction h with
    | nil => exact .nil
    | cons a' b c ih =>
      rw [List.map_cons, List.map_cons]
      rename_i ks d' a'' v' r' q'
      unfold putAt
      by_cases z : ks = k
      · subst z; simp only [if_true]; exact .cons a' r ih
      · simp only [if_neg z]; exact .cons a' b ih
  have h3 : TRel P F (kvs ++ [(k, d)]) (q ++ [(k, a, v)]) := by
    clear h2
    induction h with
    | nil => exact .cons rk r .nil
    | cons a' b c ih => exact .cons a' b ih
  unfold storeT storedH
  rw [h.some]
  split
  · exact h2
  · exact h3
theorem tdic_at {a : Addr} {kvs : List (List Int × D)} (hK : SysOk K) (I : Inv prog w K F G s.heap) (g : G a = some (.tdict kvs)) : ∃ q, TRel w.params F kvs q ∧ s.heap.DictOfH (tupleKind (intKind prog w)) a q ∧ (a == sysModules) = false := by
  obtain ⟨o, e, c⟩ := I.hG _ _ g
  cases c with
  | tdict nd r =>
    obtain ⟨q, h1, h2⟩ := td_rel r
    subst h2
    refine ⟨q, h1, ⟨_, _, _, e, ⟨rfl, rfl, rfl⟩, rfl, by simp, h1.is I.hF, by rw [h1.keys]; exact nd⟩, not_sysG hK I g⟩
theorem OP_notInT {ks : List Int} {a : Addr} {kvs : List (List Int × D)} (hK : SysOk K) (hg : G a = some (.tdict kvs)) (q : Q (.bool (!(lookT kvs ks).isSome)) G) : OP prog w K n G [.tup (ks.map .int), .ref a] (two (compareOp .NotIn)) Q := by
  refine OP_2 fun A F s v u ok I r1 r2 => ?_
  (first | obtain rfl := r2.inv | obtain ⟨_, rfl⟩ := r2.inv | cases r2)
  obtain ⟨qv, h1, h2, h3⟩ := tdic_at hK I hg
  obtain ⟨b, rfl⟩ : ∃ b, v = .ref b := by (first | obtain rfl := r1.inv | obtain ⟨_, rfl⟩ := r1.inv | cases r1); exact ⟨_, rfl⟩
  have hu := ok.2.2
  rw [h1.some] at q
  exact wpAny_notIn_heap (knd := tupleKind (intKind prog w)) (show A.units + 1 < cLine by (first | with_reducible assumption | exact Nat.lt_of_lt_of_le (by assumption) (by decide) | exact Nat.lt_of_le_of_lt (by assumption) (by decide) | lia | omega)) (key_of I.hF r1) h3 h2 ⟨F, G, _, Out.toks I _, .bool _, q⟩
inductive vatQ (a : D) (Q : D → GH → Prop) (b : D) (G₂ : GH) : Prop
  | mk (d₁ : Addr) (kvs : List (List Int × D)) (ks : List Int) (d : D) : a = .ref d₁ → G₂ d₁ = some (.tdict kvs) → b = .tup (ks.map .int) → lookT kvs ks = some d → Q d G₂ → vatQ a Q b G₂
inductive ketQ (od : D) (ρ : Loc) (d : D) (Q : Loc → GH → Prop) (b : D) (G₂ : GH) : Prop
  | mk (a : Addr) (kvs : List (List Int × D)) (ks : List Int) : od = .ref a → G₂ a = some (.tdict kvs) → b = .tup (ks.map .int) → kvs.length < 2 ^ 20 → Q ρ (G₂.put a (.tdict (storeT kvs ks d))) → ketQ od ρ d Q b G₂
theorem EX_indexT {value slice : Expr} {pos : Pos} (hK : SysOk K) (h : EX prog w K n sc tab ρ G value (fun a G₁ => EX prog w K n sc tab ρ G₁ slice (vatQ a Q)))
    (hs : ∀ o i : Value, subscripted slice false o i = operate [o, i] (getItem o i) := by intro _ _; with_unfolding_all rfl) :
    EX prog w K n sc tab ρ G (.Subscript value slice pos) Q := by
  intro A env F s ok hsc I R
  refine Subscript_ (wpAny_mono (h A env F s ok hsc I R) (fun o s₁ ⟨F₁, G₁, d₁, O₁, r₁, h₁⟩ => ?_) fun _ _ x => x)
  refine wpAny_mono (h₁ A env F₁ s₁ ok hsc O₁.inv (R.nil O₁)) (fun i s₂ ⟨F₂, G₂, d₂, O₂, r₂, a, kvs, ks, d, e1, g, e2, hl, q⟩ => ?_) fun _ _ x => x
  subst e1; subst e2
  (first | obtain rfl := r₁.inv | obtain ⟨_, rfl⟩ := r₁.inv | cases r₁)
  obtain ⟨b, rfl⟩ : ∃ b, i = .ref b := by (first | obtain rfl := r₂.inv | obtain ⟨_, rfl⟩ := r₂.inv | cases r₂); exact ⟨_, rfl⟩
  obtain ⟨qv, g1, g2, g3⟩ := tdic_at hK O₂.inv g
  have hu := ok.2.2
  have hat := g1.at ks
  rw [hl] at hat
  obtain ⟨ka, v, ev, rv⟩ := hat
  exact tail_any g2.typeIs PySem.F.slot_dict_getitem.lookup (wpAny_getItem_heap (knd := tupleKind (intKind prog w)) (show A.units + 1 < cLine by (first | with_reducible assumption | exact Nat.lt_of_lt_of_le (by assumption) (by decide) | exact Nat.lt_of_le_of_lt (by assumption) (by decide) | lia | omega)) (key_of O₂.inv.hF r₂) g2 ev ⟨F₂, G₂, d, (O₁.trans O₂).trans (Out.toks O₂.inv _), rv, q⟩) (hs _ _)
theorem AX_subT {o i : Expr} {pos : Pos} {d : D} {Q : Loc → GH → Prop} (hK : SysOk K) (h : EX prog w K n sc tab ρ G o (fun od G₁ => EX prog w K n sc tab ρ G₁ i (ketQ od ρ d Q)))
    (hi : ∀ iv v ov : Value, (match i with | .Slice _ _ none _ => [iv, v, ov] | _ => [v, ov, iv]) = [v, ov, iv] := by intro _ _ _; rfl) : AX prog w K n sc tab ρ G (.Subscript o i pos) d Q := by
  intro A env F s v ok hsc I R rv
  rw [arm_assign_Subscript]
  refine wpAny_bind (wpAny_holding (wpAny_mono (h A env F s ok hsc I R) (fun ov s₁ ⟨F₁, G₁, d₁, O₁, r₁, h₁⟩ => ?_) fun _ _ x => x))
  refine wpAny_bind (wpAny_holding (wpAny_mono (h₁ A env F₁ s₁ ok hsc O₁.inv (R.nil O₁)) (fun iv s₂ ⟨F₂, G₂, d₂, O₂, r₂, a, kvs, ks, e1, g, e2, hz, q⟩ => ?_) fun _ _ x => x))
  subst e1; subst e2
  (first | obtain rfl := r₁.inv | obtain ⟨_, rfl⟩ := r₁.inv | cases r₁)
  obtain ⟨b, rfl⟩ : ∃ b, iv = .ref b := by (first | obtain rfl := r₂.inv | obtain ⟨_, rfl⟩ := r₂.inv | cases r₂); exact ⟨_, rfl⟩
  refine wpAny_bind (wpAny_standAt (wpAny_bind (wpAny_holding ?_)))
  have O := O₁.trans O₂
  have hu := ok.2.2
  obtain ⟨qv, g1, g2, g3⟩ := tdic_at hK O₂.inv g
  refine wpAny_setItem_heap (knd := tupleKind (intKind prog w)) (k := ks) (xs := qv) (show A.units + 1 < cLine by omega) (key_of O₂.inv.hF r₂) g2 (fun h' hd hs => ?_) (by rw [g1.length, sizeLine_eq]; omega)
  refine wpAny_release ?_
  have rv2 : Rep w.params F₂ d v := (rv.mono O₁.step.mono).mono O₂.step.mono
  have rel := g1.stored r₂ rv2
  obtain ⟨ob, es, ep, e1, e2, e3, e4, e5, e6⟩ := hd
  have O₃ := Out.turn (t := s₂.toks + (tupleKind (intKind prog w)).draws ks) O₂.inv g hs (c' := .tdict (storeT kvs ks d)) ⟨_, e1, by
    rw [exact_dict e2 e3]
    refine .tdict (by rw [← rel.keys]; exact e6) ?_
    rw [e4]; exact rel_td rel⟩
  exact ⟨_, _, ρ, Out.nil (O.trans O₃), R.nil (O.trans O₃), q⟩
theorem EX_dict0T {pos : Pos} (q : ∀ a, G a = none → Q (.ref a) (G.put a (.tdict []))) : EX prog w K n sc tab ρ G (.Dict [] [] pos) Q := by
  intro A env F s ok hsc I R
  rw [eval_Dict_empty]
  refine wpAny_bind (wpAny_standAt (wpAny_newObj_type ?_))
  have O₅ := Out.newG (c := .tdict []) I (o := { cls := .type "dict", data := .dict #[] }) (CellRel.tdict (es := []) (n := 0) List.nodup_nil .nil)
  exact ⟨F, _, .ref _, O₅, .ref _, q _ (I.fresh (get_size _)).2⟩

theorem Out.less {X : List Addr} {F' : FH} {G' G'' : GH} {s' : Shared} (O : Out prog w K X F G s F' G' s') (h : ∀ a c, G'' a = some c → G' a = some c) : Out prog w K X F G s F' G'' s' := by
  refine ⟨O.same, ⟨O.step.keep, O.step.mono, fun a k => O.step.dom a ?_, O.step.alive⟩, ⟨O.inv.kF, O.inv.hF, fun a c e => O.inv.hG a c (h a c e), fun a e => ?_⟩⟩
  · rcases k with k | k
    · exact .inl k
    · cases z : G'' a with
      | none => exact absurd z k
      | some c => exact .inr (by rw [h a c z]; simp)
  · cases z : G'' a with
    | none => rfl
    | some c =>
      have := h a c z
      rw [O.inv.ap a e] at this; cases this
theorem OP.less {ds : List D} {f : List Value → Sem Value} (h : OP prog w K n G ds f (fun d G' => ∃ G'', (∀ a c, G'' a = some c → G' a = some c) ∧ Q d G'')) : OP prog w K n G ds f Q :=
  fun A F s vs a b c => wpAny_mono (h A F s vs a b c) (fun _ _ ⟨F', G', d, O, r, G'', l, q⟩ => ⟨F', G'', d, O.less l, r, q⟩) fun _ _ x => x
theorem EX.less {e : Expr} (h : EX prog w K n sc tab ρ G e (fun d G' => ∃ G'', (∀ a c, G'' a = some c → G' a = some c) ∧ Q d G'')) : EX prog w K n sc tab ρ G e Q :=
  fun A env F s a b c d => wpAny_mono (h A env F s a b c d) (fun _ _ ⟨F', G', d, O, r, G'', l, q⟩ => ⟨F', G'', d, O.less l, r, q⟩) fun _ _ x => x

end

section
variable (G G'' : GH)
mutual
inductive Melt : D → D → Prop
  | same (d : D) : Melt d d
  | list {xs ys : List D} : MeltAll xs ys → Melt (.list xs) (.list ys)
  | tup {xs ys : List D} : MeltAll xs ys → Melt (.tup xs) (.tup ys)
  | obj {C : Addr} {fs fs' : List (Str × D)} : MeltFs fs fs' → Melt (.obj C fs) (.obj C fs')
  | listG {a : Addr} {xs ys : List D} : G a = some (.list xs) → G'' a = none → MeltAll xs ys → Melt (.ref a) (.list ys)
  | dictG {a : Addr} {xs ys : List (Int × D)} : G a = some (.dict xs) → G'' a = none → MeltKv xs ys → Melt (.ref a) (.dict ys)
  | objG {x dx C : Addr} {fs fs' : List (Str × D)} : G x = some (.inst C dx) → G'' x = none → G dx = some (.attrs fs) → G'' dx = none → MeltFs fs fs' → Melt (.ref x) (.obj C fs')
inductive MeltAll : List D → List D → Prop
  | nil : MeltAll [] []
  | cons {d d' : D} {ds ds' : List D} : Melt d d' → MeltAll ds ds' → MeltAll (d :: ds) (d' :: ds')
inductive MeltKv : List (Int × D) → List (Int × D) → Prop
  | nil : MeltKv [] []
  | cons {i : Int} {d d' : D} {ds ds' : List (Int × D)} : Melt d d' → MeltKv ds ds' → MeltKv ((i, d) :: ds) ((i, d') :: ds')
inductive MeltFs : List (Str × D) → List (Str × D) → Prop
  | nil : MeltFs [] []
  | cons {x : Str} {d d' : D} {ds ds' : List (Str × D)} : Melt d d' → MeltFs ds ds' → MeltFs ((x, d) :: ds) ((x, d') :: ds')
end
end
noncomputable def frz (F : FH) (G G'' : GH) (h : Heap) : FH := fun a => match F a with
  | some o => some o
  | none => if (G a).isSome && (G'' a).isNone then h.get? a else none
section
variable {G G'' : GH}
theorem MeltAll.same : ∀ ds : List D, MeltAll G G'' ds ds
  | [] => .nil
  | d :: ds => .cons (.same d) (MeltAll.same ds)
theorem MeltKv.same : ∀ ds : List (Int × D), MeltKv G G'' ds ds
  | [] => .nil
  | (_, d) :: ds => .cons (.same d) (MeltKv.same ds)
theorem MeltFs.same : ∀ ds : List (Str × D), MeltFs G G'' ds ds
  | [] => .nil
  | (_, d) :: ds => .cons (.same d) (MeltFs.same ds)
theorem MeltKv.keys : ∀ {a b : List (Int × D)}, MeltKv G G'' a b → b.map (·.1) = a.map (·.1)
  | _, _, .nil => rfl
  | _, _, .cons _ r => by simp only [List.map_cons, r.keys]
end
section
variable {prog : Program} {w : World} {K : Frag} {n : Nat} {sc : Scope} {tab : Tab} {ρ : Loc} {G G'' : GH} {F : FH} {A : Around} {s : Shared} {env : Env} {Q : D → GH → Prop} {h : Heap}
theorem frz_le : FLe F (frz F G G'' h) := fun a o e => by unfold frz; rw [e]
theorem frz_at (I : Inv prog w K F G h) {a : Addr} {c : Cell} (g : G a = some c) (g2 : G'' a = none) : frz F G G'' h a = h.get? a := by
  have : F a = none := by
    cases z : F a with
    | none => rfl
    | some o => rw [I.ap a (by rw [z]; simp)] at g; cases g
  unfold frz; rw [this, g, g2]; rfl
mutual
theorem melt_rep (I : Inv prog w K F G h) : ∀ {d d' : D} {v : Value}, Melt G G'' d d' → Rep w.params F d v → Rep w.params (frz F G G'' h) d' v
  | _, _, _, .same d, r => r.mono frz_le
  | _, _, _, .list m, r => by
    cases r with
    | list f r => exact .list (frz_le _ _ f) (melt_all I m r)
  | _, _, _, .tup m, r => by
    cases r with
    | tup f q r => exact .tup (frz_le _ _ f) q (melt_all I m r)
  | _, _, _, .obj m, r => by
    cases r with
    | obj f f' r => exact .obj (frz_le _ _ f) (frz_le _ _ f') (melt_fs I m r)
  | _, _, _, .listG g g2 m, r => by
    (first | obtain rfl := r.inv | obtain ⟨_, rfl⟩ := r.inv | cases r)
    obtain ⟨o, e, c⟩ := I.hG _ _ g
    have ef := frz_at (h := h) I g g2
    cases c with
    | list r => exact .list (ef.trans e) (melt_all I m r)
  | _, _, _, .dictG g g2 m, r => by
    (first | obtain rfl := r.inv | obtain ⟨_, rfl⟩ := r.inv | cases r)
    obtain ⟨o, e, c⟩ := I.hG _ _ g
    have ef := frz_at (h := h) I g g2
    cases c with
    | dict nd r => exact .dict (ef.trans e) (by rw [m.keys]; exact nd) (melt_kv I m r)
  | _, _, _, .objG g g2 g3 g4 m, r => by
    (first | obtain rfl := r.inv | obtain ⟨_, rfl⟩ := r.inv | cases r)
    obtain ⟨o, e, c⟩ := I.hG _ _ g
    obtain ⟨o', e', c'⟩ := I.hG _ _ g3
    have ef := frz_at (h := h) I g g2
    have ef' := frz_at (h := h) I g3 g4
    cases c with
    | inst =>
      cases c' with
      | attrs r => exact .obj (ef.trans e) (ef'.trans e') (melt_fs I m r)
theorem melt_all (I : Inv prog w K F G h) : ∀ {ds ds' : List D} {vs : List Value}, MeltAll G G'' ds ds' → RepAll w.params F ds vs → RepAll w.params (frz F G G'' h) ds' vs
  | _, _, _, .nil, r => by (first | obtain rfl := r.inv | obtain ⟨_, rfl⟩ := r.inv | cases r); exact .nil
  | _, _, _, .cons m ms, r => by cases r with | cons r rs => exact .cons (melt_rep I m r) (melt_all I ms rs)
theorem melt_kv (I : Inv prog w K F G h) : ∀ {ds ds' : List (Int × D)} {vs : List DictEntry}, MeltKv G G'' ds ds' → RepKv w.params F ds vs → RepKv w.params (frz F G G'' h) ds' vs
  | _, _, _, .nil, r => by (first | obtain rfl := r.inv | obtain ⟨_, rfl⟩ := r.inv | cases r); exact .nil
  | _, _, _, .cons m ms, r => by cases r with | cons r rs => exact .cons (melt_rep I m r) (melt_kv I ms rs)
theorem melt_fs (I : Inv prog w K F G h) : ∀ {ds ds' : List (Str × D)} {vs : List DictEntry}, MeltFs G G'' ds ds' → RepFs w.params F ds vs → RepFs w.params (frz F G G'' h) ds' vs
  | _, _, _, .nil, r => by (first | obtain rfl := r.inv | obtain ⟨_, rfl⟩ := r.inv | cases r); exact .nil
  | _, _, _, .cons m ms, r => by cases r with | cons r rs => exact .cons (melt_rep I m r) (melt_fs I ms rs)
end
inductive MeltC (G G'' : GH) : Cell → Cell → Prop
  | same (c : Cell) : MeltC G G'' c c
  | list {xs ys : List D} : MeltAll G G'' xs ys → MeltC G G'' (.list xs) (.list ys)
  | dict {xs ys : List (Int × D)} : MeltKv G G'' xs ys → MeltC G G'' (.dict xs) (.dict ys)
  | attrs {xs ys : List (Str × D)} : MeltFs G G'' xs ys → MeltC G G'' (.attrs xs) (.attrs ys)
theorem melt_cell (I : Inv prog w K F G h) {c c' : Cell} {o : Obj} (m : MeltC G G'' c c') (r : CellRel prog w F c o) : CellRel prog w (frz F G G'' h) c' o := by
  cases m with
  | same => exact r.mono frz_le
  | list m => cases r with | list r => exact .list (melt_all I m r)
  | dict m => cases r with | dict nd r => exact .dict (by rw [m.keys]; exact nd) (melt_kv I m r)
  | attrs m => cases r with | attrs r => exact .attrs (melt_fs I m r)
noncomputable def MeltG (G G'' : GH) : Prop := ∀ a c'', G'' a = some c'' → ∃ c, G a = some c ∧ MeltC G G'' c c''
theorem Out.melt {X : List Addr} (I : Inv prog w K F G s.heap) (hG : MeltG G G'') : Out prog w K X F G s (frz F G G'' s.heap) G'' s := by
  refine ⟨.refl, ⟨fun _ _ _ _ e => e, frz_le, fun a k => .inl ?_, fun _ e => e⟩, ⟨fun a o e => frz_le _ _ (I.kF a o e), fun a o e => ?_, fun a c e => ?_, fun a e => ?_⟩⟩
  · rcases k with k | k
    · unfold frz at k
      cases z : F a with
      | some o => exact .inl (by rw [z]; simp)
      | none =>
        rw [z] at k
        refine .inr fun q => ?_
        rw [q] at k
        exact k rfl
    · cases z : G'' a with
      | none => exact absurd z k
      | some c =>
        obtain ⟨c', e, _⟩ := hG a c z
        exact .inr (by rw [e]; simp)
  · unfold frz at e
    cases z : F a with
    | some o' => rw [z] at e; cases e; exact I.hF a _ z
    | none =>
      rw [z] at e
      dsimp only at e
      split at e
      · exact e
      · cases e
  · obtain ⟨c', e1, m⟩ := hG a c e
    obtain ⟨o, e2, r⟩ := I.hG a c' e1
    exact ⟨o, e2, melt_cell I m r⟩
  · cases y : G'' a with
    | none => rfl
    | some c =>
      obtain ⟨c', e1, _⟩ := hG a c y
      unfold frz at e
      cases z : F a with
      | some o => rw [I.ap a (by rw [z]; simp)] at e1; cases e1
      | none =>
        rw [z, e1, y] at e
        exact absurd rfl e
theorem OP.melt {ds : List D} {f : List Value → Sem Value} (h : OP prog w K n G ds f (fun d G' => ∃ G'' d', MeltG G' G'' ∧ Melt G' G'' d d' ∧ Q d' G'')) : OP prog w K n G ds f Q :=
  fun A F s vs a b c => wpAny_mono (h A F s vs a b c) (fun _ s' ⟨F', G', d, O, r, G'', d', l, m, q⟩ => ⟨_, G'', d', O.trans (Out.melt O.inv l), melt_rep O.inv m r, q⟩) fun _ _ x => x
noncomputable def MeltL (G G'' : GH) (ρ ρ'' : Loc) : Prop := ∀ (i : Nat) (d'' : D), ρ''[i]? = some (some d'') → ∃ d : D, ρ[i]? = some (some d) ∧ Melt G G'' d d''
theorem Fra.melt {ρ'' : Loc} (I : Inv prog w K F G s.heap) (R : Fra w env tab ρ F G s.heap) (hG : MeltG G G'') (hL : MeltL G G'' ρ ρ'') : Fra w env tab ρ'' (frz F G G'' s.heap) G'' s.heap := by
  obtain ⟨m, hn, hm⟩ := R.ns
  have O := Out.melt (X := []) I hG
  refine ⟨R.kind, R.glob, R.blt, ⟨m, hn, fun x i d a b c => ?_⟩, fun x i a b => ?_, fun a q => ⟨fun k => ?_, (R.out a q).2⟩, R.apart, R.off⟩
  · obtain ⟨d0, e0, mm⟩ := hL i d b
    obtain ⟨v, e, r⟩ := hm x i d0 a e0 c
    exact ⟨v, e, melt_rep I mm r⟩
  · obtain ⟨k, c, v0, e1, e2, e3⟩ := R.cel x i a b
    refine ⟨k, c, v0, e1, e2, fun d q => ?_⟩
    obtain ⟨d0, e0, mm⟩ := hL i d q
    obtain ⟨v, e, r⟩ := e3 d0 e0
    exact ⟨v, e, melt_rep I mm r⟩
  · rcases O.step.dom a k with z | z
    · exact (R.out a q).1 z
    · exact (R.out a q).2 z
theorem SX_melt {ss : List Stmt} {ρ'' : Loc} {Q : Fl → Loc → GH → Prop} (hG : MeltG G G'') (hL : MeltL G G'' ρ ρ'') (h : SX prog w K n sc tab ρ'' G'' ss Q) : SX prog w K n sc tab ρ G ss Q := by
  intro A env F s ok hsc I R
  have O := Out.melt (X := frameAddrs env) I hG
  exact wpAny_mono (h A env _ s ok hsc O.inv (R.melt I hG hL)) (fun _ _ ⟨F', G', ρ', fl, O', R', r, q⟩ => ⟨F', G', ρ', fl, O.trans O', R', r, q⟩) fun _ _ x => x
end
noncomputable def ObjD (G : GH) (d : D) (C : Addr) (fs : List (Str × D)) : Prop := d = .obj C fs ∨ ∃ x dx, d = .ref x ∧ G x = some (.inst C dx) ∧ G dx = some (.attrs fs)
theorem ObjD.frozen {G : GH} {C : Addr} {fs : List (Str × D)} : ObjD G (.obj C fs) C fs := .inl rfl
theorem ObjD.live {G : GH} {x dx C : Addr} {fs : List (Str × D)} (h1 : G x = some (.inst C dx)) (h2 : G dx = some (.attrs fs)) : ObjD G (.ref x) C fs := .inr ⟨x, dx, rfl, h1, h2⟩
noncomputable def setF : List (Str × D) → Str → D → List (Str × D)
  | [], x, d => [(x, d)]
  | (y, e) :: r, x, d => if y == x then (y, d) :: r else (y, e) :: setF r x d

structure ClsOk (K : Frag) (C : Addr) : Prop where
  cls : ∃ cd, clsIn K C = some cd ∧ cd.hasDict = true
  ga : findIn K (.ref C) "__getattribute__" = some (some (.builtin "object.__getattribute__"))
  gn : findIn K (.ref C) "__getattr__" = some none
  sa : findIn K (.ref C) "__setattr__" = some (some (.builtin "object.__setattr__"))
  po : plainOver K C = true
noncomputable def clsChk (K : Frag) (C : Addr) : Bool := (clsIn K C).any (·.hasDict) && findIn K (.ref C) "__getattribute__" == some (some (.builtin "object.__getattribute__")) && findIn K (.ref C) "__getattr__" == some none &&
  findIn K (.ref C) "__setattr__" == some (some (.builtin "object.__setattr__")) && plainOver K C
theorem cls_ok {K : Frag} {C : Addr} (h : clsChk K C = true) : ClsOk K C := by
  simp only [clsChk, Bool.and_eq_true, beq_iff_eq] at h
  obtain ⟨⟨⟨⟨a, b⟩, c⟩, d⟩, e⟩ := h
  exact ⟨any_some a, b, c, d, e⟩

section
variable {prog : Program} {w : World} {K : Frag} {n : Nat} {sc : Scope} {tab : Tab} {ρ : Loc} {G : GH} {F : FH} {A : Around} {s : Shared} {env : Env} {Q : D → GH → Prop}

theorem inst_at {d : D} {C : Addr} {fs : List (Str × D)} {v : Value} (I : Inv prog w K F G s.heap) (r : Rep w.params F d v) (h : ObjD G d C fs) :
    ∃ x dx es m, v = .ref x ∧ InstAt s.heap x (instO C dx) C (some (dictO es m)) ∧ RepFs w.params F fs es := by
  rcases h with rfl | ⟨x, dx, rfl, g1, g2⟩
  · cases r with
    | obj f1 f2 r => exact ⟨_, _, _, _, rfl, ⟨I.hF _ _ f1, rfl, rfl, I.hF _ _ f2⟩, r⟩
  · (first | obtain rfl := r.inv | obtain ⟨_, rfl⟩ := r.inv | cases r)
    obtain ⟨o, e, c⟩ := I.hG _ _ g1
    obtain ⟨o', e', c'⟩ := I.hG _ _ g2
    cases c with
    | inst =>
      cases c' with
      | attrs r => exact ⟨_, _, _, _, rfl, ⟨e, rfl, rfl, e'⟩, r⟩
theorem fs_find {P : Params} {F : FH} : ∀ {fs : List (Str × D)} {es : List DictEntry} (x : Str), RepFs P F fs es → (match fs.lookup x with | some d => ∃ e, es.find? (·.key.isStr x) = some e ∧ Rep P F d e.val | none => es.find? (·.key.isStr x) = none)
  | _, _, x, .nil => rfl
  | _, _, x, .cons (x := y) (t := t) (d := d) (v := v) r q => by
    have ih := fs_find x q
    rw [List.lookup_cons, List.find?_cons]
    have e : (Value.str y t).isStr x = (y == x) := rfl
    dsimp only
    rw [e]
    by_cases h : y = x
    · subst h
      simp only [beq_self_eq_true]
      exact ⟨_, rfl, r⟩
    · have h1 : (x == y) = false := by simpa using fun z => h z.symm
      have h2 : (y == x) = false := by simpa using h
      rw [h1, h2]
      exact ih
theorem fs_noref {P : Params} {F : FH} : ∀ {fs : List (Str × D)} {es : List DictEntry}, RepFs P F fs es → es.any (·.refKey) = false
  | _, _, .nil => rfl
  | _, _, .cons r q => by rw [List.any_cons, fs_noref q]; rfl
theorem look_in {P : Params} {F : FH} {fs : List (Str × D)} {es : List DictEntry} {m : Nat} {x : Str} {d : D} (r : RepFs P F fs es) (h : fs.lookup x = some d) : ∃ v, lookIn x (dictO es m) = some (some v) ∧ Rep P F d v := by
  have := fs_find x r
  rw [h] at this
  obtain ⟨e, h1, h2⟩ := this
  refine ⟨e.val, ?_, h2⟩
  unfold lookIn
  simp only [List.toList_toArray, h1]
theorem look_not {P : Params} {F : FH} {fs : List (Str × D)} {es : List DictEntry} {m : Nat} {x : Str} (r : RepFs P F fs es) (h : fs.lookup x = none) : lookIn x (dictO es m) = some none := by
  have := fs_find x r
  rw [h] at this
  unfold lookIn
  simp only [List.toList_toArray, this, fs_noref r]
  rfl
theorem rep_handed {P : Params} {F : FH} {d : D} {v : Value} (r : Rep P F d v) : handedIn v = true := by cases r <;> rfl

inductive atrQ (K : Frag) (name : Str) (Q : D → GH → Prop) (d : D) (G₁ : GH) : Prop
  | mk (C : Addr) (fs : List (Str × D)) (d' : D) : ObjD G₁ d C fs → ClsOk K C → findIn K (.ref C) name = some none → fs.lookup name = some d' → Q d' G₁ → atrQ K name Q d G₁
theorem EX_attr {value : Expr} {name : Str} {pos : Pos} (h : EX prog w K n sc tab ρ G value (atrQ K name Q))
    (he : ∀ env, eval (.Attribute value name pos) env = (do
      let o ← eval value env
      standAt pos.atName
      let r ← holding [o] (getAttr o name true)
      letTemporaryGo value o r
      pure r) := by intro _; with_unfolding_all rfl) : EX prog w K n sc tab ρ G (.Attribute value name pos) Q := by
  intro A env F s ok hsc I R
  rw [he]
  refine wpAny_bind (wpAny_mono (h A env F s ok hsc I R) (fun o s₁ ⟨F₁, G₁, d₁, O₁, r₁, C, fs, d', ho, hC, hn, hl, q⟩ => ?_) fun _ _ x => x)
  obtain ⟨x, dx, es, m, rfl, hI, rf⟩ := inst_at O₁.inv r₁ ho
  obtain ⟨v, hv, rv⟩ := look_in (m := m) rf hl
  obtain ⟨cd, hcd, hdict⟩ := hC.cls
  refine wpAny_bind (wpAny_standAt (wpAny_bind (wpAny_holding (get_value (v := v) O₁.inv.kIn hI hC.ga ?_ (rep_handed rv) ?_))))
  · unfold findObj
    rw [hcd]
    simp only [Option.bind_some, hn]
    unfold PySem.W.ownOf
    simp only [hdict, if_true, hv]
    rfl
  · exact wpAny_bind (wpAny_letTemporaryGo (wpAny_pure ⟨F₁, G₁, d', O₁.trans (Out.toks O₁.inv _), rv, q⟩))

theorem fs_put {P : Params} {F : FH} {x : Str} {t : Tok} {d : D} {v : Value} (rv : Rep P F d v) : ∀ {fs : List (Str × D)} {es : List DictEntry}, RepFs P F fs es → RepFs P F (setF fs x d) (PySem.putIn (·.key.isStr x) (fun e => { e with val := v }) ⟨PyData.keyHash P x, .str x t, v⟩ es)
  | _, _, .nil => .cons rv .nil
  | _, _, .cons (x := y) (t := u) r q => by
    unfold setF
    cases h : y == x with
    | true =>
      rw [PySem.putIn_hit (fun e : DictEntry => e.key.isStr x) _ _ _ _ (show (Value.str y u).isStr x = true from h)]
      exact .cons rv q
    | false =>
      rw [PySem.putIn_miss (fun e : DictEntry => e.key.isStr x) _ _ _ _ (show (Value.str y u).isStr x = false from h)]
      exact .cons r (fs_put rv q)

inductive satQ (K : Frag) (name : Str) (ρ : Loc) (d : D) (Q : Loc → GH → Prop) (od : D) (G₁ : GH) : Prop
  | mk (x C dx : Addr) (fs : List (Str × D)) : od = .ref x → G₁ x = some (.inst C dx) → G₁ dx = some (.attrs fs) → ClsOk K C → findIn K (.ref C) name = some none → fs.length < 1000 → Q ρ (G₁.put dx (.attrs (setF fs name d))) → satQ K name ρ d Q od G₁
theorem AX_attr {o : Expr} {name : Str} {pos : Pos} {d : D} {Q : Loc → GH → Prop} (h : EX prog w K n sc tab ρ G o (satQ K name ρ d Q)) :
    AX prog w K n sc tab ρ G (.Attribute o name pos) d Q := by
  intro A env F s v ok hsc I R rv
  rw [arm_assign_Attribute]
  refine wpAny_bind (wpAny_holding (wpAny_mono (h A env F s ok hsc I R) (fun ov s₁ ⟨F₁, G₁, d₁, O₁, r₁, x, C, dx, fs, e, g1, g2, hC, hn, hz, q⟩ => ?_) fun _ _ x => x))
  subst e
  obtain ⟨x', dx', es, m, e1, hI, rf⟩ := inst_at O₁.inv r₁ (ObjD.live g1 g2)
  (first | obtain rfl := r₁.inv | obtain ⟨_, rfl⟩ := r₁.inv | cases r₁)
  cases e1
  have hat := hI.at_
  have hdi := hI.dict
  obtain ⟨o', e', c'⟩ := O₁.inv.hG _ _ g1
  have edx : dx' = dx := by
    cases c' with
    | inst =>
      rw [hat] at e'
      have := congrArg Obj.dict (Option.some.inj e')
      exact Option.some.inj this
  subst edx
  obtain ⟨cd, hcd, hdict⟩ := hC.cls
  have ht : takerIn K C name = some none := by unfold takerIn; rw [hn]; rfl
  refine wpAny_bind (wpAny_standAt (wpAny_bind (wpAny_holding (set_plain O₁.inv.kIn hI hC.sa ?_))))
  refine osa_open (s := { s₁ with toks := s₁.toks + 1 }) O₁.inv.kIn hI hC.po ht fun b => ?_
  refine wpAny_bind (wpAny_pure (wpAny_bind (wpAny_bind (wpAny_loadPart hat (wpAny_bind ((looks_clsIn O₁.inv.kIn hcd) _ _ _ _ (fun _ _ e => e) ?_))))))
  rw [hdict]
  refine wpAny_pure (a := some dx') (wpAny_bind (wpAny_pure (wpAny_bind ?_)))
  unfold nsSet
  refine wpAny_bind (wpAny_bind (wpAny_askSetting (wpAny_pure (wpAny_bind (wpAny_mkText (wpAny_bind (wpAny_loadPart hdi ?_)))))))
  dsimp only
  have c : (!es.toArray.any (·.key.isStr name) && es.toArray.any (·.refKey)) = false := by
    rw [List.any_toArray, List.any_toArray, fs_noref rf, Bool.and_false]
  rw [aRefKeyMayBeTheName_at, c]
  have rv1 : Rep w.params F₁ d v := rv.mono O₁.step.mono
  have rf' := fs_put (x := name) (t := s₁.toks + 1) rv1 rf
  have eput := putName_eq name (PyData.keyHash w.params name) (.str name (s₁.toks + 1)) v (.type "dict") none es m #[]
  have hself : (s₁.heap.update dx' (Obj.putName name (PyData.keyHash w.params name) (.str name (s₁.toks + 1)) v)).get? dx' = some (dictO (PySem.putIn (·.key.isStr name) (fun e => { e with val := v }) ⟨PyData.keyHash w.params name, .str name (s₁.toks + 1), v⟩ es) (if es.any (·.key.isStr name) then m else m + 1)) := by
    rw [Heap.get?_update_self _ hdi (by rw [show dictO es m = ⟨.type "dict", none, .dict es.toArray m, #[]⟩ from rfl, eput]; rfl)]
    rw [show dictO es m = ⟨.type "dict", none, .dict es.toArray m, #[]⟩ from rfl, eput]
  refine wpAny_updatePart hdi ?_
  have hlen : (PySem.putIn (·.key.isStr name) (fun e => { e with val := v }) ⟨PyData.keyHash w.params name, .str name (s₁.toks + 1), v⟩ es).length ≤ es.length + 1 := by
    clear hself eput rf' c hz
    have : ∀ l : List DictEntry, (PySem.putIn (·.key.isStr name) (fun e => { e with val := v }) ⟨PyData.keyHash w.params name, .str name (s₁.toks + 1), v⟩ l).length ≤ l.length + 1 := by
      intro l
      induction l with
      | nil => exact Nat.le_refl _
      | cons y l ih =>
        cases z : y.key.isStr name with
        | true => rw [PySem.putIn_hit (fun e : DictEntry => e.key.isStr name) _ _ _ _ z]; exact Nat.le_succ _
        | false => rw [PySem.putIn_miss (fun e : DictEntry => e.key.isStr name) _ _ _ _ z]; simp only [List.length_cons]; (first | with_reducible assumption | exact Nat.lt_of_lt_of_le (by assumption) (by decide) | exact Nat.lt_of_le_of_lt (by assumption) (by decide) | lia | omega)
    exact this es
  have hfl : ∀ {fs : List (Str × D)} {es : List DictEntry}, RepFs w.params F₁ fs es → fs.length = es.length := by
    intro fs es h
    induction fs generalizing es with
    | nil => cases h; rfl
    | cons p fs ih => cases h with | cons a b => rw [List.length_cons, List.length_cons, ih b]
  have hfl' := hfl rf
  refine wpAny_bind (wpAny_lookBehind hself (by rw [show (dictO _ _).data = _ from rfl]; exact pastItsLine_dict (by rw [List.size_toArray, sizeLine_eq]; (first | with_reducible assumption | exact Nat.lt_of_lt_of_le (by assumption) (by decide) | exact Nat.lt_of_le_of_lt (by assumption) (by decide) | lia | omega))) ?_)
  refine wpAny_pure ?_
  show wpAny _ _ (release _ _) _ _ _
  refine wpAny_release ?_
  have O₃ := Out.turn (t := s₁.toks + 1 + 1) O₁.inv g2 (Heap.SameBut.update s₁.heap dx' (Obj.putName name (PyData.keyHash w.params name) (.str name (s₁.toks + 1)) v)) ⟨_, hself, .attrs rf'⟩
  exact ⟨_, _, ρ, Out.nil (O₁.trans O₃), R.nil (O₁.trans O₃), q⟩
end
noncomputable def fdOf (K : Frag) (f : Addr) : Option FuncData := match K.lookup f with
  | some ⟨_, _, .func fd, _⟩ => some fd
  | _ => none
noncomputable def nodupB : List Str → Bool
  | [] => true
  | x :: r => !r.contains x && nodupB r
theorem nodup_of : ∀ {l : List Str}, nodupB l = true → l.Nodup
  | [], _ => List.nodup_nil
  | x :: r, h => by
    simp only [nodupB, Bool.and_eq_true, Bool.not_eq_true'] at h
    rw [List.nodup_cons]
    refine ⟨fun m => ?_, nodup_of h.2⟩
    have : r.contains x = true := by simpa using m
    rw [this] at h; cases h.1
noncomputable def fnChk (K : Frag) (f : Addr) (tab : Tab) (ps : List Str) : Bool := match fdOf K f with
  | some fd => fd.closure.isEmpty && fd.globals == mainGlobals && fd.builtins == builtinsNs && fd.scope.kind == .function && !fd.scope.isCoroutine && !fd.scope.isGenerator && codeIn K fd.code fd.qualname &&
      ps.all (fun x => fd.scope.names.lookup x == some .local || fd.scope.names.lookup x == some .cell) && nodupB ps && nodupB ((cellsFrom 0 fd.scope.names []).map (·.1)) && tabOk tab &&
      tab.all (fun p => fd.scope.names.lookup p.1 == some .local || fd.scope.names.lookup p.1 == some .cell)
  | none => false
noncomputable def initL (tab : Tab) (ps : List Str) (ds : List D) : Loc := tab.map fun p => (ps.zip ds).lookup p.1

section
variable (prog : Program) (w : World) (K : Frag)
noncomputable def FN (n : Nat) (G : GH) (f : Addr) (ds : List D) (Q : D → GH → Prop) : Prop :=
  ∀ (A : Around) (F : FH) (s : Shared) (vs : List Value), OkA n A → Inv prog w K F G s.heap → RepAll w.params F ds vs →
    codeAny (model prog w) A (.call (.ref f) ⟨vs, []⟩) (fun r s' => ∃ v, r = .ok (.ret v) ∧ VP prog w K F G s Q v s') s
end
structure KOk (K : Frag) : Prop where
  sys : SysOk K
  lim : ∀ h : Heap, K.In h → h.NoLimit

section
variable {prog : Program} {w : World} {K : Frag} {n : Nat} {sc : Scope} {tab : Tab} {ρ : Loc} {G : GH} {F : FH} {A : Around} {s : Shared} {env : Env} {Q : D → GH → Prop}

theorem FN.op {f : Addr} {ds : List D} (h : FN prog w K n G f ds Q) : OP prog w K n G ds (fun vs => call (.ref f) vs) Q :=
  fun A F s vs ok I r => wpAny_call (codeAny_mono (h A F s vs ok I r) fun r s' ⟨v, e, x⟩ => by subst e; exact x)
theorem FN.mono {f : Addr} {ds : List D} {Q' : D → GH → Prop} (h : FN prog w K n G f ds Q) (q : ∀ d G, Q d G → Q' d G) : FN prog w K n G f ds Q' :=
  fun A F s vs ok I r => codeAny_mono (h A F s vs ok I r) fun r s' ⟨v, e, F', G', d, O, r, x⟩ => ⟨v, e, F', G', d, O, r, q _ _ x⟩

theorem bindL_not {kindOf : Str → Option NameKind} {x : Str} : ∀ (binds : List (Str × Value)) (m : Str → Option Value), x ∉ binds.map (·.1) → bindL kindOf binds m x = m x
  | [], m, _ => rfl
  | (y, v) :: r, m, h => by
    rw [List.map_cons, List.mem_cons, not_or] at h
    unfold bindL
    rw [bindL_not r _ h.2]
    split
    · exact if_neg h.1
    · rfl
theorem bindL_at {kindOf : Str → Option NameKind} {x : Str} {v : Value} (hk : kindOf x = some .local) : ∀ (binds : List (Str × Value)) (m : Str → Option Value), (binds.map (·.1)).Nodup → (x, v) ∈ binds → bindL kindOf binds m x = some v
  | (y, u) :: r, m, nd, h => by
    rw [List.map_cons, List.nodup_cons] at nd
    unfold bindL
    rcases List.mem_cons.mp h with e | h
    · cases e
      rw [bindL_not r _ nd.1, if_pos hk, if_pos rfl]
    · exact bindL_at hk r _ nd.2 h
theorem bindC_not {kindOf : Str → Option NameKind} {x : Str} : ∀ (binds : List (Str × Value)) (m : Str → Option Value), x ∉ binds.map (·.1) → bindC kindOf binds m x = m x
  | [], m, _ => rfl
  | (y, v) :: r, m, h => by
    rw [List.map_cons, List.mem_cons, not_or] at h
    unfold bindC
    rw [bindC_not r _ h.2]
    split
    · rfl
    · exact if_neg h.1
theorem bindC_at {kindOf : Str → Option NameKind} {x : Str} {v : Value} (hk : kindOf x ≠ some .local) : ∀ (binds : List (Str × Value)) (m : Str → Option Value), (binds.map (·.1)).Nodup → (x, v) ∈ binds → bindC kindOf binds m x = some v
  | (y, u) :: r, m, nd, h => by
    rw [List.map_cons, List.nodup_cons] at nd
    unfold bindC
    rcases List.mem_cons.mp h with e | h
    · cases e
      rw [bindC_not r _ nd.1, if_neg hk, if_pos rfl]
    · exact bindC_at hk r _ nd.2 h
theorem zip_rep {P : Params} {F : FH} : ∀ {ps : List Str} {ds : List D} {vs : List Value} {x : Str} {d : D}, RepAll P F ds vs → (ps.zip ds).lookup x = some d → ∃ v, (x, v) ∈ ps.zip vs ∧ Rep P F d v
  | [], _, _, _, _, _, h => by simp at h
  | p :: ps, [], _, _, _, _, h => by simp at h
  | p :: ps, d0 :: ds, _, x, d, .cons r rs, h => by
    rw [List.zip_cons_cons, List.lookup_cons] at h
    cases z : x == p with
    | true =>
      rw [z] at h; cases h
      have := eq_of_beq z
      subst this
      exact ⟨_, .head _, r⟩
    | false =>
      rw [z] at h
      obtain ⟨v, m, q⟩ := zip_rep rs h
      exact ⟨v, .tail _ m, q⟩
theorem zip_names {α : Type} : ∀ (ps : List Str) (vs : List α), ps.length = vs.length → (ps.zip vs).map (·.1) = ps
  | [], _, _ => rfl
  | p :: ps, [], h => by simp at h
  | p :: ps, v :: vs, h => by rw [List.zip_cons_cons, List.map_cons, zip_names ps vs (by simpa using h)]

set_option tactic.hygienic true in
theorem FN_def {f : Addr} {fd : FuncData} {body : List Stmt} {ps : List Str} {ds dds : List D} {dv : List Value} (hK : KOk K) (hf : fdOf K f = some fd) (hbody : fd.body = .stmts body) (hchk : fnChk K f tab ps = true) (hidx : tab.map (·.2) = List.range tab.length)
    (hbind : ∀ (s : Shared) (vs : List Value), K.In s.heap → vs.length = ds.length → BindsTo s fd ⟨vs, []⟩ (ps.zip (vs ++ dv))) (hdv : ∀ F, RepAll w.params F dds dv) (hlen : ps.length = ds.length + dds.length)
    (h : SX prog w K n fd.scope tab (initL tab ps (ds ++ dds)) G body (endQ (Q .none) Q)) : FN prog w K (n + 1) G f ds Q := by
  intro A F s vs ok I r
  unfold fnChk at hchk
  rw [hf] at hchk
  simp only [Bool.and_eq_true, Bool.not_eq_true', beq_iff_eq] at hchk
  obtain ⟨⟨⟨⟨⟨⟨⟨⟨⟨⟨⟨c1, c2⟩, c3⟩, c4⟩, c5⟩, c6⟩, c7⟩, c8⟩, c9⟩, c12⟩, c10⟩, c11⟩ := hchk
  have c1 : fd.closure = [] := by simpa using c1
  obtain ⟨oc, od, osl, hk⟩ : ∃ oc od osl, K.lookup f = some ⟨oc, od, .func fd, osl⟩ := by
    unfold fdOf at hf
    split at hf
    · rename_i oc od fd' osl e
      cases hf
      exact ⟨oc, od, osl, e⟩
    · cases hf
  have hget := I.kIn _ _ hk
  have hroom : A.depth < recursionLimit := by have := ok.2.1; show A.depth < 1000; (first | with_reducible assumption | exact Nat.lt_of_lt_of_le (by assumption) (by decide) | exact Nat.lt_of_le_of_lt (by assumption) (by decide) | lia | omega)
  have hl2 : ps.length = (vs ++ dv).length := by
    have h1 := r.length
    have h2 := (hdv F).length
    rw [hlen, List.length_append]; (first | with_reducible assumption | exact Nat.lt_of_lt_of_le (by assumption) (by decide) | exact Nat.lt_of_le_of_lt (by assumption) (by decide) | lia | omega)
  have hnames := zip_names ps (vs ++ dv) hl2
  refine codeAny_call_function hroom hget rfl c5 c6 hbody (codeRec_of I.kIn c7) (hbind s vs I.kIn r.length.symm _ _ _ _ ?_)
  rw [c1]
  have hkind : ∀ x ∈ ps.zip (vs ++ dv), fd.scope.names.lookup x.1 = some .local ∨ (fd.scope.names.lookup x.1 = some .cell ∧ ((cellsFrom (s.heap.objs.size + 1) fd.scope.names []).lookup x.1).isSome = true) := fun x m => by
    have : x.1 ∈ ps := by rw [← hnames]; exact List.mem_map.mpr ⟨x, m, rfl⟩
    have := List.all_eq_true.mp c8 _ this
    simp only [Bool.or_eq_true, beq_iff_eq] at this
    rcases this with e | e
    · exact .inl e
    · exact .inr ⟨e, cellsFrom_some _ _ _ (.inl e)⟩
  refine wpAny_newFunctionEnv_cells c4 hkind fun env he s₁ x => ?_
  obtain ⟨h₁, tk, es, hk1⟩ := x.done
  have hsc : env.scope = fd.scope := by rw [he]; rfl
  have hcells : env.cells = cellsFrom (s.heap.objs.size + 1) fd.scope.names [] := by rw [he]; rfl
  have hloc : env.locals = s.heap.objs.size := by rw [he]; rfl
  refine ⟨(hK.lim _ I.kIn).keeps (by rw [es]; exact hk1), codeAny_func ?_⟩
  have ra : RepAll w.params F (ds ++ dds) (vs ++ dv) := r.append (hdv F)
  have O₁ : Out prog w K [] F G s F G s₁ := by rw [es]; exact Out.other (X := []) (t := tk) I (fun b o _ e => hk1 b o e) (fun _ m => nomatch m) (fun _ m => nomatch m)
  have nd : ((ps.zip (vs ++ dv)).map (·.1)).Nodup := by rw [hnames]; exact nodup_of c9
  have hinit : ∀ y i d, tab.lookup y = some i → (initL tab ps (ds ++ dds))[i]? = some (some d) → ∃ v, (y, v) ∈ ps.zip (vs ++ dv) ∧ Rep w.params F d v := by
    intro y i d hy hd
    have m := mem_of_lookup hy
    have hti : tab[i]? = some (y, i) := by
      obtain ⟨j, hj, ej⟩ := List.mem_iff_getElem.mp m
      have h1 : (tab.map (·.2))[j]? = some i := by rw [List.getElem?_map, List.getElem?_eq_getElem hj, ej]; rfl
      rw [hidx, List.getElem?_range hj] at h1
      cases h1
      rw [List.getElem?_eq_getElem hj, ej]
    unfold initL at hd
    rw [List.getElem?_map, hti] at hd
    simp only [Option.map_some, Option.some.injEq] at hd
    exact zip_rep ra hd
  have htab : ∀ y i, tab.lookup y = some i → fd.scope.names.lookup y = some .local ∨ fd.scope.names.lookup y = some .cell := fun y i e => by
    have := List.all_eq_true.mp c11 _ (mem_of_lookup e)
    simpa using this
  have fresh : ∀ a ∈ frameAddrs env, s.heap.objs.size ≤ a ∧ s₁.heap.get? a ≠ none := fun a m => by
    rcases List.mem_cons.mp m with e | m
    · subst e
      refine ⟨by rw [hloc]; exact Nat.le_refl _, ?_⟩
      obtain ⟨o, _, _, e, _⟩ := x.toInCall.ns
      rw [e]; simp
    · obtain ⟨p, hp, rfl⟩ := List.mem_map.mp m
      refine ⟨?_, ?_⟩
      · have := x.above p.1 p.2 hp
        rw [hloc] at this
        exact Nat.le_of_lt this
      · have hm : (p.1, p.2) ∈ env.cells := hp
        have hnd : (env.cells.map (·.1)).Nodup := by
          rw [hcells, ← cellsFrom_names fd.scope.names 0 (s.heap.objs.size + 1) [] [] rfl]
          exact nodup_of c12
        obtain ⟨o, e, _⟩ := x.cell p.1 p.2 (lookup_of_mem_nodup hnd hm)
        rw [e]; simp
  have gone : ∀ a ∈ frameAddrs env, s.heap.get? a = none := fun a m => by
    cases z : s.heap.get? a with
    | none => rfl
    | some o => exact absurd (Heap.lt_size z) (Nat.not_lt.mpr (fresh a m).1)
  have Rf : Fra w env tab (initL tab ps (ds ++ dds)) F G s₁.heap := by
    refine ⟨by rw [hsc]; exact c4, by rw [he]; exact c2, by rw [he]; exact c3, ⟨_, x.toInCall.ns, fun y i d a b c => ?_⟩, fun y i a b => ?_, fun a m => ⟨fun k => I.known k (gone a m), (fresh a m).2⟩, x.apart, fun p hp => ?_⟩
    · obtain ⟨v, m, q⟩ := hinit y i d a b
      exact ⟨v, bindL_at c _ _ nd m, q⟩
    · have hc : fd.scope.names.lookup y = some .cell := by
        rcases htab y i a with e | e
        · exact absurd (show env.kindOf y = some .local by unfold Env.kindOf; rw [hsc]; exact e) b
        · exact e
      have hkc : env.kindOf y = some .cell := by unfold Env.kindOf; rw [hsc]; exact hc
      have hs := cellsFrom_some (x := y) fd.scope.names (s.heap.objs.size + 1) [] (.inl hc)
      obtain ⟨c, hc'⟩ := Option.isSome_iff_exists.mp hs
      refine ⟨.inl hkc, c, _, by rw [hcells]; exact hc', x.cell y c (by rw [hcells]; exact hc'), fun d e => ?_⟩
      obtain ⟨v, m, q⟩ := hinit y i d a e
      exact ⟨v, bindC_at b _ _ nd m, q⟩
    · exact Nat.ne_of_gt (x.above p.1 p.2 hp)
  have okd : OkA n (A.deeper env) := ⟨ok.1, by have := ok.2.1; show A.depth + 1 + 2 * n < 900; (first | with_reducible assumption | exact Nat.lt_of_lt_of_le (by assumption) (by decide) | exact Nat.lt_of_le_of_lt (by assumption) (by decide) | lia | omega), by have := ok.2.2; show A.units + 3 + 50 * n + 200 < cLine; (first | with_reducible assumption | exact Nat.lt_of_lt_of_le (by assumption) (by decide) | exact Nat.lt_of_le_of_lt (by assumption) (by decide) | lia | omega)⟩
  refine wpAny_mono (h (A.deeper env) env F s₁ okd hsc O₁.inv Rf) (fun fl s' ⟨F', G', ρ', fl', O, R', fr, q1, q2⟩ => ?_) fun _ _ x => x.elim
  have Od := Out.drop (Y := []) (X := frameAddrs env) O₁ O gone
  cases fr with
  | next => exact ⟨.none, rfl, F', G', .none, Od, .none, q1 rfl⟩
  | ret rv => exact ⟨_, rfl, F', G', _, Od, rv, q2 _ rfl⟩

structure MethOk (K : Frag) (C : Addr) (name : Str) (f : Addr) : Prop where
  find : findIn K (.ref C) name = some (some (.ref f))
  typ : typeIn K (.ref f) = some (.type "function")
  keep : keepIn K (.ref f) = true
noncomputable def methChk (K : Frag) (C : Addr) (name : Str) (f : Addr) : Bool := findIn K (.ref C) name == some (some (.ref f)) && typeIn K (.ref f) == some (.type "function") && keepIn K (.ref f)
theorem meth_ok {C : Addr} {name : Str} {f : Addr} (h : methChk K C name f = true) : MethOk K C name f := by
  simp only [methChk, Bool.and_eq_true, beq_iff_eq] at h
  exact ⟨h.1.1, h.1.2, h.2⟩
inductive mtuQ (prog : Program) (w : World) (K : Frag) (n : Nat) (sc : Scope) (tab : Tab) (ρ : Loc) (name : Str) (args : List Expr) (Q : D → GH → Prop) (d : D) (G₁ : GH) : Prop
  | mk (C : Addr) (fs : List (Str × D)) (f : Addr) : ObjD G₁ d C fs → ClsOk K C → MethOk K C name f → fs.lookup name = none → EXs prog w K n sc tab ρ (fun ds G₂ => FN prog w K n G₂ f (d :: ds) Q) args [] G₁ → mtuQ prog w K n sc tab ρ name args Q d G₁
theorem EX_methU {o : Expr} {name : Str} {apos pos : Pos} {args : List Expr}
    (h : EX prog w K n sc tab ρ G o (mtuQ prog w K n sc tab ρ name args Q)) (hst : args.all notStar = true := by rfl)
    (he : ∀ env, ∃ pl, eval (.Call (.Attribute o name apos) args [] pos) env = (do
      let ov ← eval o env
      standAt apos.atName
      let (f, first) ← holding [ov] (getMethod ov name pl)
      callWith pos f first (backTo pos (starEach args env)) []) := by intro _; exact ⟨_, rfl⟩) :
    EX prog w K n sc tab ρ G (.Call (.Attribute o name apos) args [] pos) Q := by
  intro A env F s ok hsc I R
  obtain ⟨pl, he⟩ := he env
  refine MethodCall_ (pl := pl) (wpAny_mono (h A env F s ok hsc I R) (fun ov s₁ ⟨F₁, G₁, d₁, O₁, r₁, C, fs, f, ho, hC, hM, hl, h₁⟩ => ?_) fun _ _ x => x) he
  obtain ⟨x, dx, es, m, rfl, hI, rf⟩ := inst_at O₁.inv r₁ ho
  refine method_fn O₁.inv.kIn hI hC.ga hC.gn hM.find hM.typ (by show Option.map _ (lookIn name (dictO es m)) = _; rw [look_not rf hl]; rfl) ?_
  refine callWith_EXs (first := [.ref x]) (.of hM.keep) hst ok hsc O₁.inv (R.nil O₁) h₁ fun F' G' ds vs s' O r q => ?_
  refine wpAny_mono (q.op A F' s' (.ref x :: vs) ok O.inv (.cons (r₁.mono O.step.mono) r)) (fun v s'' ⟨F₂, G₂, d, O₂, r₂, q₂⟩ => ?_) fun _ _ x => x
  exact ⟨F₂, G₂, d, (O₁.trans O).trans O₂, r₂, q₂⟩

structure NewOk (K : Frag) (C fI : Addr) : Prop where
  makes : makesIn K C = true
  init : findIn K (.ref C) "__init__" = some (some (.ref fI))
  typ : typeIn K (.ref fI) = some (.type "function")
noncomputable def newChk (K : Frag) (C fI : Addr) : Bool := makesIn K C && findIn K (.ref C) "__init__" == some (some (.ref fI)) && typeIn K (.ref fI) == some (.type "function")
theorem new_ok {C fI : Addr} (h : newChk K C fI = true) : NewOk K C fI := by
  simp only [newChk, Bool.and_eq_true, beq_iff_eq] at h
  exact ⟨h.1.1, h.1.2, h.2⟩
theorem under_call (A : Around) (C : Addr) (vs : List Value) : (A.under (.builtin "type.__call__" ⟨.ref C :: vs, []⟩)).handled = A.handled ∧ (A.under (.builtin "type.__call__" ⟨.ref C :: vs, []⟩)).depth = A.depth + 1 ∧ (A.under (.builtin "type.__call__" ⟨.ref C :: vs, []⟩)).units = A.units + 1 := ⟨rfl, rfl, rfl⟩
theorem OP_new {C fI : Addr} {ds : List D} (hN : NewOk K C fI)
    (h : ∀ x dx, x ≠ dx → G x = none → G dx = none → FN prog w K n ((G.put dx (.attrs [])).put x (.inst C dx)) fI (.ref x :: ds) (fun d G' => d = .none ∧ Q (.ref x) G')) : OP prog w K (n + 1) G ds (fun vs => call (.ref C) vs) Q := by
  intro A F s vs ok I r
  refine wpAny_call ?_
  obtain ⟨hh, g, dr, t, os⟩ := s
  have hG0 := I.fresh (get_size hh)
  have O₁ : Out prog w K [] F G ⟨hh, g, dr, t, os⟩ F (G.put hh.objs.size (.attrs [])) ⟨hh.push emptyDict, g, dr, t, os⟩ := Out.newG (s := ⟨hh, g, dr, t, os⟩) I (o := emptyDict) (CellRel.attrs (es := []) (n := 0) .nil)
  have O₂ : Out prog w K [] F (G.put hh.objs.size (.attrs [])) ⟨hh.push emptyDict, g, dr, t, os⟩ F ((G.put hh.objs.size (.attrs [])).put (hh.push emptyDict).objs.size (.inst C hh.objs.size)) ⟨(hh.push emptyDict).push (instObj C hh.objs.size), g, dr, t, os⟩ :=
    Out.newG (s := ⟨hh.push emptyDict, g, dr, t, os⟩) O₁.inv (o := instObj C hh.objs.size) CellRel.inst
  have es : (hh.push emptyDict).objs.size = hh.objs.size + 1 := Heap.size_push ..
  rw [es] at O₂
  have hG1 : G (hh.objs.size + 1) = none := by
    have := (O₁.inv.fresh (get_size (hh.push emptyDict))).2
    rw [es, GH.put_ne (Nat.succ_ne_self _)] at this
    exact this
  refine make_core (makes_of I.kIn hN.makes) (looks_findIn I.kIn hN.init) (fun self => bind_fn I.kIn self hN.typ) (.inl rfl) ?_
  obtain ⟨u1, u2, u3⟩ := under_call A C vs
  have ok' : OkA n (A.under (.builtin "type.__call__" ⟨.ref C :: vs, []⟩)) := ⟨u1.trans ok.1, by have := ok.2.1; (first | with_reducible assumption | exact Nat.lt_of_lt_of_le (by assumption) (by decide) | exact Nat.lt_of_le_of_lt (by assumption) (by decide) | lia | omega), by have := ok.2.2; (first | with_reducible assumption | exact Nat.lt_of_lt_of_le (by assumption) (by decide) | exact Nat.lt_of_le_of_lt (by assumption) (by decide) | lia | omega)⟩
  have O₃ := O₁.trans O₂
  refine codeAny_mono (h (hh.objs.size + 1) hh.objs.size (Nat.succ_ne_self _) hG1 hG0.2 _ F _ (.ref (hh.objs.size + 1) :: vs) ok' O₃.inv (.cons (.ref _) (r.mono O₃.step.mono))) fun r' s' ⟨v, e, F', G', d, O, rv, ed, q⟩ => ?_
  subst e; subst ed
  (first | obtain rfl := rv.inv | obtain ⟨_, rfl⟩ := rv.inv | cases rv)
  exact ⟨rfl, F', G', _, O₃.trans O, .ref _, q⟩
end
theorem preSum_getD (ns : List Int) : preSum (fun i => ns.getD i 0) ns.length = ns.sum := by
  induction ns with
  | nil => rfl
  | cons a r ih =>
    rw [List.length_cons, kdu_shift, List.sum_cons, ← ih]
    rfl

section
variable {prog : Program} {w : World} {K : Frag} {n : Nat} {sc : Scope} {tab : Tab} {ρ : Loc} {G : GH} {F : FH} {A : Around} {s : Shared} {env : Env} {Q : D → GH → Prop}

theorem S1_tuple {ts : List Expr} {k : Nat} {tpos pos : Pos} {value : Expr} {Q : Fl → Loc → GH → Prop} (hn : ts.all isName = true) (h : EX prog w K n sc tab ρ G value (fun d G₁ => ∃ ds, d = .tup ds ∧ ts.length = ds.length ∧ AXs prog w K n sc tab (fun ρ' G' => Q .next ρ' G') ts ds ρ G₁))
    (hc : isComp value = false := by rfl) (hw : ∀ env : Env, env.scope = sc → swappedStores [.Tuple ts k tpos] value env = pure none := by intro _ _; rfl) : S1 prog w K n sc tab ρ G (.Assign [.Tuple ts k tpos] value pos) Q :=
  S1_assign (h.mono fun d G₁ ⟨ds, e, hl, q⟩ => e ▸ AX_tuple hn hl q) (fun _ _ => swapsWith_plain hc) hw rfl

theorem bind_name {x : Str} {i : Nat} {d : D} {v : Value} (hx : tab.lookup x = some i) (hinj : tab.inj) (hl : env.kindOf x = some .local) (I : Inv prog w K F G s.heap) (R : Fra w env tab ρ F G s.heap) (hv : Rep w.params F d v) :
    wpAny (model prog w) A (bindName env x v) (fun _ s' => Out prog w K (frameAddrs env) F G s F G s' ∧ Fra w env tab (ρ.set i (some d)) F G s'.heap) (fun _ _ => False) s := by
  obtain ⟨m, hn, _⟩ := id R.ns
  refine bindName_ (wpAny_storeName_local hl hn (fun h' hn' hs' => ⟨?_, R.store hx hinj hl hv hs' hn hn'⟩) (by rw [R.kind]; rfl))
  refine Out.weaken (Out.other (X := [env.locals]) (h' := h') I (fun a o m e => hs'.extBut a o (fun z => m (z ▸ .head _)) e) (fun a m => ?_) fun a m => ?_) fun a m => ?_
  · rcases List.mem_cons.mp m with rfl | m
    · obtain ⟨o, _, _, e, _⟩ := hn'; rw [e]; simp
    · cases m
  · rcases List.mem_cons.mp m with rfl | m
    · exact (R.out _ (.head _)).1
    · cases m
  · rcases List.mem_cons.mp m with rfl | m
    · exact .head _
    · cases m
theorem pair_at {P : Params} {F : FH} {d1 d2 : D} {v : Value} (r : Rep P F (.tup [d1, d2]) v) : ∃ a o v1 v2, v = .ref a ∧ F a = some o ∧ SeqOf "tuple" [v1, v2] o ∧ Rep P F d1 v1 ∧ Rep P F d2 v2 := by
  cases r with
  | tup f hq r =>
    cases r with
    | cons r1 r =>
      cases r with
      | cons r2 r => (first | obtain rfl := r.inv | obtain ⟨_, rfl⟩ := r.inv | cases r); exact ⟨_, _, _, _, rfl, f, hq, r1, r2⟩
theorem S1_swap2 {x y : Str} {px py : Pos} {k : Nat} {tpos pos : Pos} {value : Expr} {i j : Nat} {Q : Fl → Loc → GH → Prop} (hx : tab.lookup x = some i) (hy : tab.lookup y = some j) (hinj : tab.inj) (kx : sc.names.lookup x = some .local) (ky : sc.names.lookup y = some .local)
    (h : EX prog w K n sc tab ρ G value (fun d G₁ => ∃ d1 d2, d = .tup [d1, d2] ∧ Q .next ((ρ.set j (some d2)).set i (some d1)) G₁))
    (hc : isComp value = false := by rfl) (hw : ∀ env : Env, env.scope = sc → swappedStores [.Tuple [.Name x px, .Name y py] k tpos] value env = pure (some [x, y])) : S1 prog w K n sc tab ρ G (.Assign [.Tuple [.Name x px, .Name y py] k tpos] value pos) Q := by
  intro A env F s ok hsc I R
  refine Assign_Tuple_swapped (names := [x, y]) (wpAny_mono (h A env F s ok hsc I R) (fun v s₁ ⟨F₁, G₁, d, O₁, r, d1, d2, e, q⟩ => ?_) fun _ _ x => x) (by show swapsWith value (some (.Tuple [.Name x px, .Name y py] k tpos)) pos.line env = pure false; exact swapsWith_plain hc) (hw env hsc)
  subst e
  obtain ⟨a, o, v1, v2, rfl, f, hq, r1, r2⟩ := pair_at r
  have ht : IsTup s₁.heap a [v1, v2].toArray := ⟨_, O₁.inv.hF _ _ f, hq.1, hq.2⟩
  refine unpackItems_tuple (items := [v1, v2].toArray) ok.1 ht fun h' he => ?_
  have kp : ∀ a o, s₁.heap.get? a = some o → h'.get? a = some o := fun a o q => he a o (Nat.ne_of_lt (Heap.lt_size q)) q
  have O₂ : Out prog w K [] F₁ G₁ s₁ F₁ G₁ { s₁ with heap := h' } := Out.other (X := []) (t := s₁.toks) O₁.inv (fun a o _ q => kp a o q) (fun _ m => nomatch m) (fun _ m => nomatch m)
  have R₂ := (R.nil O₁).nil O₂
  show wpAny _ _ (assignInOrder [bindName env y, bindName env x] [v2, v1]) _ _ _
  have lx : env.kindOf x = some .local := by unfold Env.kindOf; rw [hsc]; exact kx
  have ly : env.kindOf y = some .local := by unfold Env.kindOf; rw [hsc]; exact ky
  refine wpAny_bind (wpAny_holding (wpAny_mono (bind_name hy hinj ly O₂.inv R₂ r2) (fun _ s₃ ⟨O₃, R₃⟩ => ?_) fun _ _ x => x))
  refine wpAny_bind (wpAny_holding (wpAny_mono (bind_name hx hinj lx O₃.inv R₃ r1) (fun _ s₄ ⟨O₄, R₄⟩ => ?_) fun _ _ x => x))
  exact wpAny_pure ⟨F₁, G₁, _, .next, ((O₁.trans O₂).nil.trans O₃).trans O₄, R₄, .next, q⟩

theorem EX_headS {value upper : Expr} {p pos : Pos} (h : EX prog w K n sc tab ρ G value (fun a G₁ => EX prog w K n sc tab ρ G₁ upper (fun b G₂ => ∃ x j, a = .str x ∧ b = .int j ∧ x.length ≤ 1000 ∧ Q (.str (PySem.Txt.slice x none (some j))) G₂)))
    (hs : ∀ o i : Value, subscripted (.Slice none (some upper) none p) false o i = operate [i, o] (getItem o i) := by intro _ _; with_unfolding_all rfl) :
    EX prog w K n sc tab ρ G (.Subscript value (.Slice none (some upper) none p) pos) Q := by
  intro A env F s ok hsc I R
  refine Subscript_ (wpAny_mono (h A env F s ok hsc I R) (fun o s₁ ⟨F₁, G₁, d₁, O₁, r₁, h₁⟩ => wpAny_Slice ?_) fun _ _ x => x)
  rw [evalPart_none, evalPart_some]
  refine wpAny_pure (wpAny_mono (h₁ A env F₁ s₁ ok hsc O₁.inv (R.nil O₁)) (fun vu s₂ ⟨F₂, G₂, d₂, O₂, r₂, x, j, e1, e2, hz, q⟩ => ?_) fun _ _ x => x)
  refine wpAny_pure ?_
  subst e1; subst e2
  (first | obtain rfl := r₁.inv | obtain ⟨_, rfl⟩ := r₁.inv | cases r₁)
  obtain ⟨tj, rfl⟩ : ∃ t, vu = .int j t := by (first | obtain rfl := r₂.inv | obtain ⟨_, rfl⟩ := r₂.inv | cases r₂); exact ⟨_, rfl⟩
  have O₄ : Out prog w K [] F₂ G₂ s₂ F₂ G₂ { s₂ with heap := s₂.heap.push { cls := .type "slice", data := .fields #[.none, .int j tj, .none] } } := Out.pushX O₂.inv _ s₂.toks
  refine tail_any (s := { s₂ with heap := s₂.heap.push { cls := .type "slice", data := .fields #[.none, .int j tj, .none] } }) (typeIs_str _ _ _) PySem.F.slot_str_getitem.lookup ?_ (hs _ _)
  refine wpAny_getItem_str_slice (l := none) (u := some (j, tj)) (st := none) ⟨_, Heap.get?_push_size _ rfl, rfl, rfl⟩ rfl (post_val_or_str ⟨Nat.le_trans (PySem.Txt.slice_le x _ _) (by rw [sizeLine_eq]; (first | with_reducible assumption | exact Nat.lt_of_lt_of_le (by assumption) (by decide) | exact Nat.lt_of_le_of_lt (by assumption) (by decide) | lia | omega)), fun t' k => ?_⟩)
  exact ⟨F₂, G₂, _, (O₁.trans O₂).trans (O₄.trans (Out.toks O₄.inv _)), .str _ _, q⟩

theorem OP_sum {d : D} {ns : List Int} (hd : LstD G d (ns.map .int)) (q : Q (.int ns.sum) G) : OP prog w K n G [d] (fun vs => call (.builtin "sum") vs) Q := by
  refine OP_1 fun A F s v ok I r1 => ?_
  obtain ⟨a, vs, m, rfl, h1, p⟩ := lst_at I r1 hd
  have hl : s.heap.IsList a vs.toArray := ⟨_, h1, rfl, m, rfl⟩
  have ne : a ≠ s.heap.objs.size := Nat.ne_of_lt (Heap.lt_size h1)
  refine call_sum_walkG ?_
  refine wpAny_pyIter_list hl ?_
  refine ⟨_, _, _, _, _, _, (fun i => ns.getD i 0), rfl, Walks.list (A := A.in1) ok.1 s.heap.objs.size a ne vs.toArray, ⟨⟨_, Heap.get?_push_size _ rfl, rfl, rfl⟩, hl.push _⟩, fun b mb => ?_, fun i v hp => ?_, fun h' tk t' k => ?_⟩
  · rw [Heap.size_push]
    rcases List.mem_cons.mp mb with rfl | mb
    · exact Nat.lt_succ_self _
    · rcases List.mem_cons.mp mb with rfl | mb
      · exact Nat.lt_succ_of_lt (Heap.lt_size h1)
      · cases mb
  · have e : vs[i]? = some v := by simpa using hp
    obtain ⟨d', e1, r⟩ := RepAll.getR p e
    rw [List.getElem?_map] at e1
    cases z : ns[i]? with
    | none => rw [z] at e1; cases e1
    | some k =>
      rw [z] at e1; cases e1
      (first | obtain rfl := r.inv | obtain ⟨_, rfl⟩ := r.inv | cases r)
      have e9 : ns.getD i 0 = k := by rw [List.getD_eq_getElem?_getD, z]; rfl
      exact ⟨_, congrArg (fun y => Value.int y _) e9.symm⟩
  · have el := p.length
    rw [List.length_map] at el
    have es : preSum (fun i => ns.getD i 0) vs.toArray.size = ns.sum := by rw [toArray_size, ← el]; exact preSum_getD ns
    rw [es]
    refine ⟨F, G, .int ns.sum, Out.other (X := []) (h' := h') (t := tk) I (fun b o _ e => k b o (fun z => ?_) (Heap.get?_push_of_some _ e)) (fun _ m => nomatch m) (fun _ m => nomatch m), .int _ _, q⟩
    rcases List.mem_cons.mp z with rfl | z
    · exact Nat.lt_irrefl _ (Heap.lt_size e)
    · cases z
end
noncomputable abbrev PW : Program := PySem.Challenge.pw_sf0017_01
noncomputable def stT (i : Nat) : Option Stmt := PW.main.body[i]?
noncomputable def bodyF : Option Stmt → List Stmt
  | some (.FunctionDef _ _ b _ _ _ _ _ _ _) => b
  | _ => []
noncomputable def scopeF : Option Stmt → Scope
  | some (.FunctionDef _ _ _ _ _ _ s _ _ _) => s
  | _ => { kind := .module, names := [], isGenerator := false, isCoroutine := false }
noncomputable def inC (o : Option Stmt) (j : Nat) : Option Stmt := match o with
  | some (.ClassDef _ _ _ b _ _ _ _ _ _ _) => b[j]?
  | _ => none

structure Def (w : World) (K : Frag) (f : Addr) (tab : Tab) (ps : List Str) (st : Option Stmt) (dds : List D) : Prop where
  ex : ∃ fd dv, fdOf K f = some fd ∧ fd.body = .stmts (bodyF st) ∧ fd.scope = scopeF st ∧ fnChk K f tab ps = true ∧
    (∀ (s : Shared) (vs : List Value), K.In s.heap → vs.length + dds.length = ps.length → BindsTo s fd ⟨vs, []⟩ (ps.zip (vs ++ dv))) ∧ (∀ F, RepAll w.params F dds dv)
  keep : keepIn K (.ref f) = true
theorem Def.fn {prog : Program} {w : World} {K : Frag} {n : Nat} {G : GH} {f : Addr} {tab : Tab} {ps : List Str} {st : Option Stmt} {ds dds : List D} {Q : D → GH → Prop} (X : Def w K f tab ps st dds) (hK : KOk K) (idx : tab.map (·.2) = List.range tab.length) (hlen : ps.length = ds.length + dds.length)
    (h : SX prog w K n (scopeF st) tab (initL tab ps (ds ++ dds)) G (bodyF st) (endQ (Q .none) Q)) : FN prog w K (n + 1) G f ds Q := by
  obtain ⟨fd, dv, h1, h2, h3, h4, h5, h6⟩ := X.ex
  rw [← h3] at h
  exact FN_def hK h1 h2 h4 idx (fun s vs a b => h5 s vs a (by rw [b, hlen])) h6 hlen h

noncomputable def tab__wall : Tab := [("k", 0)]
noncomputable def tab_transitive : Tab := [("rows", 0), ("found", 1), ("middle", 2), ("one", 3)]
noncomputable def tab_ToolError___init__ : Tab := [("self", 0), ("what", 1), ("at", 2)]
noncomputable def tab_ToolError_told : Tab := [("self", 0)]
noncomputable def tab_bits : Tab := [("mask", 0), ("found", 1), ("at", 2), ("left", 3)]
noncomputable def tab_LrState___init__ : Tab := [("self", 0), ("number", 1), ("kernel", 2), ("symbol", 3)]
noncomputable def tab_LrState_goto : Tab := [("self", 0), ("symbol", 1)]
noncomputable def tab_LrState_is_consistent : Tab := [("self", 0)]
noncomputable def tab_Closer___init__ : Tab := [("self", 0), ("grammar", 1), ("rows", 2), ("rule", 3)]
noncomputable def tab_Closer_wanted : Tab := [("self", 0), ("kernel", 1), ("mask", 2), ("item", 3), ("symbol", 4)]
noncomputable def tab_Closer_added : Tab := [("self", 0), ("kernel", 1), ("found", 2), ("symbol", 3), ("number", 4), ("item", 5)]
noncomputable def tab_Closer_close : Tab := [("self", 0), ("kernel", 1)]
noncomputable def tab_closure : Tab := [("grammar", 0), ("kernel", 1)]
noncomputable def tab_advanced : Tab := [("grammar", 0), ("item", 1)]
noncomputable def tab_kernels_behind : Tab := [("grammar", 0), ("items", 1), ("found", 2), ("item", 3), ("symbol", 4), ("ordered", 5)]
noncomputable def tab_complete_rules : Tab := [("grammar", 0), ("items", 1), ("found", 2), ("item", 3)]
noncomputable def tab_Automaton___init__ : Tab := [("self", 0), ("grammar", 1), ("states", 2)]
noncomputable def tab_Automaton_goto : Tab := [("self", 0), ("state", 1), ("symbol", 2)]
noncomputable def tab_Automaton_walk : Tab := [("self", 0), ("state", 1), ("symbols", 2), ("here", 3), ("symbol", 4)]
noncomputable def tab_Automaton_path : Tab := [("self", 0), ("state", 1), ("symbols", 2), ("found", 3), ("symbol", 4), ("here", 5)]
noncomputable def tab_Automaton_final_state : Tab := [("self", 0)]
noncomputable def tab_Automaton_transition_count : Tab := [("self", 0)]
noncomputable def tab_Automaton_transition_count_c0 : Tab := [("state", 0)]
noncomputable def tab_Builder___init__ : Tab := [("self", 0), ("grammar", 1)]
noncomputable def tab_Builder_number_of : Tab := [("self", 0), ("kernel", 1), ("symbol", 2)]
noncomputable def tab_Builder_expand : Tab := [("self", 0), ("state", 1), ("behind", 2), ("symbol", 3)]
noncomputable def tab_Builder_built : Tab := [("self", 0), ("at", 1)]
noncomputable def tab_build : Tab := [("grammar", 0)]
noncomputable def tab_Rule___init__ : Tab := [("self", 0), ("number", 1), ("left", 2), ("right", 3), ("level_of", 4), ("action", 5), ("line", 6), ("before", 7)]
noncomputable def tab_Grammar___init__ : Tab := [("self", 0), ("names", 1), ("terminal_count", 2), ("rules", 3), ("levels", 4), ("expect", 5), ("start", 6), ("rule", 7)]
noncomputable def tab_Grammar___init___c0 : Tab := [("name", 0)]
noncomputable def tab_Grammar_symbol_count : Tab := [("self", 0)]
noncomputable def tab_Grammar_is_terminal : Tab := [("self", 0), ("symbol", 1)]
noncomputable def tab_Grammar_is_middle : Tab := [("self", 0), ("symbol", 1)]
noncomputable def tab_Grammar_number : Tab := [("self", 0), ("name", 1)]
noncomputable def tab_Grammar_rules_of : Tab := [("self", 0), ("symbol", 1)]
noncomputable def tab_Grammar_item : Tab := [("self", 0), ("rule", 1), ("dot", 2)]
noncomputable def tab_Grammar_rule_of : Tab := [("self", 0), ("item", 1)]
noncomputable def tab_Grammar_dot_of : Tab := [("self", 0), ("item", 1)]
noncomputable def tab_Grammar_after : Tab := [("self", 0), ("item", 1), ("right", 2), ("dot", 3)]
noncomputable def tab_last_terminal : Tab := [("right", 0), ("terminal_count", 1), ("found", 2), ("symbol", 3)]
noncomputable def tab_plain_grammar : Tab := [("pairs", 0), ("start", 1), ("lefts", 2), ("left", 3), ("parts", 4), ("name", 5), ("begin", 6), ("names", 7), ("count", 8), ("rules", 9), ("right", 10)]
noncomputable def tab_plain_grammar_c0 : Tab := [("name", 0), ("names", 1)]
noncomputable def tab__law_tape : Tab := [("script", 0), ("digits", 1), ("seed", 2), ("cell", 3)]
noncomputable def tab__law_draw : Tab := [("tape", 0), ("many", 1), ("digit", 2)]
noncomputable def tab__law_pairs : Tab := [("tape", 0), ("names", 1), ("signs", 2), ("pairs", 3), ("turn", 4)]
noncomputable def tab__law_pairs_c0 : Tab := [("name", 0), ("tape", 1), ("signs", 2)]
noncomputable def tab__law_pairs_c0_c0 : Tab := [("spot", 0), ("signs", 1), ("tape", 2)]
noncomputable def tab__law_pairs_c1 : Tab := [("spot", 0), ("signs", 1), ("tape", 2)]
noncomputable def tab__law_closed : Tab := [("rules", 0), ("kernel", 1), ("found", 2), ("place", 3), ("number", 4), ("dot", 5), ("other", 6), ("rule", 7)]
noncomputable def tab__law_closed_c0 : Tab := [("item", 0), ("kernel", 1)]
noncomputable def tab__law_behind : Tab := [("rules", 0), ("items", 1), ("symbols", 2), ("unlike", 3)]
noncomputable def tab__law_behind_c0 : Tab := [("number", 0), ("dot", 1), ("rules", 2)]
noncomputable def tab__law_behind_c1 : Tab := [("place", 0), ("symbol", 1), ("symbols", 2)]
noncomputable def tab__law_behind_c2 : Tab := [("way", 0), ("items", 1), ("rules", 2)]
noncomputable def tab__law_behind_c2_c0 : Tab := [("number", 0), ("dot", 1), ("rules", 2), ("way", 3)]
noncomputable def tab__law_states : Tab := [("rules", 0), ("kernels", 1), ("at", 2), ("items", 3), ("moves", 4), ("symbol", 5), ("kernel", 6)]
noncomputable def tab__law_led : Tab := [("moves", 0), ("here", 1), ("symbols", 2), ("found", 3), ("symbol", 4)]
noncomputable def tab_law : Tab := [("script", 0), ("tape", 1), ("pairs", 2), ("grammar", 3), ("rules", 4), ("kernels", 5), ("items", 6), ("moves", 7), ("machine", 8), ("at", 9), ("state", 10), ("whole_items", 11), ("kernel", 12), ("whole", 13), ("turn", 14), ("here", 15), ("symbols", 16), ("led", 17)]
noncomputable def tab_law_c0 : Tab := [("name", 0), ("parts", 1)]
noncomputable def tab_law_c1 : Tab := [("name", 0), ("parts", 1), ("grammar", 2)]
noncomputable def tab_law_c1_c0 : Tab := [("part", 0), ("grammar", 1)]
noncomputable def tab_law_c2 : Tab := [("row", 0)]
noncomputable def tab_law_c3 : Tab := [("number", 0), ("dot", 1), ("grammar", 2)]
noncomputable def tab_law_c4 : Tab := [("number", 0), ("dot", 1), ("grammar", 2)]
noncomputable def tab_law_c5 : Tab := [("number", 0), ("dot", 1), ("rules", 2)]
noncomputable def tab_law_c6 : Tab := [("symbol", 0), ("state", 1)]
noncomputable def tab_law_c7 : Tab := [("symbol", 0), ("moves", 1), ("at", 2)]
noncomputable def tab_law_c8 : Tab := [("spot", 0), ("tape", 1), ("grammar", 2)]
noncomputable def tab_law_c9 : Tab := [("place", 0)]

set_option genInjectivity false in
structure Ad where
  (tr bits lrInit lrGoto clInit clWanted clAdded clClose closure advanced behind complete auInit auGoto auWalk auPath auFinal auCount buInit buNumber buExpand buBuilt build ruInit grInit grCount grTerm grNumber grRules grItem grRule grDot grAfter last plain tape draw pairs closed lbehind states led law LrState Closer Automaton Builder Rule Grammar own : Addr)

noncomputable def gTab (a : Ad) : List (Str × Value) := [("transitive", .ref a.tr), ("bits", .ref a.bits), ("closure", .ref a.closure), ("advanced", .ref a.advanced), ("kernels_behind", .ref a.behind), ("complete_rules", .ref a.complete), ("build", .ref a.build), ("last_terminal", .ref a.last), ("plain_grammar", .ref a.plain), ("_law_tape", .ref a.tape), ("_law_draw", .ref a.draw), ("_law_pairs", .ref a.pairs), ("_law_closed", .ref a.closed), ("_law_behind", .ref a.lbehind), ("_law_states", .ref a.states), ("_law_led", .ref a.led), ("LrState", .ref a.LrState), ("Closer", .ref a.Closer), ("Automaton", .ref a.Automaton), ("Builder", .ref a.Builder), ("Rule", .ref a.Rule), ("Grammar", .ref a.Grammar)]
noncomputable def bTab : List (Str × Value) := [("len", .builtin "len"), ("sorted", .builtin "sorted"), ("sum", .builtin "sum"), ("abs", .builtin "abs"), ("int", .type "int"), ("list", .type "list"), ("tuple", .type "tuple"), ("range", .type "range"), ("enumerate", .type "enumerate")]

structure Ctx (w : World) (K : Frag) (a : Ad) : Prop where
  ok : KOk K
  g : ∀ x v, (gTab a).lookup x = some v → nsIn K mainGlobals x = some (some v)
  b : ∀ x v, bTab.lookup x = some v → nsIn K mainGlobals x = some none ∧ nsIn K builtinsNs x = some (some v)
  gNONE : ∃ t, nsIn K mainGlobals "NONE" = some (some (.int (-1) t))
  gEND : ∃ t, nsIn K mainGlobals "END" = some (some (.int 0 t))
  gOWN : nsIn K mainGlobals "OWN_TERMINALS" = some (some (.ref a.own))
  own : ∃ t1 t2 t3 m, K.lookup a.own = some { cls := .type "tuple", data := .seq [.str "$end" t1, .str "error" t2, .str "$undefined" t3].toArray m }
  d_tr : Def w K a.tr tab_transitive ["rows"] (stT 2) []
  d_bits : Def w K a.bits tab_bits ["mask"] (stT 6) []
  d_lrInit : Def w K a.lrInit tab_LrState___init__ ["self", "number", "kernel", "symbol"] (inC (stT 9) 0) []
  d_lrGoto : Def w K a.lrGoto tab_LrState_goto ["self", "symbol"] (inC (stT 9) 1) []
  d_clInit : Def w K a.clInit tab_Closer___init__ ["self", "grammar"] (inC (stT 10) 0) []
  d_clWanted : Def w K a.clWanted tab_Closer_wanted ["self", "kernel"] (inC (stT 10) 1) []
  d_clAdded : Def w K a.clAdded tab_Closer_added ["self", "kernel"] (inC (stT 10) 2) []
  d_clClose : Def w K a.clClose tab_Closer_close ["self", "kernel"] (inC (stT 10) 3) []
  d_closure : Def w K a.closure tab_closure ["grammar", "kernel"] (stT 11) []
  d_advanced : Def w K a.advanced tab_advanced ["grammar", "item"] (stT 12) []
  d_behind : Def w K a.behind tab_kernels_behind ["grammar", "items"] (stT 13) []
  d_complete : Def w K a.complete tab_complete_rules ["grammar", "items"] (stT 14) []
  d_auInit : Def w K a.auInit tab_Automaton___init__ ["self", "grammar", "states"] (inC (stT 15) 0) []
  d_auGoto : Def w K a.auGoto tab_Automaton_goto ["self", "state", "symbol"] (inC (stT 15) 1) []
  d_auWalk : Def w K a.auWalk tab_Automaton_walk ["self", "state", "symbols"] (inC (stT 15) 2) []
  d_auPath : Def w K a.auPath tab_Automaton_path ["self", "state", "symbols"] (inC (stT 15) 3) []
  d_auFinal : Def w K a.auFinal tab_Automaton_final_state ["self"] (inC (stT 15) 4) []
  d_auCount : Def w K a.auCount tab_Automaton_transition_count ["self"] (inC (stT 15) 5) []
  d_buInit : Def w K a.buInit tab_Builder___init__ ["self", "grammar"] (inC (stT 16) 0) []
  d_buNumber : Def w K a.buNumber tab_Builder_number_of ["self", "kernel", "symbol"] (inC (stT 16) 1) []
  d_buExpand : Def w K a.buExpand tab_Builder_expand ["self", "state"] (inC (stT 16) 2) []
  d_buBuilt : Def w K a.buBuilt tab_Builder_built ["self"] (inC (stT 16) 3) []
  d_build : Def w K a.build tab_build ["grammar"] (stT 17) []
  d_ruInit : Def w K a.ruInit tab_Rule___init__ ["self", "number", "left", "right", "level_of", "action", "line", "before"] (inC (stT 21) 0) [.none, .int 0, .int 0]
  d_grInit : Def w K a.grInit tab_Grammar___init__ ["self", "names", "terminal_count", "rules", "levels", "expect", "start"] (inC (stT 22) 0) []
  d_grCount : Def w K a.grCount tab_Grammar_symbol_count ["self"] (inC (stT 22) 1) []
  d_grTerm : Def w K a.grTerm tab_Grammar_is_terminal ["self", "symbol"] (inC (stT 22) 2) []
  d_grNumber : Def w K a.grNumber tab_Grammar_number ["self", "name"] (inC (stT 22) 4) []
  d_grRules : Def w K a.grRules tab_Grammar_rules_of ["self", "symbol"] (inC (stT 22) 5) []
  d_grItem : Def w K a.grItem tab_Grammar_item ["self", "rule", "dot"] (inC (stT 22) 6) []
  d_grRule : Def w K a.grRule tab_Grammar_rule_of ["self", "item"] (inC (stT 22) 7) []
  d_grDot : Def w K a.grDot tab_Grammar_dot_of ["self", "item"] (inC (stT 22) 8) []
  d_grAfter : Def w K a.grAfter tab_Grammar_after ["self", "item"] (inC (stT 22) 9) []
  d_last : Def w K a.last tab_last_terminal ["right", "terminal_count"] (stT 23) []
  d_plain : Def w K a.plain tab_plain_grammar ["pairs", "start"] (stT 24) [.none]
  d_tape : Def w K a.tape tab__law_tape ["script"] (stT 26) []
  d_draw : Def w K a.draw tab__law_draw ["tape", "many"] (stT 27) []
  d_pairs : Def w K a.pairs tab__law_pairs ["tape"] (stT 28) []
  d_closed : Def w K a.closed tab__law_closed ["rules", "kernel"] (stT 29) []
  d_lbehind : Def w K a.lbehind tab__law_behind ["rules", "items"] (stT 30) []
  d_states : Def w K a.states tab__law_states ["rules"] (stT 31) []
  d_led : Def w K a.led tab__law_led ["moves", "here", "symbols"] (stT 32) []
  d_law : Def w K a.law tab_law ["script"] (stT 33) []
  c_LrState : ClsOk K a.LrState
  n_LrState : NewOk K a.LrState a.lrInit
  k_LrState : keepIn K (.ref a.LrState) = true
  m_LrState_goto : MethOk K a.LrState "goto" a.lrGoto
  a_LrState : ∀ x ∈ (["number", "kernel", "symbol", "items", "moves", "reductions", "is_shifting"] : List Str), findIn K (.ref a.LrState) x = some none
  c_Closer : ClsOk K a.Closer
  n_Closer : NewOk K a.Closer a.clInit
  k_Closer : keepIn K (.ref a.Closer) = true
  m_Closer_wanted : MethOk K a.Closer "wanted" a.clWanted
  m_Closer_added : MethOk K a.Closer "added" a.clAdded
  m_Closer_close : MethOk K a.Closer "close" a.clClose
  a_Closer : ∀ x ∈ (["grammar", "firsts"] : List Str), findIn K (.ref a.Closer) x = some none
  c_Automaton : ClsOk K a.Automaton
  n_Automaton : NewOk K a.Automaton a.auInit
  k_Automaton : keepIn K (.ref a.Automaton) = true
  m_Automaton_goto : MethOk K a.Automaton "goto" a.auGoto
  m_Automaton_walk : MethOk K a.Automaton "walk" a.auWalk
  m_Automaton_path : MethOk K a.Automaton "path" a.auPath
  m_Automaton_final_state : MethOk K a.Automaton "final_state" a.auFinal
  m_Automaton_transition_count : MethOk K a.Automaton "transition_count" a.auCount
  a_Automaton : ∀ x ∈ (["grammar", "states"] : List Str), findIn K (.ref a.Automaton) x = some none
  c_Builder : ClsOk K a.Builder
  n_Builder : NewOk K a.Builder a.buInit
  k_Builder : keepIn K (.ref a.Builder) = true
  m_Builder_number_of : MethOk K a.Builder "number_of" a.buNumber
  m_Builder_expand : MethOk K a.Builder "expand" a.buExpand
  m_Builder_built : MethOk K a.Builder "built" a.buBuilt
  a_Builder : ∀ x ∈ (["grammar", "closer", "states", "numbers"] : List Str), findIn K (.ref a.Builder) x = some none
  c_Rule : ClsOk K a.Rule
  n_Rule : NewOk K a.Rule a.ruInit
  k_Rule : keepIn K (.ref a.Rule) = true
  a_Rule : ∀ x ∈ (["number", "left", "right", "level_of", "action", "line", "before"] : List Str), findIn K (.ref a.Rule) x = some none
  c_Grammar : ClsOk K a.Grammar
  n_Grammar : NewOk K a.Grammar a.grInit
  k_Grammar : keepIn K (.ref a.Grammar) = true
  m_Grammar_symbol_count : MethOk K a.Grammar "symbol_count" a.grCount
  m_Grammar_is_terminal : MethOk K a.Grammar "is_terminal" a.grTerm
  m_Grammar_number : MethOk K a.Grammar "number" a.grNumber
  m_Grammar_rules_of : MethOk K a.Grammar "rules_of" a.grRules
  m_Grammar_item : MethOk K a.Grammar "item" a.grItem
  m_Grammar_rule_of : MethOk K a.Grammar "rule_of" a.grRule
  m_Grammar_dot_of : MethOk K a.Grammar "dot_of" a.grDot
  m_Grammar_after : MethOk K a.Grammar "after" a.grAfter
  a_Grammar : ∀ x ∈ (["names", "terminal_count", "rules", "levels", "expect", "start", "by_left", "offsets", "owners", "item_count"] : List Str), findIn K (.ref a.Grammar) x = some none

section
variable {prog : Program} {w : World} {K : Frag} {a : Ad} {n : Nat} {sc : Scope} {tab : Tab} {ρ : Loc} {G : GH} {Q : D → GH → Prop}
theorem Ctx.cg (X : Ctx w K a) {x : Str} {v : Value} (h : sc.names.lookup x = some .globalImplicit) (m : (gTab a).lookup x = some v) (hd : (x == ("__debug__" : Str)) = false) : CalleeIs sc K x v := ⟨h, .inl (X.g x v m), hd⟩
theorem Ctx.cb (X : Ctx w K a) {x : Str} {v : Value} (h : sc.names.lookup x = some .globalImplicit) (m : bTab.lookup x = some v) (hd : (x == ("__debug__" : Str)) = false) : CalleeIs sc K x v := ⟨h, .inr (X.b x v m), hd⟩
theorem FN.le {f : Addr} {ds : List D} {k : Nat} (h : FN prog w K k G f ds Q) (q : k ≤ n) : FN prog w K n G f ds Q := fun A F s vs ok I r => h A F s vs (ok.le q) I r
theorem OP.le {f : List Value → Sem Value} {ds : List D} {k : Nat} (h : OP prog w K k G ds f Q) (q : k ≤ n) : OP prog w K n G ds f Q := fun A F s vs ok I r => h A F s vs (ok.le q) I r
end

theorem put_put {G : GH} {a : Addr} {c d : Cell} : (G.put a c).put a d = G.put a d := by
  funext b; unfold GH.put; split <;> rfl
theorem meltG_put {G : GH} {a : Addr} {c : Cell} (h : G a = none) : MeltG (G.put a c) G := fun b c' e => by
  have : b ≠ a := by rintro rfl; rw [h] at e; cases e
  exact ⟨c', by rw [GH.put_ne this]; exact e, .same _⟩
noncomputable def kd : Cell → Nat
  | .list _ => 0
  | .dict _ => 1
  | .tdict _ => 2
  | .inst _ _ => 3
  | .attrs _ => 4
theorem GH.apart {G : GH} {a b : Addr} {c d : Cell} (h1 : G a = some c) (h2 : G b = some d) (h : Nat.beq (kd c) (kd d) = false) : a ≠ b := fun z => by
  subst z
  rw [h1] at h2
  rw [Option.some.inj h2, Nat.beq_refl] at h
  exact Bool.noConfusion h
theorem GH.new_ne {G : GH} {a b : Addr} {c : Cell} (h1 : G a = some c) (h2 : G b = none) : a ≠ b := fun z => by
  rw [z, h2] at h1; cases h1
theorem GH.none_of {G : GH} {a : Addr} (h : ∀ c, G a = some c → False) : G a = none := by
  cases z : G a with
  | none => rfl
  | some c => exact (h c z).elim
theorem GH.put_at {G : GH} {a b : Addr} {c d : Cell} (h : G b = some d) (e : b ≠ a) : G.put a c b = some d := (GH.put_ne e).trans h
noncomputable def ext (X : Nat → Addr) (n : Nat) (x : Addr) : Nat → Addr := fun i => if i = n then x else X i
theorem ext_at {X : Nat → Addr} {n : Nat} {x : Addr} : ext X n x n = x := if_pos rfl
theorem ext_ne {X : Nat → Addr} {i n : Nat} {x : Addr} (e : ¬ i = n) : ext X n x i = X i := if_neg e
inductive Ex1 (f : Option D → Loc) (g : GH) (ρ : Loc) (G' : GH) : Prop
  | mk (d1 : Option D) : ρ = f d1 → G' = g → Ex1 f g ρ G'
inductive Ex1P (f : Option D → Loc) (g : GH) (P : Prop) (ρ : Loc) (G' : GH) : Prop
  | mk (d1 : Option D) : ρ = f d1 → G' = g → P → Ex1P f g P ρ G'
inductive Ex2 (f : Option D → Option D → Loc) (g : GH) (ρ : Loc) (G' : GH) : Prop
  | mk (d1 d2 : Option D) : ρ = f d1 d2 → G' = g → Ex2 f g ρ G'
inductive Ex2P (f : Option D → Option D → Loc) (g : GH) (P : Prop) (ρ : Loc) (G' : GH) : Prop
  | mk (d1 d2 : Option D) : ρ = f d1 d2 → G' = g → P → Ex2P f g P ρ G'
inductive Ex3 (f : Option D → Option D → Option D → Loc) (g : GH) (ρ : Loc) (G' : GH) : Prop
  | mk (d1 d2 d3 : Option D) : ρ = f d1 d2 d3 → G' = g → Ex3 f g ρ G'
inductive Ex4 (f : Option D → Option D → Option D → Option D → Loc) (g : GH) (ρ : Loc) (G' : GH) : Prop
  | mk (d1 d2 d3 d4 : Option D) : ρ = f d1 d2 d3 d4 → G' = g → Ex4 f g ρ G'
section
variable {prog : Program} {w : World} {K : Frag} {a : Ad} {n : Nat} {sc : Scope} {tab : Tab} {ρ : Loc} {G : GH} {Q : D → GH → Prop}
theorem FN.melt {f : Addr} {ds : List D} (h : FN prog w K n G f ds (fun d G' => ∃ G'' d', MeltG G' G'' ∧ Melt G' G'' d d' ∧ Q d' G'')) : FN prog w K n G f ds Q :=
  fun A F s vs a b c => codeAny_mono (h A F s vs a b c) fun r s' ⟨v, e, F', G', d, O, r, G'', d', l, m, q⟩ => ⟨v, e, _, G'', d', O.trans (Out.melt O.inv l), melt_rep O.inv m r, q⟩
theorem FN.retL {f : Addr} {ds : List D} (h : FN prog w K n G f ds (fun d G' => ∃ a xs, d = .ref a ∧ G a = none ∧ G' = G.put a (.list xs) ∧ Q (.list xs) G)) : FN prog w K n G f ds Q :=
  FN.melt (h.mono fun d G' ⟨a, xs, e1, e2, e3, q⟩ => by
    subst e1; subst e3
    exact ⟨G, .list xs, meltG_put e2, .listG GH.put_self e2 (MeltAll.same _), q⟩)

theorem SX_seq {st : Stmt} {rest : List Stmt} {Q : Fl → Loc → GH → Prop} (J : Loc → GH → Prop) (h : S1 prog w K n sc tab ρ G st (nxjQ J)) (h2 : ∀ ρ₁ G₁, J ρ₁ G₁ → SX prog w K n sc tab ρ₁ G₁ rest Q) : SX prog w K n sc tab ρ G (st :: rest) Q :=
  SX_next (h.mono fun fl ρ₁ G₁ ⟨e, j⟩ => ⟨e, h2 ρ₁ G₁ j⟩)
theorem SX_ret {e : Expr} {pos : Pos} {P : GH → Prop} (h : EX prog w K n sc tab ρ G e Q) : SX prog w K n sc tab ρ G [.Return (some e) pos] (endQ P Q) :=
  SX_cons (S1_return (h.mono fun d G₁ q => ⟨fun e => (nomatch e), fun d' e' => by cases e'; exact ⟨fun e => (nomatch e), fun d e => by cases e; exact q⟩⟩))
theorem band1 (m : Nat) : (Builtin.bitAnd (m : Int) 1 == 1) = m.testBit 0 := by
  unfold Builtin.bitAnd
  simp only [Int.natCast_nonneg, decide_true, show (decide ((0 : Int) ≤ 1)) = true from rfl]
  rw [Nat.testBit_zero]
  simp only [Int.toNat_natCast, show (1 : Int).toNat = 1 from rfl, Nat.and_one_is_mod]
  by_cases h : m % 2 = 1
  · rw [h]; rfl
  · have : m % 2 = 0 := by (first | with_reducible assumption | exact Nat.lt_of_lt_of_le (by assumption) (by decide) | exact Nat.lt_of_le_of_lt (by assumption) (by decide) | lia | omega)
    rw [this]; rfl
theorem shr1 (m : Nat) : (m : Int).fdiv (2 ^ (1 : Int).toNat) = ((m / 2 : Nat) : Int) := by
  show (m : Int).fdiv 2 = _
  rw [Int.fdiv_eq_ediv_of_nonneg _ (by decide)]; rfl

theorem shr_succ (m i : Nat) : m >>> (i + 1) = (m >>> i) / 2 := by rw [Nat.shiftRight_succ]
theorem testBit_shr (m i : Nat) : (m >>> i).testBit 0 = m.testBit i := by rw [Nat.testBit_shiftRight, Nat.add_zero]
theorem range_filter_succ (p : Nat → Bool) (k : Nat) : (List.range (k + 1)).filter p = if p k then (List.range k).filter p ++ [k] else (List.range k).filter p := by
  rw [List.range_succ, List.filter_append]
  by_cases h : p k = true
  · rw [if_pos h, List.filter_cons_of_pos h]; rfl
  · rw [if_neg h, List.filter_cons_of_neg h]; simp

noncomputable def bitL (m i : Nat) : List D := ((List.range i).filter m.testBit).map fun i => .int (i : Nat)
noncomputable def bitR (m : Nat) (b : Addr) (i : Nat) : Loc := [some (.int m), some (.ref b), some (.int (i : Nat)), some (.int (m >>> i : Nat))]
inductive BitJ (m : Nat) (b : Addr) (G : GH) (k : Nat) (ρ : Loc) (G' : GH) : Prop
  | mk (i : Nat) : k = m >>> i → i + (m >>> i) ≤ m → ρ = bitR m b i → G' = G.put b (.list (bitL m i)) → BitJ m b G k ρ G'
noncomputable def subB (o : Option Stmt) : List Stmt := match o with
  | some (.If _ b _ _) => b
  | some (.While _ b _ _) => b
  | some (.For _ _ b _ _) => b
  | _ => []
theorem few_bits {m i : Nat} (hm : m < 2 ^ 1000) (h : 0 < m >>> i) : i < 1000 := by
  by_cases z : i < 1000
  · exact z
  · exfalso
    rw [Nat.shiftRight_eq_div_pow, Nat.div_eq_of_lt (Nat.lt_of_lt_of_le hm (Nat.pow_le_pow_right (by decide) (Nat.le_of_not_lt z)))] at h
    exact Nat.lt_irrefl 0 h
theorem bits_rest {m : Nat} {b : Addr} {i : Nat} {P : Fl → Loc → GH → Prop} (hi : i + (m >>> i) ≤ m) (hpos : 0 < m >>> i) :
    SX prog w K 0 (scopeF (stT 6)) tab_bits (bitR m b i) (G.put b (.list (bitL m (i + 1)))) ((subB (bodyF (stT 6))[3]?).drop 1) (whbQ (BitJ m b G) (m >>> i) P) := by
  refine SX_next (S1_name (by rfl) (tab_inj (by rfl)) ?_)
  repeat (first | with_reducible refine EX_bin ?_ | with_reducible refine EX_int ?_ | with_reducible refine EX_neg ?_ | with_reducible refine EX_str ?_ | with_reducible refine EX_none ?_ | with_reducible refine EX_bool ?_ | with_reducible refine OP_add ?_ | with_reducible refine OP_sub ?_ | with_reducible refine OP_or ?_ | with_reducible refine OP_and ?_ | with_reducible refine OP_lt ?_ | with_reducible refine OP_gt ?_ | with_reducible refine OP_ge ?_ | with_reducible refine OP_eqi ?_ | with_reducible refine OP_nei ?_ | refine EX_name (by rfl) (by rfl) ?_)
  refine OP_shr ⟨rfl, ?_⟩ (Int.natCast_nonneg _) (by decide)
  refine SX_next (S1_name (by rfl) (tab_inj (by rfl)) ?_)
  repeat (first | with_reducible refine EX_bin ?_ | with_reducible refine EX_int ?_ | with_reducible refine EX_neg ?_ | with_reducible refine EX_str ?_ | with_reducible refine EX_none ?_ | with_reducible refine EX_bool ?_ | with_reducible refine OP_add ?_ | with_reducible refine OP_sub ?_ | with_reducible refine OP_or ?_ | with_reducible refine OP_and ?_ | with_reducible refine OP_lt ?_ | with_reducible refine OP_gt ?_ | with_reducible refine OP_ge ?_ | with_reducible refine OP_eqi ?_ | with_reducible refine OP_nei ?_ | refine EX_name (by rfl) (by rfl) ?_)
  have h2 : (m >>> i) / 2 < m >>> i := Nat.div_lt_self hpos (by decide)
  refine ⟨rfl, SX_nil ⟨fun _ => ⟨m >>> (i + 1), ?_, i + 1, rfl, ?_, ?_, rfl⟩, fun d e => nomatch e⟩⟩
  · rw [shr_succ]; exact h2
  · rw [shr_succ, Nat.add_assoc]; exact Nat.le_trans (Nat.add_le_add_left (Nat.add_comm 1 _ ▸ h2) i) hi
  · rw [shr1, ← shr_succ]; rfl
theorem bits_turn {m : Nat} {b : Addr} {i : Nat} {P : Fl → Loc → GH → Prop} (hm : m < 2 ^ 1000) (hi : i + (m >>> i) ≤ m) (hpos : 0 < m >>> i) :
    SX prog w K 0 (scopeF (stT 6)) tab_bits (bitR m b i) (G.put b (.list (bitL m i))) (subB (bodyF (stT 6))[3]?) (whbQ (BitJ m b G) (m >>> i) P) := by
  refine SX_next (S1_if (TX_cmp ?_))
  repeat (first | with_reducible refine EX_bin ?_ | with_reducible refine EX_int ?_ | with_reducible refine EX_neg ?_ | with_reducible refine EX_str ?_ | with_reducible refine EX_none ?_ | with_reducible refine EX_bool ?_ | with_reducible refine OP_add ?_ | with_reducible refine OP_sub ?_ | with_reducible refine OP_or ?_ | with_reducible refine OP_and ?_ | with_reducible refine OP_lt ?_ | with_reducible refine OP_gt ?_ | with_reducible refine OP_ge ?_ | with_reducible refine OP_eqi ?_ | with_reducible refine OP_nei ?_ | refine EX_name (by rfl) (by rfl) ?_)
  rw [band1, testBit_shr]
  refine ⟨_, rfl, fun hc2 => ?_, fun hc2 => ?_⟩
  · refine SX_next (S1_expr (EX_methB PySem.F.slot_list_append PySem.F.plainAttrs_list PySem.F.type_list_append (EX_name (by rfl) (by rfl) ⟨.lst (.live GH.put_self), EX_name (by rfl) (by rfl) (OP_append GH.put_self ?_ ⟨rfl, rfl, SX_nil ⟨rfl, ?_⟩⟩)⟩)))
    · unfold bitL
      rw [List.length_map]
      refine Nat.lt_of_le_of_lt (List.length_filter_le _ _) ?_
      rw [List.length_range]
      exact Nat.lt_trans (few_bits hm hpos) (by decide)
    · rw [put_put]
      have : bitL m i ++ [.int (i : Nat)] = bitL m (i + 1) := by unfold bitL; rw [range_filter_succ, if_pos hc2, List.map_append]; rfl
      rw [this]; exact bits_rest hi hpos
  · refine SX_nil ⟨rfl, ?_⟩
    have : bitL m i = bitL m (i + 1) := by unfold bitL; rw [range_filter_succ, if_neg (by rw [hc2]; decide)]
    rw [this]; exact bits_rest hi hpos
theorem w_bits (X : Ctx w K a) (m : Nat) (hm : m < 2 ^ 1000) (q : ∀ N, m < 2 ^ N → Q (.list (((List.range N).filter m.testBit).map fun i => .int (i : Nat))) G) : FN prog w K 1 G a.bits [.int m] Q := by
  refine FN.retL (X.d_bits.fn X.ok (by rfl) (by rfl) ?_)
  show SX _ _ _ _ _ _ [some (.int m), none, none, none] _ _ _
  refine SX_next (S1_name (by rfl) (tab_inj (by rfl)) (EX_listG ⟨by decide, fun b hb => ⟨rfl, ?_⟩⟩))
  refine SX_next (S1_name (by rfl) (tab_inj (by rfl)) (EX_int ⟨rfl, ?_⟩))
  refine SX_next (S1_name (by rfl) (tab_inj (by rfl)) (EX_name (by rfl) (by rfl) ⟨rfl, ?_⟩))
  refine SX_next (S1_while (BitJ m b G) m ⟨0, rfl, by rw [Nat.zero_add]; exact Nat.le_refl _, rfl, rfl⟩ fun k ρ G' ⟨i, hk, hi, hρ, hG⟩ => ?_)
  subst hρ; subst hG; subst hk
  refine TX_cmp ?_
  repeat (first | with_reducible refine EX_bin ?_ | with_reducible refine EX_int ?_ | with_reducible refine EX_neg ?_ | with_reducible refine EX_str ?_ | with_reducible refine EX_none ?_ | with_reducible refine EX_bool ?_ | with_reducible refine OP_add ?_ | with_reducible refine OP_sub ?_ | with_reducible refine OP_or ?_ | with_reducible refine OP_and ?_ | with_reducible refine OP_lt ?_ | with_reducible refine OP_gt ?_ | with_reducible refine OP_ge ?_ | with_reducible refine OP_eqi ?_ | with_reducible refine OP_nei ?_ | refine EX_name (by rfl) (by rfl) ?_)
  refine ⟨_, rfl, fun hc => ?_, fun hc => ?_⟩
  · exact bits_turn hm hi (Int.ofNat_lt.mp (of_decide_eq_true hc))
  · have h0 : m >>> i = 0 := Nat.eq_zero_of_not_pos fun h => of_decide_eq_false hc (Int.ofNat_lt.mpr h)
    refine ⟨rfl, SX_cons (S1_return (EX_name (by rfl) (by rfl) ⟨fun e => (nomatch e), fun d e => ⟨fun e2 => (nomatch e2), fun d' e' => ?_⟩⟩))⟩
    cases e'
    cases e
    refine ⟨b, _, rfl, hb, rfl, q i ?_⟩
    rw [Nat.shiftRight_eq_div_pow] at h0
    by_cases z : m < 2 ^ i
    · exact z
    · have := Nat.div_pos (Nat.le_of_not_lt z) (Nat.pow_pos (n := i) (by decide : 0 < 2))
      rw [h0] at this
      exact (Nat.lt_irrefl 0 this).elim
end
structure Gr where
  names : List Str
  tc : Nat
  rules : List (Nat × List Nat × Int)
  start : Nat
noncomputable def offL : List (Nat × List Nat × Int) → Nat → List Nat
  | [], _ => []
  | r :: rs, k => k :: offL rs (k + r.2.1.length + 1)
noncomputable def ownL : List (Nat × List Nat × Int) → Nat → List Nat
  | [], _ => []
  | r :: rs, i => List.replicate (r.2.1.length + 1) i ++ ownL rs (i + 1)
noncomputable def rulesOf (rs : List (Nat × List Nat × Int)) (x : Nat) : List Nat := (List.range rs.length).filter fun i => (rs.getD i (0, [], 0)).1 == x
noncomputable def intL (l : List Nat) : List D := l.map fun i => .int (i : Nat)
noncomputable def ruleD (a : Ad) (i : Nat) (r : Nat × List Nat × Int) : D := .obj a.Rule [("number", .int (i : Nat)), ("left", .int (r.1 : Nat)), ("right", .tup (intL r.2.1)), ("level_of", .int r.2.2), ("action", .none), ("line", .int 0), ("before", .int 0)]
noncomputable def Gr.fs (a : Ad) (g : Gr) : List (Str × D) := [("names", .list (g.names.map .str)), ("terminal_count", .int (g.tc : Nat)), ("rules", .list (g.rules.mapIdx (ruleD a))), ("levels", .dict []), ("expect", .none), ("start", .int (g.start : Nat)),
  ("by_left", .list ((List.range g.names.length).map fun x => .list (intL (rulesOf g.rules x)))), ("offsets", .list (intL (offL g.rules 0))), ("owners", .list (intL (ownL g.rules 0))), ("item_count", .int ((ownL g.rules 0).length : Nat))]
noncomputable def Gr.d (a : Ad) (g : Gr) : D := .obj a.Grammar (g.fs a)
noncomputable def Gr.off (g : Gr) (r : Nat) : Nat := (offL g.rules 0).getD r 0
noncomputable def Gr.right (g : Gr) (r : Nat) : List Nat := (g.rules.getD r (0, [], 0)).2.1
noncomputable def Gr.left (g : Gr) (r : Nat) : Nat := (g.rules.getD r (0, [], 0)).1
noncomputable def Gr.nx (g : Gr) (r d : Nat) : Int := match (g.right r)[d]? with | some x => (x : Int) | none => -1
structure Gr.Ok (g : Gr) : Prop where
  nr : g.rules.length ≤ 8
  rl : ∀ r ∈ g.rules, r.2.1.length ≤ 3
  ns : g.names.length ≤ 32
  lt : ∀ r ∈ g.rules, r.1 < g.names.length ∧ ∀ x ∈ r.2.1, x < g.names.length
  tc : g.tc ≤ g.names.length
noncomputable def Gr.It (g : Gr) (r d : Nat) : Prop := r < g.rules.length ∧ d ≤ (g.right r).length

theorem offL_len : ∀ (rs : List (Nat × List Nat × Int)) (k : Nat), (offL rs k).length = rs.length
  | [], _ => rfl
  | r :: rs, k => by rw [offL, List.length_cons, List.length_cons, offL_len rs]
theorem own_off : ∀ (rs : List (Nat × List Nat × Int)) (k i r d : Nat), r < rs.length → d ≤ (rs.getD r (0, [], 0)).2.1.length → ∃ o, (offL rs k)[r]? = some (k + o) ∧ (ownL rs i)[o + d]? = some (i + r)
  | [], _, _, _, _, h, _ => by simp at h
  | q :: rs, k, i, 0, d, _, hd => by
    have hd' : d < q.2.1.length + 1 := Nat.lt_succ_of_le hd
    refine ⟨0, rfl, ?_⟩
    rw [ownL, Nat.zero_add, List.getElem?_append_left (by rw [List.length_replicate]; exact hd'), List.getElem?_replicate, if_pos hd']; rfl
  | q :: rs, k, i, r + 1, d, h, hd => by
    obtain ⟨o, h1, h2⟩ := own_off rs (k + q.2.1.length + 1) (i + 1) r d (by simpa using h) hd
    refine ⟨q.2.1.length + 1 + o, ?_, ?_⟩
    · rw [offL, List.getElem?_cons_succ, h1]; congr 1; (first | with_reducible assumption | exact Nat.lt_of_lt_of_le (by assumption) (by decide) | exact Nat.lt_of_le_of_lt (by assumption) (by decide) | lia | omega)
    · rw [ownL, List.getElem?_append_right (by rw [List.length_replicate]; (first | with_reducible assumption | exact Nat.lt_of_lt_of_le (by assumption) (by decide) | exact Nat.lt_of_le_of_lt (by assumption) (by decide) | lia | omega)), List.length_replicate, show q.2.1.length + 1 + o + d - (q.2.1.length + 1) = o + d by (first | with_reducible assumption | exact Nat.lt_of_lt_of_le (by assumption) (by decide) | exact Nat.lt_of_le_of_lt (by assumption) (by decide) | lia | omega), h2]; congr 1; (first | with_reducible assumption | exact Nat.lt_of_lt_of_le (by assumption) (by decide) | exact Nat.lt_of_le_of_lt (by assumption) (by decide) | lia | omega)
theorem Gr.own_at {g : Gr} {r d : Nat} (h : g.It r d) : (offL g.rules 0)[r]? = some (g.off r) ∧ (ownL g.rules 0)[g.off r + d]? = some r := by
  obtain ⟨o, h1, h2⟩ := own_off g.rules 0 0 r d h.1 h.2
  have e : g.off r = o := by unfold Gr.off; rw [List.getD_eq_getElem?_getD, h1, Nat.zero_add]; rfl
  rw [e]
  exact ⟨by rw [h1, Nat.zero_add], by rw [h2, Nat.zero_add]⟩
theorem ownL_len : ∀ (rs : List (Nat × List Nat × Int)) (i m : Nat), (∀ r ∈ rs, r.2.1.length ≤ m) → (ownL rs i).length ≤ rs.length * (m + 1)
  | [], _, _, _ => by simp [ownL]
  | r :: rs, i, m, h => by
    have h1 := ownL_len rs (i + 1) m fun q hq => h q (.tail _ hq)
    have h2 := h r (.head _)
    rw [ownL, List.length_append, List.length_replicate, List.length_cons, Nat.succ_mul]; (first | with_reducible assumption | exact Nat.lt_of_lt_of_le (by assumption) (by decide) | exact Nat.lt_of_le_of_lt (by assumption) (by decide) | lia | omega)
theorem Gr.Ok.own {g : Gr} (h : g.Ok) : (ownL g.rules 0).length ≤ 32 := by
  have := ownL_len g.rules 0 3 h.rl
  have := h.nr
  (first | with_reducible assumption | exact Nat.lt_of_lt_of_le (by assumption) (by decide) | exact Nat.lt_of_le_of_lt (by assumption) (by decide) | lia | omega)
theorem Gr.It.bound {g : Gr} {r d : Nat} (h : g.It r d) (ok : g.Ok) : g.off r + d < 32 := by
  have := (List.getElem?_eq_some_iff.mp (Gr.own_at h).2).1
  have := ok.own
  (first | with_reducible assumption | exact Nat.lt_of_lt_of_le (by assumption) (by decide) | exact Nat.lt_of_le_of_lt (by assumption) (by decide) | lia | omega)
theorem item_nat {l : List Nat} {i x : Nat} (h : l[i]? = some x) : itemAt (intL l) (i : Nat) = some (.int (x : Nat)) := by
  unfold itemAt intL
  rw [if_pos (Int.natCast_nonneg _), Int.toNat_natCast, List.getElem?_map, h]; rfl

section
variable {prog : Program} {w : World} {K : Frag} {a : Ad} {n : Nat} {sc : Scope} {tab : Tab} {ρ : Loc} {G : GH} {Q : D → GH → Prop} {g : Gr}

theorem w_count (X : Ctx w K a) (ok : g.Ok) (q : Q (.int (g.names.length : Nat)) G) : FN prog w K 1 G a.grCount [g.d a] Q := by
  refine X.d_grCount.fn X.ok (by rfl) (by rfl) ?_
  show SX _ _ _ _ _ _ [some (g.d a)] _ _ _
  refine SX_ret (EX_call (X.cb (by rfl) (by rfl) (by rfl)) (.builtin _) (EX_attr (EX_name (by rfl) (by rfl) ⟨_, _, _, .frozen, X.c_Grammar, X.a_Grammar _ (by decide), by rfl, ?_⟩)))
  refine OP_len .list (by rw [List.length_map]; have := ok.ns; (first | with_reducible assumption | exact Nat.lt_of_lt_of_le (by assumption) (by decide) | exact Nat.lt_of_le_of_lt (by assumption) (by decide) | lia | omega)) ?_
  rw [List.length_map]; exact q

theorem item_at {r d : Nat} (h : g.It r d) (ok : g.Ok) : itemAt (intL (offL g.rules 0)) (r : Nat) = some (.int (g.off r : Nat)) := item_nat (Gr.own_at h).1
theorem own_item {r d : Nat} (h : g.It r d) (ok : g.Ok) : itemAt (intL (ownL g.rules 0)) ((g.off r + d : Nat) : Int) = some (.int (r : Nat)) := item_nat (Gr.own_at h).2
theorem w_item (X : Ctx w K a) (ok : g.Ok) {r d : Nat} (h : g.It r d) (q : Q (.int (g.off r + d : Nat)) G) : FN prog w K 1 G a.grItem [g.d a, .int (r : Nat), .int (d : Nat)] Q := by
  refine X.d_grItem.fn X.ok (by rfl) (by rfl) ?_
  show SX _ _ _ _ _ _ [some (g.d a), some (.int (r : Nat)), some (.int (d : Nat))] _ _ _
  have hr := h.1
  have := ok.nr
  refine SX_ret (EX_bin (EX_index (EX_attr (EX_name (by rfl) (by rfl) ⟨_, _, _, .frozen, X.c_Grammar, X.a_Grammar _ (by decide), by rfl, EX_name (by rfl) (by rfl) ⟨_, _, _, .list, rfl, by (first | with_reducible assumption | exact Nat.lt_of_lt_of_le (by assumption) (by decide) | exact Nat.lt_of_le_of_lt (by assumption) (by decide) | lia | omega), item_at h ok, ?_⟩⟩))))
  repeat (first | with_reducible refine EX_bin ?_ | with_reducible refine EX_int ?_ | with_reducible refine EX_neg ?_ | with_reducible refine EX_str ?_ | with_reducible refine EX_none ?_ | with_reducible refine EX_bool ?_ | with_reducible refine OP_add ?_ | with_reducible refine OP_sub ?_ | with_reducible refine OP_or ?_ | with_reducible refine OP_and ?_ | with_reducible refine OP_lt ?_ | with_reducible refine OP_gt ?_ | with_reducible refine OP_ge ?_ | with_reducible refine OP_eqi ?_ | with_reducible refine OP_nei ?_ | refine EX_name (by rfl) (by rfl) ?_)
  exact q
theorem w_rule (X : Ctx w K a) (ok : g.Ok) {r d : Nat} (h : g.It r d) (q : Q (.int (r : Nat)) G) : FN prog w K 1 G a.grRule [g.d a, .int (g.off r + d : Nat)] Q := by
  refine X.d_grRule.fn X.ok (by rfl) (by rfl) ?_
  show SX _ _ _ _ _ _ [some (g.d a), some (.int (g.off r + d : Nat))] _ _ _
  have hb := h.bound ok
  refine SX_ret (EX_index (EX_attr (EX_name (by rfl) (by rfl) ⟨_, _, _, .frozen, X.c_Grammar, X.a_Grammar _ (by decide), by rfl, EX_name (by rfl) (by rfl) ⟨_, _, _, .list, rfl, by (first | with_reducible assumption | exact Nat.lt_of_lt_of_le (by assumption) (by decide) | exact Nat.lt_of_le_of_lt (by assumption) (by decide) | lia | omega), own_item h ok, q⟩⟩)))
theorem w_dot (X : Ctx w K a) (ok : g.Ok) {r d : Nat} (h : g.It r d) (q : Q (.int (d : Nat)) G) : FN prog w K 1 G a.grDot [g.d a, .int (g.off r + d : Nat)] Q := by
  refine X.d_grDot.fn X.ok (by rfl) (by rfl) ?_
  show SX _ _ _ _ _ _ [some (g.d a), some (.int (g.off r + d : Nat))] _ _ _
  have hb := h.bound ok
  have hr := h.1
  have := ok.nr
  refine SX_ret (EX_bin (EX_name (by rfl) (by rfl) (EX_index (EX_attr (EX_name (by rfl) (by rfl) ⟨_, _, _, .frozen, X.c_Grammar, X.a_Grammar _ (by decide), by rfl,
    EX_index (EX_attr (EX_name (by rfl) (by rfl) ⟨_, _, _, .frozen, X.c_Grammar, X.a_Grammar _ (by decide), by rfl, EX_name (by rfl) (by rfl) ⟨_, _, _, .list, rfl, by (first | with_reducible assumption | exact Nat.lt_of_lt_of_le (by assumption) (by decide) | exact Nat.lt_of_le_of_lt (by assumption) (by decide) | lia | omega), own_item h ok, ⟨_, _, _, .list, rfl, by (first | with_reducible assumption | exact Nat.lt_of_lt_of_le (by assumption) (by decide) | exact Nat.lt_of_le_of_lt (by assumption) (by decide) | lia | omega), item_at h ok, ?_⟩⟩⟩))⟩)))))
  refine OP_sub ?_
  have e : ((g.off r + d : Nat) : Int) - (g.off r : Nat) = (d : Nat) := by (first | with_reducible assumption | exact Nat.lt_of_lt_of_le (by assumption) (by decide) | exact Nat.lt_of_le_of_lt (by assumption) (by decide) | lia | omega)
  rw [e]; exact q
theorem rule_item {r d : Nat} (h : g.It r d) : itemAt (g.rules.mapIdx (ruleD a)) (r : Nat) = some (ruleD a r (g.rules.getD r (0, [], 0))) := by
  unfold itemAt
  rw [if_pos (Int.natCast_nonneg _), Int.toNat_natCast, List.getElem?_mapIdx, List.getElem?_eq_getElem h.1, List.getD_eq_getElem?_getD, List.getElem?_eq_getElem h.1]; rfl
theorem w_after (X : Ctx w K a) (ok : g.Ok) {r d : Nat} (h : g.It r d) (q : Q (.int (g.nx r d)) G) : FN prog w K 1 G a.grAfter [g.d a, .int (g.off r + d : Nat)] Q := by
  refine X.d_grAfter.fn X.ok (by rfl) (by rfl) ?_
  show SX _ _ _ _ _ _ [some (g.d a), some (.int (g.off r + d : Nat)), none, none] _ _ _
  have hb := h.bound ok
  have hr := h.1
  have := ok.nr
  refine SX_next (S1_name (by rfl) (tab_inj (by rfl)) ?_)
  refine EX_attr (EX_index (EX_attr (EX_name (by rfl) (by rfl) ⟨_, _, _, .frozen, X.c_Grammar, X.a_Grammar _ (by decide), by rfl,
    EX_index (EX_attr (EX_name (by rfl) (by rfl) ⟨_, _, _, .frozen, X.c_Grammar, X.a_Grammar _ (by decide), by rfl, EX_name (by rfl) (by rfl) ⟨_, _, _, .list, rfl, by (first | with_reducible assumption | exact Nat.lt_of_lt_of_le (by assumption) (by decide) | exact Nat.lt_of_le_of_lt (by assumption) (by decide) | lia | omega), own_item h ok, ⟨_, _, _, .list, rfl, by (first | with_reducible assumption | exact Nat.lt_of_lt_of_le (by assumption) (by decide) | exact Nat.lt_of_le_of_lt (by assumption) (by decide) | lia | omega), rule_item h,
      ⟨_, _, _, .frozen, X.c_Rule, X.a_Rule _ (by decide), by rfl, rfl, ?_⟩⟩⟩⟩))⟩)))
  refine SX_next (S1_name (by rfl) (tab_inj (by rfl)) ?_)
  refine EX_bin (EX_name (by rfl) (by rfl) (EX_index (EX_attr (EX_name (by rfl) (by rfl) ⟨_, _, _, .frozen, X.c_Grammar, X.a_Grammar _ (by decide), by rfl,
    EX_index (EX_attr (EX_name (by rfl) (by rfl) ⟨_, _, _, .frozen, X.c_Grammar, X.a_Grammar _ (by decide), by rfl, EX_name (by rfl) (by rfl) ⟨_, _, _, .list, rfl, by (first | with_reducible assumption | exact Nat.lt_of_lt_of_le (by assumption) (by decide) | exact Nat.lt_of_le_of_lt (by assumption) (by decide) | lia | omega), own_item h ok, ⟨_, _, _, .list, rfl, by (first | with_reducible assumption | exact Nat.lt_of_lt_of_le (by assumption) (by decide) | exact Nat.lt_of_le_of_lt (by assumption) (by decide) | lia | omega), item_at h ok, ?_⟩⟩⟩))⟩))))
  refine OP_sub ⟨rfl, ?_⟩
  have e : ((g.off r + d : Nat) : Int) - (g.off r : Nat) = (d : Nat) := by (first | with_reducible assumption | exact Nat.lt_of_lt_of_le (by assumption) (by decide) | exact Nat.lt_of_le_of_lt (by assumption) (by decide) | lia | omega)
  rw [e]
  have hrl : (g.right r).length ≤ 3 := ok.rl _ (by rw [List.getD_eq_getElem?_getD, List.getElem?_eq_getElem h.1]; exact List.getElem_mem _)
  refine SX_ret (EX_ite (TX_cmp (EX_name (by rfl) (by rfl) (EX_call (X.cb (by rfl) (by rfl) (by rfl)) (.builtin _) (EX_name (by rfl) (by rfl) (OP_len .tup ?_ (OP_lt ⟨_, rfl, fun hc => ?_, fun hc => ?_⟩)))))))
  · show (intL (g.right r)).length < _
    rw [intL, List.length_map]; (first | with_reducible assumption | exact Nat.lt_of_lt_of_le (by assumption) (by decide) | exact Nat.lt_of_le_of_lt (by assumption) (by decide) | lia | omega)
  · have hc := of_decide_eq_true hc
    have hl : d < (g.right r).length := by rw [intL, List.length_map] at hc; exact Int.ofNat_lt.mp hc
    refine EX_index (EX_name (by rfl) (by rfl) (EX_name (by rfl) (by rfl) ⟨_, _, _, .tup, rfl, by (first | with_reducible assumption | exact Nat.lt_of_lt_of_le (by assumption) (by decide) | exact Nat.lt_of_le_of_lt (by assumption) (by decide) | lia | omega), item_nat (List.getElem?_eq_getElem hl), ?_⟩))
    have : g.nx r d = ((g.right r)[d] : Nat) := by unfold Gr.nx; rw [List.getElem?_eq_getElem hl]
    rw [this] at q
    exact q
  · have hc := of_decide_eq_false hc
    have hl : (g.right r).length ≤ d := by rw [intL, List.length_map] at hc; exact Nat.le_of_not_lt fun z => hc (Int.ofNat_lt.mpr z)
    refine EX_neg ?_
    have : g.nx r d = -1 := by unfold Gr.nx; rw [List.getElem?_eq_none hl]
    rw [this] at q
    exact q
theorem w_rules (X : Ctx w K a) (ok : g.Ok) {x : Nat} (hx : x < g.names.length) (q : Q (.list (intL (rulesOf g.rules x))) G) : FN prog w K 1 G a.grRules [g.d a, .int (x : Nat)] Q := by
  refine X.d_grRules.fn X.ok (by rfl) (by rfl) ?_
  show SX _ _ _ _ _ _ [some (g.d a), some (.int (x : Nat))] _ _ _
  have hi : itemAt ((List.range g.names.length).map fun x => D.list (intL (rulesOf g.rules x))) (x : Nat) = some (.list (intL (rulesOf g.rules x))) := by
    unfold itemAt
    rw [if_pos (Int.natCast_nonneg _), Int.toNat_natCast, List.getElem?_map, List.getElem?_range hx]; rfl
  have hl : (intL (rulesOf g.rules x)).length ≤ 8 := by
    rw [intL, List.length_map]
    refine Nat.le_trans (List.length_filter_le _ _) ?_
    rw [List.length_range]; exact ok.nr
  have := ok.ns
  refine SX_ret (EX_call (X.cb (by rfl) (by rfl) (by rfl)) (.type _) (EX_index (EX_attr (EX_name (by rfl) (by rfl) ⟨_, _, _, .frozen, X.c_Grammar, X.a_Grammar _ (by decide), by rfl, EX_name (by rfl) (by rfl) ⟨_, _, _, .list, rfl, by (first | with_reducible assumption | exact Nat.lt_of_lt_of_le (by assumption) (by decide) | exact Nat.lt_of_le_of_lt (by assumption) (by decide) | lia | omega), hi, ?_⟩⟩))))
  exact OP_list .list (by (first | with_reducible assumption | exact Nat.lt_of_lt_of_le (by assumption) (by decide) | exact Nat.lt_of_le_of_lt (by assumption) (by decide) | lia | omega)) q
theorem w_term (X : Ctx w K a) {x : Nat} (q : Q (.bool (decide (x < g.tc))) G) : FN prog w K 1 G a.grTerm [g.d a, .int (x : Nat)] Q := by
  refine X.d_grTerm.fn X.ok (by rfl) (by rfl) ?_
  show SX _ _ _ _ _ _ [some (g.d a), some (.int (x : Nat))] _ _ _
  refine SX_ret (EX_cmp (EX_name (by rfl) (by rfl) (EX_attr (EX_name (by rfl) (by rfl) ⟨_, _, _, .frozen, X.c_Grammar, X.a_Grammar _ (by decide), by rfl, OP_lt ?_⟩))))
  have : decide ((x : Int) < (g.tc : Nat)) = decide (x < g.tc) := by congr 1; exact propext Int.ofNat_lt
  rw [this]; exact q
end
theorem bnot_nonneg (x : Nat) : ¬ (0 ≤ Builtin.bitNot (x : Int)) := by show ¬ (0 ≤ -(x : Int) - 1); (first | with_reducible assumption | exact Nat.lt_of_lt_of_le (by assumption) (by decide) | exact Nat.lt_of_le_of_lt (by assumption) (by decide) | lia | omega)
theorem bnot_bnot (x : Int) : Builtin.bitNot (Builtin.bitNot x) = x := by show -(-x - 1) - 1 = x; (first | with_reducible assumption | exact Nat.lt_of_lt_of_le (by assumption) (by decide) | exact Nat.lt_of_le_of_lt (by assumption) (by decide) | lia | omega)
theorem bor_nat (x y : Nat) : Builtin.bitOr (x : Int) (y : Int) = ((x ||| y : Nat) : Int) := by
  unfold Builtin.bitOr Builtin.bitAnd
  simp only [decide_eq_false (bnot_nonneg x), decide_eq_false (bnot_nonneg y), bnot_bnot, Int.toNat_natCast]
theorem shr_nat (x k : Nat) : ((x : Nat) : Int).fdiv (2 ^ ((k : Nat) : Int).toNat) = ((x >>> k : Nat) : Int) := by
  rw [Int.toNat_natCast, Nat.shiftRight_eq_div_pow, Int.fdiv_eq_ediv_of_nonneg _ (Int.pow_nonneg (by decide))]
  rw [Int.natCast_ediv, Int.natCast_pow]; rfl
theorem shl_one (k : Nat) : (1 : Int) * 2 ^ ((k : Nat) : Int).toNat = ((2 ^ k : Nat) : Int) := by
  rw [Int.toNat_natCast, Int.one_mul, Int.natCast_pow]; rfl

noncomputable def warIn (m : Nat) (fs : List Nat) : Nat → List Nat
  | 0 => fs
  | k + 1 => let l := warIn m fs k; if (l.getD k 0).testBit m then l.set k (l.getD k 0 ||| l.getD m 0) else l
noncomputable def war (rows : List Nat) : Nat → List Nat
  | 0 => rows
  | k + 1 => warIn k (war rows k) rows.length
theorem warIn_succ (m : Nat) (fs : List Nat) (k : Nat) : warIn m fs (k + 1) = if ((warIn m fs k).getD k 0).testBit m then (warIn m fs k).set k ((warIn m fs k).getD k 0 ||| (warIn m fs k).getD m 0) else warIn m fs k := rfl
theorem warIn_len (m : Nat) (fs : List Nat) : ∀ k, (warIn m fs k).length = fs.length
  | 0 => rfl
  | k + 1 => by
    unfold warIn
    dsimp only
    split
    · rw [List.length_set]; exact warIn_len m fs k
    · exact warIn_len m fs k
theorem war_len (rows : List Nat) : ∀ k, (war rows k).length = rows.length
  | 0 => rfl
  | k + 1 => by rw [war, warIn_len, war_len rows k]
theorem range_item {k i : Nat} {d : D} (h : ((List.range k).map fun i => D.int (i : Nat))[i]? = some d) : d = .int (i : Nat) ∧ i < k := by
  rw [List.getElem?_map] at h
  cases z : (List.range k)[i]? with
  | none => rw [z] at h; cases h
  | some j =>
    rw [z] at h
    obtain ⟨h1, h2⟩ := List.getElem?_eq_some_iff.mp z
    rw [List.getElem_range] at h2
    subst h2
    cases h
    exact ⟨rfl, by simpa using h1⟩
theorem intL_len (l : List Nat) : (intL l).length = l.length := by rw [intL, List.length_map]
theorem getD_item {l : List Nat} {i : Nat} (h : i < l.length) : itemAt (intL l) (i : Nat) = some (.int (l.getD i 0 : Nat)) := by
  rw [item_nat (List.getElem?_eq_getElem h), List.getD_eq_getElem?_getD, List.getElem?_eq_getElem h]; rfl
theorem intL_set (l : List Nat) (i x : Nat) : (intL l).set i (.int (x : Nat)) = intL (l.set i x) := by
  unfold intL; rw [List.map_set]

section
variable {prog : Program} {w : World} {K : Frag} {a : Ad} {n : Nat} {sc : Scope} {tab : Tab} {ρ : Loc} {G : GH} {Q : D → GH → Prop} {g : Gr}

theorem w_tr (X : Ctx w K a) {dr : D} {rows : List Nat} (hr : LstD G dr (intL rows)) (hz : rows.length ≤ 64) (q : Q (.list (intL (war rows rows.length))) G) : FN prog w K 1 G a.tr [dr] Q := by
  refine FN.retL (X.d_tr.fn X.ok (by rfl) (by rfl) ?_)
  show SX _ _ _ _ _ _ [some dr, none, none, none] _ _ _
  refine SX_next (S1_name (by rfl) (tab_inj (by rfl)) (EX_call (X.cb (by rfl) (by rfl) (by rfl)) (.type _) (EX_name (by rfl) (by rfl) (OP_listG (.inl hr) (by rw [intL_len]; (first | with_reducible assumption | exact Nat.lt_of_lt_of_le (by assumption) (by decide) | exact Nat.lt_of_le_of_lt (by assumption) (by decide) | lia | omega)) fun b hb => ⟨rfl, ?_⟩))))
  let J1 : Nat → Loc → GH → Prop := fun i => Ex2 (fun d2 d3 => [some dr, some (.ref b), d2, d3]) (G.put b (.list (intL (war rows i))))
  have hlen : ∀ i, (intL (war rows i)).length = rows.length := fun i => by rw [intL_len, war_len]
  refine SX_seq (J1 rows.length) (S1_for (SRC_range (X.cb (by rfl) (by rfl) (by rfl)) (EX_call (X.cb (by rfl) (by rfl) (by rfl)) (.builtin _) (EX_name (by rfl) (by rfl) (OP_len (.live GH.put_self) (by rw [intL_len]; (first | with_reducible assumption | exact Nat.lt_of_lt_of_le (by assumption) (by decide) | exact Nat.lt_of_le_of_lt (by assumption) (by decide) | lia | omega)) ⟨rows.length, by rw [intL_len], by (first | with_reducible assumption | exact Nat.lt_of_lt_of_le (by assumption) (by decide) | exact Nat.lt_of_le_of_lt (by assumption) (by decide) | lia | omega), ?_⟩))))) ?_
  · refine ForX_ind J1 (fun i d ρ G' hi hJ => ?_) (fun ρ G' hJ => ⟨rfl, by simpa using hJ⟩) ⟨none, none, rfl, rfl⟩
    obtain ⟨rfl, hik⟩ := range_item hi
    obtain ⟨d2, d3, rfl, rfl⟩ := hJ
    refine AX_name (by rfl) (tab_inj (by rfl)) ?_
    show SX _ _ _ _ _ _ [some dr, some (.ref b), some (.int (i : Nat)), d3] _ _ _
    let J2 : Nat → Loc → GH → Prop := fun j => Ex1 (fun d3 => [some dr, some (.ref b), some (.int (i : Nat)), d3]) (G.put b (.list (intL (warIn i (war rows i) j))))
    refine SX_seq (J2 rows.length) (S1_for (SRC_range (X.cb (by rfl) (by rfl) (by rfl)) (EX_call (X.cb (by rfl) (by rfl) (by rfl)) (.builtin _) (EX_name (by rfl) (by rfl) (OP_len (.live GH.put_self) (by rw [hlen]; (first | with_reducible assumption | exact Nat.lt_of_lt_of_le (by assumption) (by decide) | exact Nat.lt_of_le_of_lt (by assumption) (by decide) | lia | omega)) ⟨rows.length, by rw [hlen], by (first | with_reducible assumption | exact Nat.lt_of_lt_of_le (by assumption) (by decide) | exact Nat.lt_of_le_of_lt (by assumption) (by decide) | lia | omega), ?_⟩))))) ?_
    · refine ForX_ind J2 (fun j d ρ G' hj hJ => ?_) (fun ρ G' hJ => ⟨rfl, by simpa using hJ⟩) ⟨d3, rfl, rfl⟩
      obtain ⟨rfl, hjk⟩ := range_item hj
      obtain ⟨d3, rfl, rfl⟩ := hJ
      refine AX_name (by rfl) (tab_inj (by rfl)) ?_
      show SX _ _ _ _ _ _ [some dr, some (.ref b), some (.int (i : Nat)), some (.int (j : Nat))] _ _ _
      have hl2 : (warIn i (war rows i) j).length = rows.length := by rw [warIn_len, war_len]
      have hl2' : (intL (warIn i (war rows i) j)).length = rows.length := by rw [intL_len, hl2]
      have ij := getD_item (l := warIn i (war rows i) j) (i := j) (by rw [hl2]; exact hjk)
      have ii := getD_item (l := warIn i (war rows i) j) (i := i) (by rw [hl2]; exact hik)
      refine SX_next (S1_if (TX_cmp (EX_bin (EX_bin (EX_index (EX_name (by rfl) (by rfl) (EX_name (by rfl) (by rfl) ⟨_, _, _, .live GH.put_self, rfl, by (first | with_reducible assumption | exact Nat.lt_of_lt_of_le (by assumption) (by decide) | exact Nat.lt_of_le_of_lt (by assumption) (by decide) | lia | omega), ij, ?_⟩)))))))
      repeat (first | with_reducible refine EX_bin ?_ | with_reducible refine EX_int ?_ | with_reducible refine EX_neg ?_ | with_reducible refine EX_str ?_ | with_reducible refine EX_none ?_ | with_reducible refine EX_bool ?_ | with_reducible refine OP_add ?_ | with_reducible refine OP_sub ?_ | with_reducible refine OP_or ?_ | with_reducible refine OP_and ?_ | with_reducible refine OP_lt ?_ | with_reducible refine OP_gt ?_ | with_reducible refine OP_ge ?_ | with_reducible refine OP_eqi ?_ | with_reducible refine OP_nei ?_ | refine EX_name (by rfl) (by rfl) ?_)
      refine OP_shr ?_ (Int.natCast_nonneg _) (Int.natCast_nonneg _)
      repeat (first | with_reducible refine EX_bin ?_ | with_reducible refine EX_int ?_ | with_reducible refine EX_neg ?_ | with_reducible refine EX_str ?_ | with_reducible refine EX_none ?_ | with_reducible refine EX_bool ?_ | with_reducible refine OP_add ?_ | with_reducible refine OP_sub ?_ | with_reducible refine OP_or ?_ | with_reducible refine OP_and ?_ | with_reducible refine OP_lt ?_ | with_reducible refine OP_gt ?_ | with_reducible refine OP_ge ?_ | with_reducible refine OP_eqi ?_ | with_reducible refine OP_nei ?_ | refine EX_name (by rfl) (by rfl) ?_)
      rw [shr_nat, band1, Nat.testBit_shiftRight, Nat.add_zero]
      refine ⟨_, rfl, fun hc => ?_, fun hc => ?_⟩
      · refine SX_next (S1_assign (EX_bin (EX_index (EX_name (by rfl) (by rfl) (EX_name (by rfl) (by rfl) ⟨_, _, _, .live GH.put_self, rfl, by (first | with_reducible assumption | exact Nat.lt_of_lt_of_le (by assumption) (by decide) | exact Nat.lt_of_le_of_lt (by assumption) (by decide) | lia | omega), ij, EX_index (EX_name (by rfl) (by rfl) (EX_name (by rfl) (by rfl) ⟨_, _, _, .live GH.put_self, rfl, by (first | with_reducible assumption | exact Nat.lt_of_lt_of_le (by assumption) (by decide) | exact Nat.lt_of_le_of_lt (by assumption) (by decide) | lia | omega), ii, OP_or ?_⟩))⟩)))) (fun _ _ => swapsWith_plain rfl) (fun _ _ => rfl) rfl)
        rw [bor_nat]
        refine AX_subL (EX_name (by rfl) (by rfl) (EX_name (by rfl) (by rfl) ⟨_, _, _, rfl, GH.put_self, rfl, Int.natCast_nonneg _, by rw [hl2']; exact Int.ofNat_lt.mpr hjk, by (first | with_reducible assumption | exact Nat.lt_of_lt_of_le (by assumption) (by decide) | exact Nat.lt_of_le_of_lt (by assumption) (by decide) | lia | omega), rfl, SX_nil ⟨rfl, SX_nil ⟨fun _ => ⟨_, rfl, ?_⟩, fun _ e => (nomatch e)⟩⟩⟩))
        rw [put_put, Int.toNat_natCast, intL_set]
        rw [warIn_succ, if_pos hc]
      · refine SX_nil ⟨rfl, SX_nil ⟨fun _ => ⟨_, rfl, ?_⟩, fun _ e => (nomatch e)⟩⟩
        rw [warIn_succ, if_neg (by rw [hc]; decide)]
    · rintro ρ₁ G₁ ⟨d3, rfl, rfl⟩
      exact SX_nil ⟨fun _ => ⟨_, _, rfl, rfl⟩, fun _ e => (nomatch e)⟩
  · rintro ρ₁ G₁ ⟨d2, d3, rfl, rfl⟩
    exact SX_ret (EX_name (by rfl) (by rfl) ⟨b, _, rfl, hb, rfl, q⟩)
end
noncomputable def objH (G : GH) (x dx C : Addr) (fs : List (Str × D)) : GH := (G.put dx (.attrs fs)).put x (.inst C dx)
section
variable {G : GH} {x dx C b : Addr} {fs fs' : List (Str × D)} {c : Cell}
theorem objH_x : objH G x dx C fs x = some (.inst C dx) := GH.put_self
theorem objH_dx (h : x ≠ dx) : objH G x dx C fs dx = some (.attrs fs) := by unfold objH; rw [GH.put_ne h.symm]; exact GH.put_self
theorem objH_put (h : x ≠ dx) : (objH G x dx C fs).put dx (.attrs fs') = objH G x dx C fs' := by
  funext b; unfold objH GH.put
  by_cases h1 : b = dx
  · subst h1; rw [if_pos rfl, if_neg (fun z => h z.symm), if_pos rfl]
  · rw [if_neg h1, if_neg h1, if_neg h1]
theorem objH_ne (h1 : b ≠ x) (h2 : b ≠ dx) : objH G x dx C fs b = G b := by unfold objH; rw [GH.put_ne h1, GH.put_ne h2]
theorem objH_fresh (h : objH G x dx C fs b = none) : b ≠ x ∧ b ≠ dx ∧ G b = none := by
  have h1 : b ≠ x := by rintro rfl; rw [objH_x] at h; cases h
  have h2 : b ≠ dx := by
    rintro rfl
    unfold objH at h
    rw [GH.put_ne h1, GH.put_self] at h; cases h
  exact ⟨h1, h2, by rw [objH_ne h1 h2] at h; exact h⟩
theorem put_objH (h1 : b ≠ x) (h2 : b ≠ dx) : (objH G x dx C fs).put b c = objH (G.put b c) x dx C fs := by
  funext z; unfold objH GH.put
  by_cases e1 : z = b
  · subst e1; rw [if_pos rfl, if_neg h1, if_neg h2, if_pos rfl]
  · rw [if_neg e1]
    by_cases e2 : z = x
    · rw [if_pos e2, if_pos e2]
    · rw [if_neg e2, if_neg e2]
      by_cases e3 : z = dx
      · rw [if_pos e3, if_pos e3]
      · rw [if_neg e3, if_neg e3, if_neg e1]
end

section
variable {prog : Program} {w : World} {K : Frag} {a : Ad} {n : Nat} {sc : Scope} {tab : Tab} {ρ : Loc} {G : GH} {Q : D → GH → Prop} {g : Gr}
theorem FN.drop {f : Addr} {ds : List D} (h : FN prog w K n G f ds (fun d G' => ∃ b c G'', G'' b = none ∧ G' = G''.put b c ∧ Q d G'')) : FN prog w K n G f ds Q :=
  FN.melt (h.mono fun d G' ⟨b, c, G'', e1, e2, q⟩ => by
    subst e2
    exact ⟨G'', d, meltG_put e1, .same _, q⟩)
theorem OP_newO {C fI : Addr} {ds : List D} (hN : NewOk K C fI) (h : ∀ x dx, x ≠ dx → G x = none → G dx = none → FN prog w K n (objH G x dx C []) fI (.ref x :: ds) (fun d G' => d = .none ∧ ∃ fs, G' = objH G x dx C fs ∧ Q (.obj C fs) G)) :
    OP prog w K (n + 1) G ds (fun vs => call (.ref C) vs) Q := by
  refine OP.melt (OP_new hN fun x dx hne h1 h2 => (h x dx hne h1 h2).mono fun d G' ⟨e, fs, e2, q⟩ => ⟨e, ?_⟩)
  subst e2
  refine ⟨G, .obj C fs, fun b c'' e => ?_, .objG objH_x h1 (objH_dx hne) h2 (MeltFs.same _), q⟩
  have n1 : b ≠ x := by rintro rfl; rw [h1] at e; cases e
  have n2 : b ≠ dx := by rintro rfl; rw [h2] at e; cases e
  exact ⟨c'', by rw [objH_ne n1 n2]; exact e, .same _⟩

noncomputable def rowsG (g : Gr) : Nat → List Nat
  | 0 => List.replicate g.names.length 0
  | i + 1 => match g.right i with
    | [] => rowsG g i
    | y :: _ => (rowsG g i).set (g.left i) ((rowsG g i).getD (g.left i) 0 ||| 2 ^ y)
theorem rowsG_len (g : Gr) : ∀ i, (rowsG g i).length = g.names.length
  | 0 => List.length_replicate ..
  | i + 1 => by
    unfold rowsG
    split
    · exact rowsG_len g i
    · rw [List.length_set]; exact rowsG_len g i
theorem rowsG_nil {g : Gr} {i : Nat} (h : g.right i = []) : rowsG g (i + 1) = rowsG g i := by rw [rowsG]; rw [h]
theorem rowsG_cons {g : Gr} {i y : Nat} {l : List Nat} (h : g.right i = y :: l) : rowsG g (i + 1) = (rowsG g i).set (g.left i) ((rowsG g i).getD (g.left i) 0 ||| 2 ^ y) := by rw [rowsG]; rw [h]
noncomputable def Gr.firsts (g : Gr) : List Nat := war (rowsG g g.rules.length) g.names.length
noncomputable def Gr.clFs (a : Ad) (g : Gr) : List (Str × D) := [("grammar", g.d a), ("firsts", .list (intL g.firsts))]
noncomputable def Gr.cl (a : Ad) (g : Gr) : D := .obj a.Closer (g.clFs a)
theorem rule_of_item {i : Nat} {d : D} (h : (g.rules.mapIdx (ruleD a))[i]? = some d) : i < g.rules.length ∧ d = ruleD a i (g.rules.getD i (0, [], 0)) := by
  rw [List.getElem?_mapIdx] at h
  cases z : g.rules[i]? with
  | none => rw [z] at h; cases h
  | some r =>
    rw [z] at h; cases h
    refine ⟨(List.getElem?_eq_some_iff.mp z).1, ?_⟩
    rw [List.getD_eq_getElem?_getD, z]; rfl
theorem zeros (k : Nat) : List.replicate k (D.int 0) = intL (List.replicate k 0) := by unfold intL; rw [List.map_replicate]; rfl

theorem w_clInit (X : Ctx w K a) (ok : g.Ok) {x dx : Addr} (hne : x ≠ dx) (q : Q .none (objH G x dx a.Closer (g.clFs a))) : FN prog w K 3 (objH G x dx a.Closer []) a.clInit [.ref x, g.d a] Q := by
  refine FN.drop (X.d_clInit.fn X.ok (by rfl) (by rfl) ?_)
  show SX _ _ _ _ _ _ [some (.ref x), some (g.d a), none, none] _ _ _
  have hns := ok.ns
  have hnr := ok.nr
  refine SX_next (S1_assign (EX_name (by rfl) (by rfl) (AX_attr (EX_name (by rfl) (by rfl) ⟨_, _, _, _, rfl, objH_x, objH_dx hne, X.c_Closer, X.a_Closer _ (by decide), by simp, rfl, ?_⟩))) (fun _ _ => swapsWith_plain rfl) (fun _ _ => rfl) rfl)
  rw [objH_put hne]
  refine SX_next (S1_name (by rfl) (tab_inj (by rfl)) (EX_bin (EX_listF (EX_int ⟨by decide, EX_methU (EX_name (by rfl) (by rfl) ⟨_, _, _, .frozen, X.c_Grammar, X.m_Grammar_symbol_count, by rfl, FN.le (w_count X ok (OP_mulG rfl (by (first | with_reducible assumption | exact Nat.lt_of_lt_of_le (by assumption) (by decide) | exact Nat.lt_of_le_of_lt (by assumption) (by decide) | lia | omega)) fun b hb => ⟨rfl, ?_⟩)) (by decide)⟩)⟩))))
  rw [zeros]
  obtain ⟨hb1, hb2, hb3⟩ := objH_fresh hb
  let J : Nat → Loc → GH → Prop := fun i => Ex1 (fun d => [some (.ref x), some (g.d a), some (.ref b), d]) ((objH G x dx a.Closer [("grammar", g.d a)]).put b (.list (intL (rowsG g i))))
  refine SX_seq (J g.rules.length) (S1_for (SRC_list (EX_attr (EX_name (by rfl) (by rfl) ⟨_, _, _, .frozen, X.c_Grammar, X.a_Grammar _ (by decide), by rfl, _, rfl, ?_⟩)))) ?_
  · refine ForX_ind J (fun i d ρ G' hi hJ => ?_) (fun ρ G' hJ => ⟨rfl, by simpa using hJ⟩) ⟨none, rfl, rfl⟩
    obtain ⟨hir, rfl⟩ := rule_of_item hi
    obtain ⟨d, rfl, rfl⟩ := hJ
    refine AX_name (by rfl) (tab_inj (by rfl)) ?_
    show SX _ _ _ _ _ _ [some (.ref x), some (g.d a), some (.ref b), some (ruleD a i (g.rules.getD i (0, [], 0)))] _ _ _
    have hmem : g.rules.getD i (0, [], 0) ∈ g.rules := by rw [List.getD_eq_getElem?_getD, List.getElem?_eq_getElem hir]; exact List.getElem_mem _
    have hrl : (g.right i).length ≤ 3 := ok.rl _ hmem
    have hlt := ok.lt _ hmem
    have hleft : g.left i < (rowsG g i).length := by rw [rowsG_len]; exact hlt.1
    refine SX_next (S1_if (TX_cmp (EX_call (X.cb (by rfl) (by rfl) (by rfl)) (.builtin _) (EX_attr (EX_name (by rfl) (by rfl) ⟨_, _, _, .frozen, X.c_Rule, X.a_Rule _ (by decide), by rfl, OP_len .tup (by show (intL (g.right i)).length < _; rw [intL_len]; (first | with_reducible assumption | exact Nat.lt_of_lt_of_le (by assumption) (by decide) | exact Nat.lt_of_le_of_lt (by assumption) (by decide) | lia | omega)) ?_⟩)))))
    repeat (first | with_reducible refine EX_bin ?_ | with_reducible refine EX_int ?_ | with_reducible refine EX_neg ?_ | with_reducible refine EX_str ?_ | with_reducible refine EX_none ?_ | with_reducible refine EX_bool ?_ | with_reducible refine OP_add ?_ | with_reducible refine OP_sub ?_ | with_reducible refine OP_or ?_ | with_reducible refine OP_and ?_ | with_reducible refine OP_lt ?_ | with_reducible refine OP_gt ?_ | with_reducible refine OP_ge ?_ | with_reducible refine OP_eqi ?_ | with_reducible refine OP_nei ?_ | refine EX_name (by rfl) (by rfl) ?_)
    have el : (intL (g.rules.getD i (0, [], 0)).2.1).length = (g.right i).length := intL_len _
    rw [el]
    refine ⟨_, rfl, fun hc => ?_, fun hc => ?_⟩
    · have hc := of_decide_eq_true hc
      obtain ⟨y, l, hy⟩ : ∃ y l, g.right i = y :: l := by
        cases z : g.right i with
        | nil => rw [z] at hc; exact absurd hc (by decide)
        | cons y l => exact ⟨y, l, rfl⟩
      have hyn : y < g.names.length := hlt.2 y (by show y ∈ g.right i; rw [hy]; exact .head _)
      have hit : itemAt (intL (g.right i)) 0 = some (.int (y : Nat)) := item_nat (i := 0) (by rw [hy]; rfl)
      refine SX_next (S1_assign (EX_bin (EX_index (EX_name (by rfl) (by rfl) (EX_attr (EX_name (by rfl) (by rfl) ⟨_, _, _, .frozen, X.c_Rule, X.a_Rule _ (by decide), by rfl, ⟨_, _, _, .live GH.put_self, rfl, by have : g.left i < g.names.length := hlt.1; show ((g.left i : Nat) : Int).natAbs < _; (first | with_reducible assumption | exact Nat.lt_of_lt_of_le (by assumption) (by decide) | exact Nat.lt_of_le_of_lt (by assumption) (by decide) | lia | omega), getD_item hleft, ?_⟩⟩))))) (fun _ _ => swapsWith_plain rfl) (fun _ _ => rfl) rfl)
      refine EX_bin (EX_int (EX_index (EX_attr (EX_name (by rfl) (by rfl) ⟨_, _, _, .frozen, X.c_Rule, X.a_Rule _ (by decide), by rfl, EX_int ⟨_, _, _, .tup, rfl, by decide, hit, OP_shl ?_ (Int.natCast_nonneg _) ?_⟩⟩))))
      · rw [shl_one]
        refine OP_or ?_
        rw [bor_nat]
        refine AX_subL (EX_name (by rfl) (by rfl) (EX_attr (EX_name (by rfl) (by rfl) ⟨_, _, _, .frozen, X.c_Rule, X.a_Rule _ (by decide), by rfl, ⟨_, _, _, rfl, GH.put_self, rfl, Int.natCast_nonneg _, by rw [intL_len]; exact Int.ofNat_lt.mpr hleft, by have : g.left i < g.names.length := hlt.1; show ((g.left i : Nat) : Int) < _; (first | with_reducible assumption | exact Nat.lt_of_lt_of_le (by assumption) (by decide) | exact Nat.lt_of_le_of_lt (by assumption) (by decide) | lia | omega), rfl, SX_nil ⟨rfl, SX_nil ⟨fun _ => ⟨_, rfl, ?_⟩, fun _ e => (nomatch e)⟩⟩⟩⟩)))
        rw [put_put, Int.toNat_natCast, intL_set, rowsG_cons hy]; rfl
      · have : Builtin.Int.intBits 1 = 1 := by decide
        rw [this]; (first | with_reducible assumption | exact Nat.lt_of_lt_of_le (by assumption) (by decide) | exact Nat.lt_of_le_of_lt (by assumption) (by decide) | lia | omega)
    · have hc := of_decide_eq_false hc
      have hy : g.right i = [] := by
        cases z : g.right i with
        | nil => rfl
        | cons y l => rw [z] at hc; exact absurd (by simp : ((y :: l).length : Int) > 0) hc
      refine SX_nil ⟨rfl, SX_nil ⟨fun _ => ⟨_, rfl, ?_⟩, fun _ e => (nomatch e)⟩⟩
      rw [rowsG_nil hy]
  · rintro ρ₁ G₁ ⟨d, rfl, rfl⟩
    refine SX_next (S1_assign (EX_call (X.cg (by rfl) (by rfl) (by rfl)) (.of X.d_tr.keep) (EX_name (by rfl) (by rfl) (FN.le (w_tr X (.live GH.put_self) (by rw [rowsG_len]; (first | with_reducible assumption | exact Nat.lt_of_lt_of_le (by assumption) (by decide) | exact Nat.lt_of_le_of_lt (by assumption) (by decide) | lia | omega)) ?_) (by decide)).op)) (fun _ _ => swapsWith_plain rfl) (fun _ _ => rfl) rfl)
    refine AX_attr (EX_name (by rfl) (by rfl) ⟨_, _, _, _, rfl, by rw [GH.put_ne (Ne.symm hb1)]; exact objH_x, by rw [GH.put_ne (Ne.symm hb2)]; exact objH_dx hne, X.c_Closer, X.a_Closer _ (by decide), by simp, rfl, SX_nil ⟨fun _ => ⟨b, .list (intL (rowsG g g.rules.length)), _, ?_, ?_, q⟩, fun _ e => (nomatch e)⟩⟩)
    · rw [objH_ne hb1 hb2]; exact hb3
    · rw [put_objH hb1 hb2, objH_put hne, put_objH hb1 hb2, rowsG_len]; rfl
theorem w_Closer (X : Ctx w K a) (ok : g.Ok) (q : Q (g.cl a) G) : OP prog w K 4 G [g.d a] (fun vs => call (.ref a.Closer) vs) Q :=
  OP_newO X.n_Closer fun x dx hne h1 h2 => w_clInit X ok hne ⟨rfl, _, rfl, q⟩
end
noncomputable def Gr.enc (g : Gr) (p : Nat × Nat) : Nat := g.off p.1 + p.2
noncomputable def Gr.Its (g : Gr) (k : List (Nat × Nat)) : Prop := ∀ p ∈ k, g.It p.1 p.2
noncomputable def encL (g : Gr) (k : List (Nat × Nat)) : List D := intL (k.map g.enc)
theorem foldl_take {α β : Type} (f : β → α → β) (m : β) : ∀ (l : List α) (i : Nat) (x : α), l[i]? = some x → (l.take (i + 1)).foldl f m = f ((l.take i).foldl f m) x
  | [], _, _, h => by simp at h
  | y :: l, 0, x, h => by simp at h; subst h; rfl
  | y :: l, i + 1, x, h => by
    have := foldl_take f (f m y) l i x (by simpa using h)
    simpa using this
theorem enc_item {g : Gr} {k : List (Nat × Nat)} {i : Nat} {d : D} (h : (encL g k)[i]? = some d) : ∃ p, k[i]? = some p ∧ d = .int (g.enc p : Nat) := by
  unfold encL intL at h
  rw [List.map_map, List.getElem?_map] at h
  cases z : k[i]? with
  | none => rw [z] at h; cases h
  | some p => rw [z] at h; cases h; exact ⟨p, rfl, rfl⟩
theorem encL_len (g : Gr) (k : List (Nat × Nat)) : (encL g k).length = k.length := by rw [encL, intL_len, List.length_map]

noncomputable def wantS (g : Gr) (m : Nat) (p : Nat × Nat) : Nat := match (g.right p.1)[p.2]? with
  | some x => m ||| 2 ^ x ||| g.firsts.getD x 0
  | none => m
noncomputable def wantM (g : Gr) (k : List (Nat × Nat)) : Nat := k.foldl (wantS g) 0

theorem rowsG_lt {g : Gr} (ok : g.Ok) : ∀ i, ∀ x ∈ rowsG g i, x < 2 ^ g.names.length
  | 0, x, m => by
    rw [rowsG] at m
    rw [List.eq_of_mem_replicate m]; exact Nat.pow_pos (by decide)
  | i + 1, x, m => by
    cases h : g.right i with
    | nil => rw [rowsG_nil h] at m; exact rowsG_lt ok i x m
    | cons y l =>
      rw [rowsG_cons h] at m
      rcases List.mem_or_eq_of_mem_set m with m | e
      · exact rowsG_lt ok i x m
      · subst e
        have hi : i < g.rules.length := by
          by_cases z : i < g.rules.length
          · exact z
          · unfold Gr.right at h
            rw [List.getD_eq_getElem?_getD, List.getElem?_eq_none (by (first | with_reducible assumption | exact Nat.lt_of_lt_of_le (by assumption) (by decide) | exact Nat.lt_of_le_of_lt (by assumption) (by decide) | lia | omega))] at h
            cases h
        have hmem : g.rules.getD i (0, [], 0) ∈ g.rules := by rw [List.getD_eq_getElem?_getD, List.getElem?_eq_getElem hi]; exact List.getElem_mem _
        have hy : y < g.names.length := (ok.lt _ hmem).2 y (by show y ∈ g.right i; rw [h]; exact .head _)
        refine Nat.or_lt_two_pow ?_ (Nat.pow_lt_pow_right (by decide) hy)
        by_cases z : g.left i < (rowsG g i).length
        · rw [List.getD_eq_getElem?_getD, List.getElem?_eq_getElem z]
          exact rowsG_lt ok i _ (List.getElem_mem _)
        · rw [List.getD_eq_getElem?_getD, List.getElem?_eq_none (by (first | with_reducible assumption | exact Nat.lt_of_lt_of_le (by assumption) (by decide) | exact Nat.lt_of_le_of_lt (by assumption) (by decide) | lia | omega))]; exact Nat.pow_pos (by decide)
theorem getD_lt {l : List Nat} {N i : Nat} (h : ∀ x ∈ l, x < 2 ^ N) : l.getD i 0 < 2 ^ N := by
  by_cases z : i < l.length
  · rw [List.getD_eq_getElem?_getD, List.getElem?_eq_getElem z]; exact h _ (List.getElem_mem _)
  · rw [List.getD_eq_getElem?_getD, List.getElem?_eq_none (by (first | with_reducible assumption | exact Nat.lt_of_lt_of_le (by assumption) (by decide) | exact Nat.lt_of_le_of_lt (by assumption) (by decide) | lia | omega))]; exact Nat.pow_pos (by decide)
theorem warIn_lt {m N : Nat} {fs : List Nat} (h : ∀ x ∈ fs, x < 2 ^ N) : ∀ k, ∀ x ∈ warIn m fs k, x < 2 ^ N
  | 0, x, hx => h x hx
  | k + 1, x, hx => by
    rw [warIn_succ] at hx
    have ih := warIn_lt h (m := m) k
    split at hx
    · rcases List.mem_or_eq_of_mem_set hx with hx | e
      · exact ih x hx
      · subst e; exact Nat.or_lt_two_pow (getD_lt ih) (getD_lt ih)
    · exact ih x hx
theorem war_lt {N : Nat} {rows : List Nat} (h : ∀ x ∈ rows, x < 2 ^ N) : ∀ k, ∀ x ∈ war rows k, x < 2 ^ N
  | 0, x, hx => h x hx
  | k + 1, x, hx => warIn_lt (war_lt h k) _ x hx
theorem Gr.firsts_lt {g : Gr} (ok : g.Ok) : ∀ x ∈ g.firsts, x < 2 ^ g.names.length := war_lt (rowsG_lt ok _) _
theorem Gr.firsts_len (g : Gr) : g.firsts.length = g.names.length := by unfold Gr.firsts; rw [war_len, rowsG_len]
theorem Gr.Ok.sym {g : Gr} (ok : g.Ok) {r d x : Nat} (h : (g.right r)[d]? = some x) : x < g.names.length := by
  have hi : r < g.rules.length := by
    by_cases z : r < g.rules.length
    · exact z
    · have e : g.right r = [] := by unfold Gr.right; rw [List.getD_eq_getElem?_getD, List.getElem?_eq_none (by (first | with_reducible assumption | exact Nat.lt_of_lt_of_le (by assumption) (by decide) | exact Nat.lt_of_le_of_lt (by assumption) (by decide) | lia | omega))]; rfl
      rw [e] at h
      simp at h
  have hmem : g.rules.getD r (0, [], 0) ∈ g.rules := by rw [List.getD_eq_getElem?_getD, List.getElem?_eq_getElem hi]; exact List.getElem_mem _
  exact (ok.lt _ hmem).2 x (List.mem_of_getElem? h)
set_option tactic.hygienic true in
theorem wantS_lt {g : Gr} (ok : g.Ok) {m : Nat} (h : m < 2 ^ g.names.length) (p : Nat × Nat) : wantS g m p < 2 ^ g.names.length := by
  unfold wantS
  split
  · rename_i x hx
    exact Nat.or_lt_two_pow (Nat.or_lt_two_pow h (Nat.pow_lt_pow_right (by decide) (ok.sym hx))) (getD_lt (Gr.firsts_lt ok))
  · exact h
theorem foldl_want_lt {g : Gr} (ok : g.Ok) : ∀ (k : List (Nat × Nat)) (m : Nat), m < 2 ^ g.names.length → k.foldl (wantS g) m < 2 ^ g.names.length
  | [], m, h => h
  | p :: k, m, h => foldl_want_lt ok k _ (wantS_lt ok h p)
theorem wantM_lt {g : Gr} (ok : g.Ok) (k : List (Nat × Nat)) : wantM g k < 2 ^ g.names.length := foldl_want_lt ok k 0 (Nat.pow_pos (by decide))

section
variable {prog : Program} {w : World} {K : Frag} {a : Ad} {n : Nat} {sc : Scope} {tab : Tab} {ρ : Loc} {G : GH} {Q : D → GH → Prop} {g : Gr} {k : List (Nat × Nat)}

noncomputable def wnR (a : Ad) (g : Gr) (k : List (Nat × Nat)) (y0 y1 y2 : Option D) : Loc := [some (g.cl a), some (.tup (encL g k)), y0, y1, y2]
theorem w_wanted (X : Ctx w K a) (ok : g.Ok) (hk : g.Its k) (q : Q (.int (wantM g k : Nat)) G) : FN prog w K 2 G a.clWanted [g.cl a, .tup (encL g k)] Q := by
  refine X.d_clWanted.fn X.ok (by rfl) (by rfl) ?_
  show SX _ _ _ _ _ _ (wnR a g k none none none) _ _ _
  have hns := ok.ns
  refine SX_next (S1_name (by rfl) (tab_inj (by rfl)) (EX_int ⟨rfl, ?_⟩))
  let J : Nat → Loc → GH → Prop := fun i => Ex2 (fun d3 d4 => (wnR a g k (some (.int ((k.take i).foldl (wantS g) 0 : Nat))) d3 d4)) (G)
  refine SX_seq (J k.length) (S1_for (SRC_tup (EX_name (by rfl) (by rfl) ⟨_, rfl, ?_⟩))) ?_
  · refine ForX_ind J (fun i d ρ G' hi hJ => ?_) (fun ρ G' hJ => ⟨rfl, by rw [encL_len] at hJ; exact hJ⟩) ⟨none, none, rfl, rfl⟩
    obtain ⟨p, hp, rfl⟩ := enc_item hi
    obtain ⟨d3, d4, rfl, rfl⟩ := hJ
    have hit : g.It p.1 p.2 := hk p (List.mem_of_getElem? hp)
    have hstep := foldl_take (wantS g) 0 k i p hp
    generalize (k.take i).foldl (wantS g) 0 = m at hstep
    refine AX_name (by rfl) (tab_inj (by rfl)) ?_
    show SX _ _ _ _ _ _ (wnR a g k (some (.int (m : Nat))) (some (.int (g.enc p : Nat))) d4) _ _ _
    refine SX_next (S1_name (by rfl) (tab_inj (by rfl)) (EX_methU (EX_attr (EX_name (by rfl) (by rfl) ⟨_, _, _, .frozen, X.c_Closer, X.a_Closer _ (by decide), by rfl, ⟨_, _, _, .frozen, X.c_Grammar, X.m_Grammar_after, by rfl, EX_name (by rfl) (by rfl) (FN.le (w_after X ok hit ⟨rfl, ?_⟩) (by decide))⟩⟩))))
    show SX _ _ _ _ _ _ (wnR a g k (some (.int (m : Nat))) (some (.int (g.enc p : Nat))) (some (.int (g.nx p.1 p.2)))) _ _ _
    refine SX_next (S1_if (TX_cmp ?_))
    repeat (first | with_reducible refine EX_bin ?_ | with_reducible refine EX_int ?_ | with_reducible refine EX_neg ?_ | with_reducible refine EX_str ?_ | with_reducible refine EX_none ?_ | with_reducible refine EX_bool ?_ | with_reducible refine OP_add ?_ | with_reducible refine OP_sub ?_ | with_reducible refine OP_or ?_ | with_reducible refine OP_and ?_ | with_reducible refine OP_lt ?_ | with_reducible refine OP_gt ?_ | with_reducible refine OP_ge ?_ | with_reducible refine OP_eqi ?_ | with_reducible refine OP_nei ?_ | refine EX_name (by rfl) (by rfl) ?_)
    refine ⟨_, rfl, fun hc => ?_, fun hc => ?_⟩
    · have hc := of_decide_eq_true hc
      obtain ⟨x, hx⟩ : ∃ x, (g.right p.1)[p.2]? = some x := by
        unfold Gr.nx at hc
        split at hc
        · exact ⟨_, by assumption⟩
        · exact absurd hc (by decide)
      have hnx : g.nx p.1 p.2 = (x : Nat) := by unfold Gr.nx; rw [hx]
      have hxn := ok.sym hx
      rw [hnx]
      refine SX_next (S1_name (by rfl) (tab_inj (by rfl)) (EX_bin (EX_bin (EX_name (by rfl) (by rfl) (EX_bin (EX_int (EX_name (by rfl) (by rfl) (OP_shl ?_ (Int.natCast_nonneg _) ?_))))))))
      · rw [shl_one]
        refine OP_or (EX_index (EX_attr (EX_name (by rfl) (by rfl) ⟨_, _, _, .frozen, X.c_Closer, X.a_Closer _ (by decide), by rfl, EX_name (by rfl) (by rfl) ⟨_, _, _, .list, rfl, by (first | with_reducible assumption | exact Nat.lt_of_lt_of_le (by assumption) (by decide) | exact Nat.lt_of_le_of_lt (by assumption) (by decide) | lia | omega), getD_item (l := g.firsts) (i := x) (by rw [Gr.firsts_len]; exact hxn), ?_⟩⟩)))
        rw [bor_nat]
        refine OP_or ?_
        have e : ((m ||| 2 ^ x) ||| g.firsts.getD x 0) = (k.take (i + 1)).foldl (wantS g) 0 := by rw [hstep, wantS, hx]
        rw [bor_nat, e]
        exact ⟨rfl, SX_nil ⟨rfl, SX_nil ⟨fun _ => ⟨_, _, rfl, rfl⟩, fun _ e => (nomatch e)⟩⟩⟩
      · have : Builtin.Int.intBits 1 = 1 := by decide
        rw [this]; (first | with_reducible assumption | exact Nat.lt_of_lt_of_le (by assumption) (by decide) | exact Nat.lt_of_le_of_lt (by assumption) (by decide) | lia | omega)
    · have hc := of_decide_eq_false hc
      have hx : (g.right p.1)[p.2]? = none := by
        unfold Gr.nx at hc
        split at hc
        · exact absurd (Int.natCast_nonneg _) hc
        · assumption
      have e : m = (k.take (i + 1)).foldl (wantS g) 0 := by rw [hstep, wantS, hx]
      rw [e]
      exact SX_nil ⟨rfl, SX_nil ⟨fun _ => ⟨_, _, rfl, rfl⟩, fun _ e => (nomatch e)⟩⟩
  · rintro ρ₁ G₁ ⟨d3, d4, rfl, rfl⟩
    refine SX_ret (EX_name (by rfl) (by rfl) ?_)
    rw [List.take_length]
    exact q
end
theorem nodup_le : ∀ (m : Nat) (l : List Nat), l.Nodup → (∀ x ∈ l, x < m) → l.length ≤ m
  | 0, l, _, h => by cases l with | nil => exact Nat.le_refl _ | cons x l => exact absurd (h x (.head _)) (Nat.not_lt_zero _)
  | m + 1, l, nd, h => by
    have ih := nodup_le m (l.filter (· != m)) (nd.filter _) fun x hx => by
      have hx' := List.mem_filter.mp hx
      have h1 := h x hx'.1
      have h2 : x ≠ m := by simpa using hx'.2
      (first | with_reducible assumption | exact Nat.lt_of_lt_of_le (by assumption) (by decide) | exact Nat.lt_of_le_of_lt (by assumption) (by decide) | lia | omega)
    have hc : l.length ≤ (l.filter (· != m)).length + 1 := by
      clear ih h
      induction l with
      | nil => exact Nat.zero_le _
      | cons x l ih =>
        rw [List.nodup_cons] at nd
        by_cases hx : x = m
        · subst hx
          have : l.filter (· != x) = l := List.filter_eq_self.mpr fun y hy => by
            have : y ≠ x := fun z => nd.1 (z ▸ hy)
            simpa using this
          rw [List.filter_cons_of_neg (by simp), this, List.length_cons]
          exact Nat.le_refl _
        · rw [List.filter_cons_of_pos (by simpa using hx), List.length_cons, List.length_cons]
          have := ih nd.2
          (first | with_reducible assumption | exact Nat.lt_of_lt_of_le (by assumption) (by decide) | exact Nat.lt_of_le_of_lt (by assumption) (by decide) | lia | omega)
    (first | with_reducible assumption | exact Nat.lt_of_lt_of_le (by assumption) (by decide) | exact Nat.lt_of_le_of_lt (by assumption) (by decide) | lia | omega)

noncomputable def addIn (g : Gr) (k : List (Nat × Nat)) (l : List Nat) : List Nat := l.filter fun i => decide (g.enc (i, 0) ∉ k.map g.enc)
noncomputable def addR (g : Gr) (k : List (Nat × Nat)) (xs : List Nat) : List Nat := xs.flatMap fun x => addIn g k (rulesOf g.rules x)
noncomputable def e0 (g : Gr) (i : Nat) : Nat := g.enc (i, 0)
theorem rulesOf_mem {rs : List (Nat × List Nat × Int)} {x i : Nat} : i ∈ rulesOf rs x ↔ i < rs.length ∧ (rs.getD i (0, [], 0)).1 = x := by
  unfold rulesOf
  rw [List.mem_filter, List.mem_range, beq_iff_eq]
theorem addR_nodup {g : Gr} {k : List (Nat × Nat)} {xs : List Nat} (nd : xs.Nodup) : (addR g k xs).Nodup := by
  unfold addR List.Nodup
  rw [List.pairwise_flatMap]
  refine ⟨fun x _ => List.Pairwise.filter _ (List.Pairwise.filter _ List.nodup_range), List.Pairwise.imp (fun {x y} hxy => fun i hi j hj e => hxy ?_) nd⟩
  subst e
  have h1 := rulesOf_mem.mp (List.mem_filter.mp hi).1
  have h2 := rulesOf_mem.mp (List.mem_filter.mp hj).1
  rw [← h1.2, ← h2.2]
theorem addR_lt {g : Gr} {k : List (Nat × Nat)} {xs : List Nat} : ∀ i ∈ addR g k xs, i < g.rules.length := fun i hi => by
  obtain ⟨x, _, h⟩ := List.mem_flatMap.mp hi
  exact (rulesOf_mem.mp (List.mem_filter.mp h).1).1
theorem addR_len {g : Gr} {k : List (Nat × Nat)} {xs : List Nat} (ok : g.Ok) (nd : xs.Nodup) : (addR g k xs).length ≤ 8 := Nat.le_trans (nodup_le _ _ (addR_nodup nd) addR_lt) ok.nr
theorem rulesOf_len {g : Gr} (ok : g.Ok) (x : Nat) : (rulesOf g.rules x).length ≤ 8 := by
  unfold rulesOf
  refine Nat.le_trans (List.length_filter_le _ _) ?_
  rw [List.length_range]; exact ok.nr
theorem intL_item {l : List Nat} {i : Nat} {d : D} (h : (intL l)[i]? = some d) : ∃ x, l[i]? = some x ∧ d = .int (x : Nat) := by
  unfold intL at h
  rw [List.getElem?_map] at h
  cases z : l[i]? with
  | none => rw [z] at h; cases h
  | some p => rw [z] at h; cases h; exact ⟨p, rfl, rfl⟩
theorem like_ints (l : List Nat) (x : Int) : ∀ y ∈ intL l, Like 0 y (.int x) := fun y m => by
  obtain ⟨i, _, rfl⟩ := List.mem_map.mp m
  trivial
theorem mem_intL {l : List Nat} {x : Nat} : D.int (x : Nat) ∈ intL l ↔ x ∈ l := by
  unfold intL
  rw [List.mem_map]
  constructor
  · rintro ⟨y, m, e⟩
    have : (y : Int) = (x : Int) := by injection e
    rw [← Int.ofNat.inj this]; exact m
  · intro m; exact ⟨x, m, rfl⟩
theorem filter_take_succ {p : Nat → Bool} {l : List Nat} {j x : Nat} (h : l[j]? = some x) : (l.take (j + 1)).filter p = if p x then (l.take j).filter p ++ [x] else (l.take j).filter p := by
  rw [List.take_succ, h, Option.toList_some, List.filter_append]
  by_cases z : p x = true
  · rw [if_pos z, List.filter_cons_of_pos z]; rfl
  · rw [if_neg z, List.filter_cons_of_neg z]; simp

section
variable {prog : Program} {w : World} {K : Frag} {a : Ad} {n : Nat} {sc : Scope} {tab : Tab} {ρ : Loc} {G : GH} {Q : D → GH → Prop} {g : Gr} {k : List (Nat × Nat)}

noncomputable def adR (a : Ad) (g : Gr) (k : List (Nat × Nat)) (y0 y1 y2 y3 : Option D) : Loc := [some (g.cl a), some (.tup (encL g k)), y0, y1, y2, y3]
theorem w_added (X : Ctx w K a) (ok : g.Ok) (hk : g.Its k) (q : ∀ N (ns : List Int), wantM g k < 2 ^ N → ns.Perm (((addR g k ((List.range N).filter (wantM g k).testBit)).map fun i => ((e0 g i : Nat) : Int))) → ns.Pairwise (· ≤ ·) → Q (.list (ns.map .int)) G) :
    FN prog w K 4 G a.clAdded [g.cl a, .tup (encL g k)] Q := by
  refine FN.drop (X.d_clAdded.fn X.ok (by rfl) (by rfl) ?_)
  show SX _ _ _ _ _ _ (adR a g k none none none none) _ _ _
  have hns := ok.ns
  have hw := wantM_lt ok k
  refine SX_next (S1_name (by rfl) (tab_inj (by rfl)) (EX_listG ⟨by decide, fun b hb => ⟨rfl, ?_⟩⟩))
  refine SX_cons (S1_for (SRC_list (EX_call (X.cg (by rfl) (by rfl) (by rfl)) (.of X.d_bits.keep) (EX_methU (EX_name (by rfl) (by rfl) ⟨_, _, _, .frozen, X.c_Closer, X.m_Closer_wanted, by rfl, EX_name (by rfl) (by rfl) (FN.le (w_wanted X ok hk (FN.le (w_bits X (wantM g k) ?_ fun N hN => ⟨_, rfl, ?_⟩) (by decide)).op) (by decide))⟩)))))
  · exact Nat.lt_of_lt_of_le hw (Nat.pow_le_pow_right (by decide) (by (first | with_reducible assumption | exact Nat.lt_of_lt_of_le (by assumption) (by decide) | exact Nat.lt_of_le_of_lt (by assumption) (by decide) | lia | omega)))
  · have hnd : ((List.range N).filter (wantM g k).testBit).Nodup := List.Pairwise.filter _ List.nodup_range
    have hxs : ∀ x ∈ (List.range N).filter (wantM g k).testBit, x < g.names.length := fun x m => by
      have hb := (List.mem_filter.mp m).2
      by_cases z : x < g.names.length
      · exact z
      · rw [Nat.testBit_lt_two_pow (Nat.lt_of_lt_of_le hw (Nat.pow_le_pow_right (by decide) (by (first | with_reducible assumption | exact Nat.lt_of_lt_of_le (by assumption) (by decide) | exact Nat.lt_of_le_of_lt (by assumption) (by decide) | lia | omega))))] at hb
        cases hb
    have qq := fun ns => q N ns hN
    generalize (List.range N).filter (wantM g k).testBit = xs at hnd hxs qq
    show ForX _ _ _ _ _ _ _ _ _ (intL xs) _ _
    have hxl : xs.length ≤ 32 := Nat.le_trans (nodup_le _ _ hnd hxs) hns
    let J : Nat → Loc → GH → Prop := fun i => Ex3 (fun d3 d4 d5 => (adR a g k (some (.ref b)) d3 d4 d5)) (G.put b (.list (intL ((addR g k (xs.take i)).map (e0 g)))))
    refine ForX_ind J (fun i d ρ G' hi hJ => ?_) (fun ρ G' hJ => ⟨fun _ => ?_, fun _ e => (nomatch e)⟩) ⟨none, none, none, rfl, rfl⟩
    · obtain ⟨x, hx, rfl⟩ := intL_item hi
      obtain ⟨d3, d4, d5, rfl, rfl⟩ := hJ
      have hxn := hxs x (List.mem_of_getElem? hx)
      refine AX_name (by rfl) (tab_inj (by rfl)) ?_
      show SX _ _ _ _ _ _ (adR a g k (some (.ref b)) (some (.int (x : Nat))) d4 d5) _ _ _
      let J2 : Nat → Loc → GH → Prop := fun j => Ex2 (fun d4 d5 => (adR a g k (some (.ref b)) (some (.int (x : Nat))) d4 d5)) (G.put b (.list (intL ((addR g k (xs.take i) ++ addIn g k ((rulesOf g.rules x).take j)).map (e0 g)))))
      refine SX_seq (J2 (rulesOf g.rules x).length) (S1_for (SRC_list (EX_methU (EX_attr (EX_name (by rfl) (by rfl) ⟨_, _, _, .frozen, X.c_Closer, X.a_Closer _ (by decide), by rfl, ⟨_, _, _, .frozen, X.c_Grammar, X.m_Grammar_rules_of, by rfl, EX_name (by rfl) (by rfl) (FN.le (w_rules X ok hxn ⟨_, rfl, ?_⟩) (by decide))⟩⟩))))) ?_
      · refine ForX_ind J2 (fun j d ρ G' hj hJ => ?_) (fun ρ G' hJ => ⟨rfl, by rw [intL_len] at hJ; exact hJ⟩) ⟨d4, d5, rfl, by rw [List.take_zero]; simp [addIn]⟩
        obtain ⟨r, hr, rfl⟩ := intL_item hj
        obtain ⟨d4, d5, rfl, rfl⟩ := hJ
        have hrm := rulesOf_mem.mp (List.mem_of_getElem? hr)
        have hit : g.It r 0 := ⟨hrm.1, Nat.zero_le _⟩
        have hj8 : j < (rulesOf g.rules x).length := (List.getElem?_eq_some_iff.mp hr).1
        have hstep := filter_take_succ (p := fun i => decide (g.enc (i, 0) ∉ k.map g.enc)) hr
        refine AX_name (by rfl) (tab_inj (by rfl)) ?_
        show SX _ _ _ _ _ _ (adR a g k (some (.ref b)) (some (.int (x : Nat))) (some (.int (r : Nat))) d5) _ _ _
        refine SX_next (S1_name (by rfl) (tab_inj (by rfl)) (EX_methU (EX_attr (EX_name (by rfl) (by rfl) ⟨_, _, _, .frozen, X.c_Closer, X.a_Closer _ (by decide), by rfl, ⟨_, _, _, .frozen, X.c_Grammar, X.m_Grammar_item, by rfl, EX_name (by rfl) (by rfl) (EX_int (FN.le (w_item X ok hit ⟨rfl, ?_⟩) (by decide)))⟩⟩))))
        refine SX_next (S1_if (TX_cmp (EX_name (by rfl) (by rfl) (EX_name (by rfl) (by rfl) (OP_notIn (k := 0) .tup (like_ints _ _) (by decide) fun t ht => ⟨_, rfl, fun hc => ?_, fun hc => ?_⟩)))))
        · have hnot : g.enc (r, 0) ∉ k.map g.enc := fun z => (ht.mp hc) (mem_intL.mpr z)
          have e : addIn g k ((rulesOf g.rules x).take (j + 1)) = addIn g k ((rulesOf g.rules x).take j) ++ [r] := by
            unfold addIn; rw [hstep, if_pos (decide_eq_true hnot)]
          refine SX_next (S1_expr (EX_methB PySem.F.slot_list_append PySem.F.plainAttrs_list PySem.F.type_list_append (EX_name (by rfl) (by rfl) ⟨.lst (.live GH.put_self), EX_name (by rfl) (by rfl) (OP_append GH.put_self ?_ ⟨rfl, rfl, ?_⟩)⟩)))
          · rw [intL_len, List.length_map, List.length_append]
            have h1 := addR_len (g := g) (k := k) (xs := xs.take i) ok (List.Nodup.sublist (List.take_sublist ..) hnd)
            have h2 : (addIn g k ((rulesOf g.rules x).take j)).length ≤ 8 := Nat.le_trans (List.length_filter_le _ _) (Nat.le_trans (List.length_take_le' ..) (rulesOf_len ok x))
            (first | with_reducible assumption | exact Nat.lt_of_lt_of_le (by assumption) (by decide) | exact Nat.lt_of_le_of_lt (by assumption) (by decide) | lia | omega)
          · refine SX_nil ⟨rfl, SX_nil ⟨fun _ => ⟨_, _, rfl, ?_⟩, fun _ e => (nomatch e)⟩⟩
            rw [put_put, e, ← List.append_assoc]
            simp only [intL, List.map_append, List.map_cons, List.map_nil]
            rfl
        · have hin : g.enc (r, 0) ∈ k.map g.enc := by
            by_cases z : g.enc (r, 0) ∈ k.map g.enc
            · exact z
            · have := ht.mpr (fun y => z (mem_intL.mp y))
              rw [hc] at this; cases this
          have e : addIn g k ((rulesOf g.rules x).take (j + 1)) = addIn g k ((rulesOf g.rules x).take j) := by
            unfold addIn; rw [hstep, if_neg (by simpa using hin)]
          refine SX_nil ⟨rfl, SX_nil ⟨fun _ => ⟨_, _, rfl, by rw [e]⟩, fun _ e => (nomatch e)⟩⟩
      · rintro ρ₁ G₁ ⟨d4, d5, rfl, rfl⟩
        refine SX_nil ⟨fun _ => ⟨_, _, _, rfl, ?_⟩, fun _ e => (nomatch e)⟩
        rw [List.take_length, List.take_succ, hx]
        unfold addR
        rw [List.flatMap_append]; simp
    · obtain ⟨d3, d4, d5, rfl, rfl⟩ := hJ
      have el : (intL xs).length = xs.length := intL_len _
      rw [el, List.take_length]
      refine SX_ret (EX_call (X.cb (by rfl) (by rfl) (by rfl)) (.builtin _) (EX_name (by rfl) (by rfl) (OP_sortI (ns := (addR g k xs).map fun i => ((e0 g i : Nat) : Int)) ?_ ?_ fun ns hp hs => ⟨b, _, G, hb, rfl, qq ns hp hs⟩)))
      · have e : intL ((addR g k xs).map (e0 g)) = ((addR g k xs).map fun i => ((e0 g i : Nat) : Int)).map .int := by unfold intL; rw [List.map_map, List.map_map]; rfl
        rw [← e]; exact .live GH.put_self
      · rw [List.length_map]
        have := addR_len (g := g) (k := k) ok hnd
        (first | with_reducible assumption | exact Nat.lt_of_lt_of_le (by assumption) (by decide) | exact Nat.lt_of_le_of_lt (by assumption) (by decide) | lia | omega)

theorem w_close (X : Ctx w K a) (ok : g.Ok) (hk : g.Its k) (hz : k.length < 64) (q : ∀ N (ms ns : List Int), wantM g k < 2 ^ N → ms.Perm (k.map fun p => ((g.enc p : Nat) : Int)) → ms.Pairwise (· ≤ ·) → ns.Perm (((addR g k ((List.range N).filter (wantM g k).testBit)).map fun i => ((e0 g i : Nat) : Int))) → ns.Pairwise (· ≤ ·) → Q (.list ((ms ++ ns).map .int)) G) :
    FN prog w K 5 G a.clClose [g.cl a, .tup (encL g k)] Q := by
  refine X.d_clClose.fn X.ok (by rfl) (by rfl) ?_
  show SX _ _ _ _ _ _ [some (g.cl a), some (.tup (encL g k))] _ _ _
  have e : encL g k = (k.map fun p => ((g.enc p : Nat) : Int)).map .int := by unfold encL intL; rw [List.map_map, List.map_map]; rfl
  refine SX_ret (EX_bin (EX_call (X.cb (by rfl) (by rfl) (by rfl)) (.builtin _) (EX_name (by rfl) (by rfl) (OP_sortI (ns := k.map fun p => ((g.enc p : Nat) : Int)) (by rw [← e]; exact .tup) (by rw [List.length_map]; exact hz) fun ms h1 h2 => ?_))))
  refine EX_methU (EX_name (by rfl) (by rfl) ⟨_, _, _, .frozen, X.c_Closer, X.m_Closer_added, by rfl, EX_name (by rfl) (by rfl) (FN.le (w_added X ok hk fun N ns hN h3 h4 => OP_addL .frozen .frozen ?_ ?_) (by decide))⟩)
  · have l1 := h1.length_eq
    have l2 := h3.length_eq
    rw [List.length_map] at l1 l2
    have := addR_len (g := g) (k := k) (xs := (List.range N).filter (wantM g k).testBit) ok (List.Pairwise.filter _ List.nodup_range)
    rw [List.length_map, List.length_map]
    (first | with_reducible assumption | exact Nat.lt_of_lt_of_le (by assumption) (by decide) | exact Nat.lt_of_le_of_lt (by assumption) (by decide) | lia | omega)
  · rw [← List.map_append]
    exact q N ms ns hN h1 h2 h3 h4
theorem w_closure (X : Ctx w K a) (ok : g.Ok) (hk : g.Its k) (hz : k.length < 64) (q : ∀ N (ms ns : List Int), wantM g k < 2 ^ N → ms.Perm (k.map fun p => ((g.enc p : Nat) : Int)) → ms.Pairwise (· ≤ ·) → ns.Perm (((addR g k ((List.range N).filter (wantM g k).testBit)).map fun i => ((e0 g i : Nat) : Int))) → ns.Pairwise (· ≤ ·) → Q (.list ((ms ++ ns).map .int)) G) :
    FN prog w K 6 G a.closure [g.d a, .tup (encL g k)] Q := by
  refine X.d_closure.fn X.ok (by rfl) (by rfl) ?_
  show SX _ _ _ _ _ _ [some (g.d a), some (.tup (encL g k))] _ _ _
  exact SX_ret (EX_methU (EX_call (X.cg (by rfl) (by rfl) (by rfl)) (.of X.k_Closer) (EX_name (by rfl) (by rfl) (OP.le (w_Closer X ok ⟨_, _, _, .frozen, X.c_Closer, X.m_Closer_close, by rfl, EX_name (by rfl) (by rfl) (FN.le (w_close X ok hk hz q) (by decide))⟩) (by decide)))))
theorem w_advanced (X : Ctx w K a) (ok : g.Ok) {r d : Nat} (h : g.It r d) (h2 : g.It r (d + 1)) (q : Q (.int (g.enc (r, d + 1) : Nat)) G) : FN prog w K 2 G a.advanced [g.d a, .int (g.enc (r, d) : Nat)] Q := by
  refine X.d_advanced.fn X.ok (by rfl) (by rfl) ?_
  show SX _ _ _ _ _ _ [some (g.d a), some (.int (g.enc (r, d) : Nat))] _ _ _
  refine SX_ret (EX_methU (EX_name (by rfl) (by rfl) ⟨_, _, _, .frozen, X.c_Grammar, X.m_Grammar_item, by rfl, EX_methU (EX_name (by rfl) (by rfl) ⟨_, _, _, .frozen, X.c_Grammar, X.m_Grammar_rule_of, by rfl, EX_name (by rfl) (by rfl) (FN.le (w_rule X ok h ?_) (by decide))⟩)⟩))
  refine EX_bin (EX_methU (EX_name (by rfl) (by rfl) ⟨_, _, _, .frozen, X.c_Grammar, X.m_Grammar_dot_of, by rfl, EX_name (by rfl) (by rfl) (FN.le (w_dot X ok h ?_) (by decide))⟩))
  refine EX_int (OP_add ?_)
  exact FN.le (w_item X ok h2 q) (by decide)
end
noncomputable def sortZ (l : List Int) : List Int := l.mergeSort (fun a b => decide (a ≤ b))
theorem sortZ_perm (l : List Int) : (sortZ l).Perm l := List.mergeSort_perm l _
theorem sortZ_sorted (l : List Int) : (sortZ l).Pairwise (· ≤ ·) := by
  have := List.pairwise_mergeSort (le := fun a b : Int => decide (a ≤ b)) (fun a b c h1 h2 => by simp at *; (first | with_reducible assumption | exact Nat.lt_of_lt_of_le (by assumption) (by decide) | exact Nat.lt_of_le_of_lt (by assumption) (by decide) | lia | omega)) (fun a b => by simp; (first | with_reducible assumption | exact Nat.lt_of_lt_of_le (by assumption) (by decide) | exact Nat.lt_of_le_of_lt (by assumption) (by decide) | lia | omega)) l
  exact this.imp fun h => by simpa using h
theorem sort_uniq : ∀ {a b : List Int}, a.Perm b → a.Pairwise (· ≤ ·) → b.Pairwise (· ≤ ·) → a = b
  | [], b, p, _, _ => by rw [List.nil_perm.mp p]
  | x :: a, [], p, _, _ => by cases (List.perm_nil.mp p)
  | x :: a, y :: b, p, ha, hb => by
    rw [List.pairwise_cons] at ha hb
    have hx : x ∈ y :: b := p.mem_iff.mp (.head _)
    have hy : y ∈ x :: a := p.mem_iff.mpr (.head _)
    have e : x = y := by
      rcases List.mem_cons.mp hx with e | h1
      · exact e
      · rcases List.mem_cons.mp hy with e | h2
        · exact e.symm
        · have l1 := hb.1 x h1
          have l2 := ha.1 y h2
          (first | with_reducible assumption | exact Nat.lt_of_lt_of_le (by assumption) (by decide) | exact Nat.lt_of_le_of_lt (by assumption) (by decide) | lia | omega)
    subst e
    rw [sort_uniq (List.Perm.cons_inv p) ha.2 hb.2]
theorem sort_eq {ns l : List Int} (p : ns.Perm l) (h : ns.Pairwise (· ≤ ·)) : ns = sortZ l := sort_uniq (p.trans (sortZ_perm l).symm) h (sortZ_sorted l)

noncomputable def zL (l : List Nat) : List Int := l.map Int.ofNat
theorem zL_int (l : List Nat) : (zL l).map D.int = intL l := by unfold zL intL; rw [List.map_map]; rfl

noncomputable def nxt (g : Gr) (p : Nat × Nat) : Option Nat := (g.right p.1)[p.2]?
noncomputable def behindOf (g : Gr) (x : Nat) (its : List (Nat × Nat)) : List (Nat × Nat) := (its.filter fun p => decide (nxt g p = some x)).map fun p => (p.1, p.2 + 1)
noncomputable def symS (g : Gr) (acc : List Nat) (p : Nat × Nat) : List Nat := match nxt g p with
  | some x => if x ∈ acc then acc else acc ++ [x]
  | none => acc
noncomputable def symsOf (g : Gr) (its : List (Nat × Nat)) : List Nat := its.foldl (symS g) []
noncomputable def compOf (g : Gr) (its : List (Nat × Nat)) : List Nat := (its.filter fun p => decide (nxt g p = none ∧ p.1 ≠ 0)).map (·.1)

theorem behindOf_succ {g : Gr} {x i : Nat} {its : List (Nat × Nat)} {p : Nat × Nat} (h : its[i]? = some p) : behindOf g x (its.take (i + 1)) = if nxt g p = some x then behindOf g x (its.take i) ++ [(p.1, p.2 + 1)] else behindOf g x (its.take i) := by
  unfold behindOf
  rw [List.take_succ, h, Option.toList_some, List.filter_append, List.map_append]
  by_cases z : nxt g p = some x
  · rw [if_pos z, List.filter_cons_of_pos (p := fun p => decide (nxt g p = some x)) (decide_eq_true z)]; rfl
  · rw [if_neg z, List.filter_cons_of_neg (by simpa using z)]; simp
theorem symsOf_succ {g : Gr} {i : Nat} {its : List (Nat × Nat)} {p : Nat × Nat} (h : its[i]? = some p) : symsOf g (its.take (i + 1)) = symS g (symsOf g (its.take i)) p := foldl_take _ _ _ _ _ h
set_option tactic.hygienic true in
theorem foldl_sym_nodup (g : Gr) : ∀ (its : List (Nat × Nat)) (acc : List Nat), acc.Nodup → (its.foldl (symS g) acc).Nodup
  | [], acc, h => h
  | p :: its, acc, h => by
    refine foldl_sym_nodup g its _ ?_
    unfold symS
    split
    · split
      · exact h
      · rename_i x _ hx
        rw [List.nodup_append]
        exact ⟨h, by simp, fun a ha b hb => by rw [List.mem_singleton] at hb; subst hb; rintro rfl; exact hx ha⟩
    · exact h
theorem symsOf_nodup (g : Gr) (its : List (Nat × Nat)) : (symsOf g its).Nodup := foldl_sym_nodup g its [] List.nodup_nil
set_option tactic.hygienic true in
theorem foldl_sym_mem (g : Gr) : ∀ (its : List (Nat × Nat)) (acc : List Nat) (x : Nat), x ∈ its.foldl (symS g) acc ↔ x ∈ acc ∨ ∃ p ∈ its, nxt g p = some x
  | [], acc, x => by simp
  | p :: its, acc, x => by
    rw [List.foldl_cons, foldl_sym_mem g its]
    have : x ∈ symS g acc p ↔ x ∈ acc ∨ nxt g p = some x := by
      unfold symS
      split
      · rename_i y hy
        rw [hy]
        split
        · rename_i hm
          constructor
          · exact .inl
          · rintro (h | h)
            · exact h
            · cases h; exact hm
        · rw [List.mem_append, List.mem_singleton, Option.some.injEq]
          constructor
          · rintro (h | h)
            · exact .inl h
            · exact .inr h.symm
          · rintro (h | h)
            · exact .inl h
            · exact .inr h.symm
      · rename_i hy
        rw [hy]; simp
    rw [this]
    constructor
    · rintro ((h | h) | ⟨q, m, h⟩)
      · exact .inl h
      · exact .inr ⟨p, .head _, h⟩
      · exact .inr ⟨q, .tail _ m, h⟩
    · rintro (h | ⟨q, m, h⟩)
      · exact .inl (.inl h)
      · rcases List.mem_cons.mp m with rfl | m
        · exact .inl (.inr h)
        · exact .inr ⟨q, m, h⟩
theorem symsOf_mem {g : Gr} {its : List (Nat × Nat)} {x : Nat} : x ∈ symsOf g its ↔ ∃ p ∈ its, nxt g p = some x := by
  unfold symsOf; rw [foldl_sym_mem]; simp

section
variable {prog : Program} {w : World} {K : Frag} {a : Ad} {n : Nat} {sc : Scope} {tab : Tab} {ρ : Loc} {G : GH} {Q : D → GH → Prop} {g : Gr} {its : List (Nat × Nat)}

theorem nx_nxt {p : Nat × Nat} : g.nx p.1 p.2 = match nxt g p with | some x => (x : Int) | none => -1 := rfl
theorem w_complete (X : Ctx w K a) (ok : g.Ok) (hk : g.Its its) (hz : its.length < 64) (q : Q (.list ((sortZ (zL (compOf g its))).map .int)) G) : FN prog w K 2 G a.complete [g.d a, .list (encL g its)] Q := by
  refine FN.drop (X.d_complete.fn X.ok (by rfl) (by rfl) ?_)
  show SX _ _ _ _ _ _ [some (g.d a), some (.list (encL g its)), none, none] _ _ _
  refine SX_next (S1_name (by rfl) (tab_inj (by rfl)) (EX_listG ⟨by decide, fun b hb => ⟨rfl, ?_⟩⟩))
  let J : Nat → Loc → GH → Prop := fun i => Ex1 (fun d3 => [some (g.d a), some (.list (encL g its)), some (.ref b), d3]) (G.put b (.list (intL (compOf g (its.take i)))))
  refine SX_seq (J its.length) (S1_for (SRC_list (EX_name (by rfl) (by rfl) ⟨_, rfl, ?_⟩))) ?_
  · refine ForX_ind J (fun i d ρ G' hi hJ => ?_) (fun ρ G' hJ => ⟨rfl, by rw [encL_len] at hJ; exact hJ⟩) ⟨none, rfl, rfl⟩
    obtain ⟨p, hp, rfl⟩ := enc_item hi
    obtain ⟨d3, rfl, rfl⟩ := hJ
    have hil := (List.getElem?_eq_some_iff.mp hp).1
    have hit : g.It p.1 p.2 := hk p (List.mem_of_getElem? hp)
    have hstep : compOf g (its.take (i + 1)) = if nxt g p = none ∧ p.1 ≠ 0 then compOf g (its.take i) ++ [p.1] else compOf g (its.take i) := by
      unfold compOf
      rw [List.take_succ, hp, Option.toList_some, List.filter_append, List.map_append]
      by_cases z : nxt g p = none ∧ p.1 ≠ 0
      · rw [if_pos z, List.filter_cons_of_pos (p := fun p : Nat × Nat => decide (nxt g p = none ∧ p.1 ≠ 0)) (decide_eq_true z)]; rfl
      · rw [if_neg z, List.filter_cons_of_neg (by simpa using z)]; simp
    refine AX_name (by rfl) (tab_inj (by rfl)) ?_
    show SX _ _ _ _ _ _ [some (g.d a), some (.list (encL g its)), some (.ref b), some (.int (g.enc p : Nat))] _ _ _
    have no : ∀ (h : ¬ (nxt g p = none ∧ p.1 ≠ 0)), SX prog w K 1 (scopeF (stT 14)) tab_complete_rules [some (g.d a), some (.list (encL g its)), some (.ref b), some (.int (g.enc p : Nat))] (G.put b (.list (intL (compOf g (its.take i))))) []
        (nxsQ prog w K 1 (scopeF (stT 14)) tab_complete_rules [] (lbQ J i (nxjQ (J its.length)))) := fun h => by
      refine SX_nil ⟨rfl, SX_nil ⟨fun _ => ⟨_, rfl, ?_⟩, fun _ e => (nomatch e)⟩⟩
      rw [hstep, if_neg h]
    refine SX_next (S1_if (TX_and (TX_cmp (EX_methU (EX_name (by rfl) (by rfl) ⟨_, _, _, .frozen, X.c_Grammar, X.m_Grammar_after, by rfl, EX_name (by rfl) (by rfl) (FN.le (w_after X ok hit ?_) (by decide))⟩)))))
    repeat (first | with_reducible refine EX_bin ?_ | with_reducible refine EX_int ?_ | with_reducible refine EX_neg ?_ | with_reducible refine EX_str ?_ | with_reducible refine EX_none ?_ | with_reducible refine EX_bool ?_ | with_reducible refine OP_add ?_ | with_reducible refine OP_sub ?_ | with_reducible refine OP_or ?_ | with_reducible refine OP_and ?_ | with_reducible refine OP_lt ?_ | with_reducible refine OP_gt ?_ | with_reducible refine OP_ge ?_ | with_reducible refine OP_eqi ?_ | with_reducible refine OP_nei ?_ | refine EX_name (by rfl) (by rfl) ?_)
    refine ⟨_, rfl, fun hc => ?_, fun hc => ⟨fun e => (nomatch e), fun _ => no fun z => ?_⟩⟩
    · have hc := of_decide_eq_true hc
      have hx : nxt g p = none := by
        rw [nx_nxt] at hc
        cases z : nxt g p with
        | none => rfl
        | some x => rw [z] at hc; exact absurd hc (by simp)
      refine TX_cmp (EX_methU (EX_name (by rfl) (by rfl) ⟨_, _, _, .frozen, X.c_Grammar, X.m_Grammar_rule_of, by rfl, EX_name (by rfl) (by rfl) (FN.le (w_rule X ok hit ?_) (by decide))⟩))
      repeat (first | with_reducible refine EX_bin ?_ | with_reducible refine EX_int ?_ | with_reducible refine EX_neg ?_ | with_reducible refine EX_str ?_ | with_reducible refine EX_none ?_ | with_reducible refine EX_bool ?_ | with_reducible refine OP_add ?_ | with_reducible refine OP_sub ?_ | with_reducible refine OP_or ?_ | with_reducible refine OP_and ?_ | with_reducible refine OP_lt ?_ | with_reducible refine OP_gt ?_ | with_reducible refine OP_ge ?_ | with_reducible refine OP_eqi ?_ | with_reducible refine OP_nei ?_ | refine EX_name (by rfl) (by rfl) ?_)
      refine ⟨_, rfl, fun hc2 => ?_, fun hc2 => no fun z => ?_⟩
      · have hne : p.1 ≠ 0 := by simpa using hc2
        refine SX_next (S1_expr (EX_methB PySem.F.slot_list_append PySem.F.plainAttrs_list PySem.F.type_list_append (EX_name (by rfl) (by rfl) ⟨.lst (.live GH.put_self), EX_methU (EX_name (by rfl) (by rfl) ⟨_, _, _, .frozen, X.c_Grammar, X.m_Grammar_rule_of, by rfl, EX_name (by rfl) (by rfl) (FN.le (w_rule X ok hit (OP_append GH.put_self ?_ ⟨rfl, rfl, ?_⟩)) (by decide))⟩)⟩)))
        · rw [intL_len]
          unfold compOf
          rw [List.length_map]
          have := List.length_filter_le (fun p => decide (nxt g p = none ∧ p.1 ≠ 0)) (its.take i)
          have h2 := List.length_take_le' i its
          (first | with_reducible assumption | exact Nat.lt_of_lt_of_le (by assumption) (by decide) | exact Nat.lt_of_le_of_lt (by assumption) (by decide) | lia | omega)
        · refine SX_nil ⟨rfl, SX_nil ⟨fun _ => ⟨_, rfl, ?_⟩, fun _ e => (nomatch e)⟩⟩
          rw [put_put, hstep, if_pos ⟨hx, hne⟩]
          simp only [intL, List.map_append, List.map_cons, List.map_nil]
      · have : p.1 = 0 := by simpa using hc2
        exact z.2 this
    · have hc := of_decide_eq_false hc
      rw [nx_nxt, z.1] at hc
      exact hc (by decide)
  · rintro ρ₁ G₁ ⟨d3, rfl, rfl⟩
    rw [List.take_length]
    refine SX_ret (EX_call (X.cb (by rfl) (by rfl) (by rfl)) (.builtin _) (EX_name (by rfl) (by rfl) (OP_sortI (ns := zL (compOf g its)) (by rw [zL_int]; exact .live GH.put_self) ?_ fun ns hp hs => ⟨b, _, G, hb, rfl, sort_eq hp hs ▸ q⟩)))
    unfold zL compOf
    rw [List.length_map, List.length_map]
    have := List.length_filter_le (fun p => decide (nxt g p = none ∧ p.1 ≠ 0)) its
    (first | with_reducible assumption | exact Nat.lt_of_lt_of_le (by assumption) (by decide) | exact Nat.lt_of_le_of_lt (by assumption) (by decide) | lia | omega)
end
noncomputable def sortN (l : List Nat) : List Nat := l.mergeSort (fun a b => decide (a ≤ b))
theorem sortN_perm (l : List Nat) : (sortN l).Perm l := List.mergeSort_perm l _
theorem sortN_sorted (l : List Nat) : (sortN l).Pairwise (· ≤ ·) := by
  have := List.pairwise_mergeSort (le := fun a b : Nat => decide (a ≤ b)) (fun a b c h1 h2 => by simp at *; (first | with_reducible assumption | exact Nat.lt_of_lt_of_le (by assumption) (by decide) | exact Nat.lt_of_le_of_lt (by assumption) (by decide) | lia | omega)) (fun a b => by simp; (first | with_reducible assumption | exact Nat.lt_of_lt_of_le (by assumption) (by decide) | exact Nat.lt_of_le_of_lt (by assumption) (by decide) | lia | omega)) l
  exact this.imp fun h => by simpa using h
theorem sortN_len (l : List Nat) : (sortN l).length = l.length := (sortN_perm l).length_eq
theorem zL_sorted {l : List Nat} (h : l.Pairwise (· ≤ ·)) : (zL l).Pairwise (· ≤ ·) := by
  unfold zL
  rw [List.pairwise_map]
  exact h.imp fun h => Int.ofNat_le.mpr h
theorem sort_eqN {ns : List Int} {l : List Nat} (p : ns.Perm (zL l)) (h : ns.Pairwise (· ≤ ·)) : ns = zL (sortN l) :=
  sort_uniq (p.trans ((sortN_perm l).map _).symm) h (zL_sorted (sortN_sorted l))
theorem sortZ_zL (l : List Nat) : sortZ (zL l) = zL (sortN l) := sort_eqN (sortZ_perm _) (sortZ_sorted _)
theorem sort_eqD {ns : List Int} {l : List Nat} (p : ns.Perm (zL l)) (h : ns.Pairwise (· ≤ ·)) : ns.map D.int = intL (sortN l) := by rw [sort_eqN p h, zL_int]
theorem sortN_uniq {a b : List Nat} (p : a.Perm b) (h : b.Pairwise (· ≤ ·)) : sortN a = b := by
  have := sort_uniq (((sortN_perm a).trans p).map Int.ofNat) (zL_sorted (sortN_sorted a)) (zL_sorted h)
  exact (List.map_inj_right fun x y e => Int.ofNat.inj e).mp this

noncomputable def dmap (S : List Nat) (f : Nat → D) : List (Int × D) := S.map fun x => ((x : Nat), f x)
theorem dmap_keys (S : List Nat) (f : Nat → D) : (dmap S f).map (·.1) = zL S := by unfold dmap zL; rw [List.map_map]; rfl
theorem dmap_len (S : List Nat) (f : Nat → D) : (dmap S f).length = S.length := List.length_map ..
theorem lookD_dmap (f : Nat → D) (x : Nat) : ∀ (S : List Nat), lookD (dmap S f) (x : Nat) = if x ∈ S then some (f x) else none
  | [] => rfl
  | y :: S => by
    have ih := lookD_dmap f x S
    unfold lookD dmap at *
    rw [List.map_cons, List.find?_cons]
    by_cases e : y = x
    · subst e
      simp
    · have h1 : decide (((y : Nat) : Int) = (x : Nat)) = false := decide_eq_false fun z => e (Int.ofNat.inj z)
      dsimp only
      rw [h1]
      dsimp only
      rw [ih]
      have : (x ∈ y :: S) ↔ x ∈ S := by rw [List.mem_cons]; exact ⟨fun h => h.resolve_left fun z => e z.symm, .inr⟩
      simp only [this]
theorem storeD_dmap {f : Nat → D} {x : Nat} {d : D} {S : List Nat} (h : x ∉ S) : storeD (dmap S f) (x : Nat) d = dmap S f ++ [(((x : Nat) : Int), d)] := by
  unfold storeD
  rw [if_neg]
  rw [List.any_eq_true]
  rintro ⟨kv, m, e⟩
  obtain ⟨y, my, rfl⟩ := List.mem_map.mp m
  have : y = x := Int.ofNat.inj (of_decide_eq_true e)
  exact h (this ▸ my)
theorem dmap_append (S T : List Nat) (f : Nat → D) : dmap (S ++ T) f = dmap S f ++ dmap T f := List.map_append ..
theorem dmap_congr {S : List Nat} {f f' : Nat → D} (h : ∀ x ∈ S, f x = f' x) : dmap S f = dmap S f' := List.map_congr_left fun x m => by rw [h x m]

noncomputable def behD (g : Gr) (its : List (Nat × Nat)) (x : Nat) : List Nat := sortN ((behindOf g x its).map g.enc)
noncomputable def behAll (g : Gr) (its : List (Nat × Nat)) : List (Int × D) := dmap (sortN (symsOf g its)) fun x => .tup (intL (behD g its x))

structure Beh (g : Gr) (G : GH) (b : Addr) (l : List (Nat × Nat)) (G' : GH) (L : Nat → Addr) : Prop where
  fresh : ∀ x ∈ symsOf g l, G (L x) = none ∧ L x ≠ b
  inj : ∀ x ∈ symsOf g l, ∀ y ∈ symsOf g l, L x = L y → x = y
  dic : G' b = some (.dict (dmap (symsOf g l) fun x => .ref (L x)))
  lst : ∀ x ∈ symsOf g l, G' (L x) = some (.list (encL g (behindOf g x l)))
  old : ∀ c, c ≠ b → (∀ x ∈ symsOf g l, c ≠ L x) → G' c = G c

section
variable {prog : Program} {w : World} {K : Frag} {a : Ad} {n : Nat} {sc : Scope} {tab : Tab} {ρ : Loc} {G : GH} {Q : D → GH → Prop} {g : Gr} {its : List (Nat × Nat)}
theorem syms_lt (ok : g.Ok) (l : List (Nat × Nat)) : ∀ x ∈ symsOf g l, x < g.names.length := fun x m => by
  obtain ⟨p, _, h⟩ := symsOf_mem.mp m
  exact ok.sym h
theorem syms_len (ok : g.Ok) (l : List (Nat × Nat)) : (symsOf g l).length ≤ 32 := Nat.le_trans (nodup_le _ _ (symsOf_nodup g l) (syms_lt ok l)) ok.ns
theorem encL_append (g : Gr) (l : List (Nat × Nat)) (p : Nat × Nat) : encL g (l ++ [p]) = encL g l ++ [.int (g.enc p : Nat)] := by unfold encL intL; rw [List.map_append, List.map_append]; rfl
theorem behind_nil {x : Nat} {l : List (Nat × Nat)} (h : x ∉ symsOf g l) : behindOf g x l = [] := by
  unfold behindOf
  rw [List.map_eq_nil_iff, List.filter_eq_nil_iff]
  intro p m e
  exact h (symsOf_mem.mpr ⟨p, m, of_decide_eq_true e⟩)

noncomputable def bhR (a : Ad) (g : Gr) (its : List (Nat × Nat)) (y0 y1 y2 y3 : Option D) : Loc := [some (g.d a), some (.list (encL g its)), y0, y1, y2, y3]
structure BehM (g : Gr) (G : GH) (b : Addr) (l l' : List (Nat × Nat)) (x : Nat) (G1 : GH) (L : Nat → Addr) : Prop where
  mem : x ∈ symsOf g l'
  fresh : ∀ y ∈ symsOf g l', G (L y) = none ∧ L y ≠ b
  inj : ∀ y ∈ symsOf g l', ∀ z ∈ symsOf g l', L y = L z → y = z
  dic : G1 b = some (.dict (dmap (symsOf g l') fun y => .ref (L y)))
  lst : ∀ y ∈ symsOf g l', G1 (L y) = some (.list (encL g (behindOf g y l)))
  old : ∀ c, c ≠ b → (∀ y ∈ symsOf g l', c ≠ L y) → G1 c = G c
section
variable {G' G1 : GH} {b c : Addr} {l l' : List (Nat × Nat)} {x : Nat} {p : Nat × Nat} {L : Nat → Addr}
theorem Beh.new (B : Beh g G b l G' L) (h : G' c = none) : c ≠ b ∧ (∀ y ∈ symsOf g l, L y ≠ c) ∧ G c = none := by
  have h1 := (GH.new_ne B.dic h).symm
  have h2 : ∀ y ∈ symsOf g l, L y ≠ c := fun y m => GH.new_ne (B.lst y m) h
  exact ⟨h1, h2, (B.old c h1 fun y m e => h2 y m e.symm) ▸ h⟩
theorem Beh.addN (B : Beh g G b l G' L) (hx : x ∉ symsOf g l) (hS : symsOf g l' = symsOf g l ++ [x]) (h : G' c = none) :
    BehM g G b l l' x ((G'.put c (.list [])).put b (.dict (storeD (dmap (symsOf g l) fun y => .ref (L y)) (x : Nat) (.ref c)))) (ext L x c) := by
  obtain ⟨hcb, hcL, hcG⟩ := B.new h
  have mm : ∀ {y : Nat}, y ∈ symsOf g l' → y = x ∨ (¬ y = x ∧ y ∈ symsOf g l) := fun {y} m => by
    rw [hS, List.mem_append, List.mem_singleton] at m
    by_cases e : y = x
    · exact .inl e
    · exact .inr ⟨e, m.resolve_right e⟩
  refine ⟨?_, fun y m => ?_, fun y m1 z m2 e => ?_, ?_, fun y m => ?_, fun c' h1 h2 => ?_⟩
  · rw [hS]; exact List.mem_append_right _ (.head _)
  · rcases mm m with rfl | ⟨e, m⟩
    · rw [ext_at]; exact ⟨hcG, hcb⟩
    · rw [ext_ne e]; exact B.fresh y m
  · rcases mm m1 with rfl | ⟨e1, m1⟩
    · rcases mm m2 with rfl | ⟨e2, m2⟩
      · rfl
      · rw [ext_at, ext_ne e2] at e; exact absurd e.symm (hcL z m2)
    · rcases mm m2 with rfl | ⟨e2, m2⟩
      · rw [ext_at, ext_ne e1] at e; exact absurd e (hcL y m1)
      · rw [ext_ne e1, ext_ne e2] at e; exact B.inj y m1 z m2 e
  · have e1 : dmap (symsOf g l) (fun y => D.ref (L y)) = dmap (symsOf g l) fun y => D.ref (ext L x c y) := dmap_congr fun y m => by rw [ext_ne fun (e : y = x) => hx (e ▸ m)]
    have e2 : D.ref c = D.ref (ext L x c x) := by rw [ext_at]
    rw [GH.put_self, storeD_dmap hx, hS, dmap_append, e1, e2]; rfl
  · rcases mm m with rfl | ⟨e, m⟩
    · rw [ext_at, behind_nil hx]; exact GH.put_at GH.put_self hcb
    · rw [ext_ne e]; exact GH.put_at (GH.put_at (B.lst y m) (hcL y m)) (B.fresh y m).2
  · have hx' := h2 x (by rw [hS]; exact List.mem_append_right _ (.head _))
    rw [ext_at] at hx'
    rw [GH.put_ne h1, GH.put_ne hx']
    refine B.old c' h1 fun y m => ?_
    have := h2 y (by rw [hS]; exact List.mem_append_left _ m)
    rwa [ext_ne fun (e : y = x) => hx (e ▸ m)] at this
theorem BehM.done (B : BehM g G b l l' x G1 L) (hBl : ∀ y, behindOf g y l' = if some x = some y then behindOf g y l ++ [p] else behindOf g y l) :
    Beh g G b l' (G1.put (L x) (.list (encL g (behindOf g x l) ++ [.int (g.enc p : Nat)]))) L := by
  refine ⟨B.fresh, B.inj, GH.put_at B.dic (B.fresh x B.mem).2.symm, fun y m => ?_, fun c h1 h2 => (GH.put_ne (h2 x B.mem)).trans (B.old c h1 h2)⟩
  rw [hBl y]
  by_cases e : y = x
  · subst e
    rw [if_pos rfl, GH.put_self, encL_append]
  · rw [if_neg (fun q => e (Option.some.inj q).symm)]
    exact GH.put_at (B.lst y m) fun q => e (B.inj y m x B.mem q)
theorem Beh.stay (B : Beh g G b l G' L) (hS : symsOf g l' = symsOf g l) (hBl : ∀ y, behindOf g y l' = behindOf g y l) : Beh g G b l' G' L := by
  refine ⟨?_, ?_, ?_, fun y m => ?_, ?_⟩
  · rw [hS]; exact B.fresh
  · rw [hS]; exact B.inj
  · rw [hS]; exact B.dic
  · rw [hBl]; exact B.lst y (hS ▸ m)
  · rw [hS]; exact B.old
end
inductive BhJ (a : Ad) (g : Gr) (its : List (Nat × Nat)) (G : GH) (b : Addr) (i : Nat) (ρ : Loc) (G' : GH) : Prop
  | mk (d3 d4 : Option D) (L : Nat → Addr) : ρ = bhR a g its (some (.ref b)) d3 d4 none → Beh g G b (its.take i) G' L → BhJ a g its G b i ρ G'
inductive BhM (a : Ad) (g : Gr) (its : List (Nat × Nat)) (G : GH) (b : Addr) (p : Nat × Nat) (x : Nat) (l l' : List (Nat × Nat)) (ρ : Loc) (G' : GH) : Prop
  | mk (L : Nat → Addr) : ρ = bhR a g its (some (.ref b)) (some (.int (g.enc p : Nat))) (some (.int (x : Nat))) none → BehM g G b l l' x G' L → BhM a g its G b p x l l' ρ G'
theorem bh_sign (X : Ctx w K a) (ok : g.Ok) {p : Nat × Nat} {x : Nat} {b : Addr} {l l' : List (Nat × Nat)} {L : Nat → Addr} {G' : GH} {P : Fl → Loc → GH → Prop} (hit : g.It p.1 p.2) (z : nxt g p = some x) (hll : l.length < 64)
    (hS : symsOf g l' = symS g (symsOf g l) p) (hBl : ∀ y, behindOf g y l' = if some x = some y then behindOf g y l ++ [(p.1, p.2 + 1)] else behindOf g y l) (B : Beh g G b l G' L)
    (q : ∀ G1 L', Beh g G b l' G1 L' → P .next (bhR a g its (some (.ref b)) (some (.int (g.enc p : Nat))) (some (.int (x : Nat))) none) G1) :
    SX prog w K 2 (scopeF (stT 13)) tab_kernels_behind (bhR a g its (some (.ref b)) (some (.int (g.enc p : Nat))) (some (.int (x : Nat))) none) G' (subB (subB (bodyF (stT 13))[1]?)[1]?) P := by
  have hit2 : g.It p.1 (p.2 + 1) := ⟨hit.1, (List.getElem?_eq_some_iff.mp z).1⟩
  refine SX_seq (BhM a g its G b p x l l') (S1_if (TX_cmp (EX_name (by rfl) (by rfl) (EX_name (by rfl) (by rfl) (OP_notInD X.ok.sys (.live B.dic) ⟨_, rfl, fun hc => ?_, fun hc => ?_⟩))))) ?_
  · have hx : x ∉ symsOf g l := fun m => by rw [lookD_dmap, if_pos m] at hc; cases hc
    have hS' : symsOf g l' = symsOf g l ++ [x] := by rw [hS]; unfold symS; rw [z]; dsimp only; rw [if_neg hx]
    refine SX_next (S1_assign (EX_listG ⟨by decide, fun c hcn => AX_subD (EX_name (by rfl) (by rfl) (EX_name (by rfl) (by rfl) ⟨b, dmap (symsOf g l) fun x => .ref (L x), _, rfl, GH.put_at B.dic (GH.new_ne B.dic hcn), rfl, by rw [dmap_len]; exact Nat.lt_of_le_of_lt (syms_len ok l) (by decide), ⟨rfl, SX_nil ⟨rfl, _, rfl, B.addN hx hS' hcn⟩⟩⟩))⟩) (fun _ _ => swapsWith_plain rfl) (fun _ _ => rfl) rfl)
  · have hx : x ∈ symsOf g l := by
      by_cases m : x ∈ symsOf g l
      · exact m
      · rw [lookD_dmap, if_neg m] at hc; cases hc
    have hS' : symsOf g l' = symsOf g l := by rw [hS]; unfold symS; rw [z]; dsimp only; rw [if_pos hx]
    exact SX_nil ⟨rfl, L, rfl, ⟨hS' ▸ hx, hS' ▸ B.fresh, hS' ▸ B.inj, hS' ▸ B.dic, hS' ▸ B.lst, hS' ▸ B.old⟩⟩
  · rintro ρ₁ G₁ ⟨L', rfl, B⟩
    refine SX_next (S1_expr (EX_methB PySem.F.slot_list_append PySem.F.plainAttrs_list PySem.F.type_list_append (EX_indexD X.ok.sys (EX_name (by rfl) (by rfl) (EX_name (by rfl) (by rfl) ⟨_, _, _, .live B.dic, rfl, by rw [lookD_dmap, if_pos B.mem], .lst (.live (B.lst x B.mem)), EX_call (X.cg (by rfl) (by rfl) (by rfl)) (.of X.d_advanced.keep) (EX_name (by rfl) (by rfl) (EX_name (by rfl) (by rfl) (FN.le (w_advanced X ok hit hit2 ?_) (by decide)).op))⟩)))))
    refine OP_append (B.lst x B.mem) ?_ ⟨rfl, rfl, SX_nil (q _ L' (B.done hBl))⟩
    rw [encL_len]
    have : (behindOf g x l).length ≤ l.length := by unfold behindOf; rw [List.length_map]; exact List.length_filter_le ..
    exact Nat.lt_trans (Nat.lt_of_le_of_lt this hll) (by decide)
theorem w_behind (X : Ctx w K a) (ok : g.Ok) (hk : g.Its its) (hz : its.length < 64) (q : Q (.dict (behAll g its)) G) : FN prog w K 3 G a.behind [g.d a, .list (encL g its)] Q := by
  refine FN.melt (X.d_behind.fn X.ok (by rfl) (by rfl) ?_)
  show SX _ _ _ _ _ _ (bhR a g its none none none none) _ _ _
  refine SX_next (S1_name (by rfl) (tab_inj (by rfl)) (EX_dict0 fun b hb => ⟨rfl, ?_⟩))
  refine SX_seq (BhJ a g its G b its.length) (S1_for (SRC_list (EX_name (by rfl) (by rfl) ⟨_, rfl, ?_⟩))) ?_
  · refine ForX_ind (BhJ a g its G b) (fun i d ρ G' hi hJ => ?_) (fun ρ G' hJ => ⟨rfl, by rw [encL_len] at hJ; exact hJ⟩) ⟨none, none, fun _ => b, rfl, ?_⟩
    · obtain ⟨p, hp, rfl⟩ := enc_item hi
      obtain ⟨d3, d4, L, rfl, B⟩ := hJ
      have hit : g.It p.1 p.2 := hk p (List.mem_of_getElem? hp)
      have hS := symsOf_succ (g := g) hp
      have hBl : ∀ x, behindOf g x (its.take (i + 1)) = _ := fun x => behindOf_succ (g := g) (x := x) hp
      have hll : (its.take i).length < 64 := Nat.lt_of_le_of_lt (List.length_take_le' i its) hz
      refine AX_name (by rfl) (tab_inj (by rfl)) ?_
      show SX _ _ _ _ _ _ (bhR a g its (some (.ref b)) (some (.int (g.enc p : Nat))) d4 none) _ _ _
      refine SX_next (S1_name (by rfl) (tab_inj (by rfl)) (EX_methU (EX_name (by rfl) (by rfl) ⟨_, _, _, .frozen, X.c_Grammar, X.m_Grammar_after, by rfl, EX_name (by rfl) (by rfl) (FN.le (w_after X ok hit ⟨rfl, ?_⟩) (by decide))⟩)))
      refine SX_next (S1_if (TX_cmp (EX_name (by rfl) (by rfl) (EX_int (OP_ge ⟨_, rfl, fun hc => ?_, fun hc => ?_⟩)))))
      · have hc := of_decide_eq_true hc
        rw [nx_nxt] at hc
        cases z : nxt g p with
        | none => rw [z] at hc; exact absurd hc (by decide)
        | some x =>
          rw [z] at hBl
          have hnx : g.nx p.1 p.2 = (x : Nat) := by rw [nx_nxt, z]
          rw [hnx]
          exact bh_sign X ok hit z hll hS hBl B fun G1 L' B1 => ⟨rfl, SX_nil ⟨fun _ => ⟨_, _, L', rfl, B1⟩, fun _ e => (nomatch e)⟩⟩
      · have hc := of_decide_eq_false hc
        rw [nx_nxt] at hc
        cases z : nxt g p with
        | some x => rw [z] at hc; exact absurd (Int.natCast_nonneg x) hc
        | none =>
          rw [z] at hBl
          exact SX_nil ⟨rfl, SX_nil ⟨fun _ => ⟨_, _, L, rfl, B.stay (by rw [hS]; unfold symS; rw [z]) fun y => by rw [hBl y, if_neg (fun e => (nomatch e))]⟩, fun _ e => (nomatch e)⟩⟩
    · rw [List.take_zero]
      exact ⟨fun x m => (nomatch m), fun x m => (nomatch m), GH.put_self, fun x m => (nomatch m), fun c h _ => GH.put_ne h⟩
  · rintro ρ₁ G₁ ⟨d3, d4, L, rfl, B⟩
    rw [List.take_length] at B
    refine SX_next (S1_name (by rfl) (tab_inj (by rfl)) (EX_dict0 fun c hc => ⟨rfl, ?_⟩))
    obtain ⟨hcb, hcL, hcG⟩ := B.new hc
    let f : Nat → D := fun x => .tup (intL (behD g its x))
    let J : Nat → Loc → GH → Prop := fun i => Ex2 (fun d3 d4 => (bhR a g its (some (.ref b)) d3 d4 (some (.ref c)))) (G₁.put c (.dict (dmap ((sortN (symsOf g its)).take i) f)))
    refine SX_seq (J (symsOf g its).length) (S1_for (SRC_list (EX_call (X.cb (by rfl) (by rfl) (by rfl)) (.builtin _) (EX_name (by rfl) (by rfl) (OP_sortD X.ok.sys (.live (GH.put_at B.dic hcb.symm)) (by rw [dmap_len]; have := syms_len ok its; (first | with_reducible assumption | exact Nat.lt_of_lt_of_le (by assumption) (by decide) | exact Nat.lt_of_le_of_lt (by assumption) (by decide) | lia | omega)) fun ns hp hs => ⟨_, rfl, ?_⟩))))) ?_
    · rw [dmap_keys] at hp
      rw [sort_eqD hp hs]
      refine ForX_ind J (fun i d ρ G' hi hJ => ?_) (fun ρ G' hJ => ⟨rfl, by rw [intL_len, sortN_len] at hJ; exact hJ⟩) ⟨d3, d4, rfl, by rw [List.take_zero]; rfl⟩
      obtain ⟨x, hx, rfl⟩ := intL_item hi
      obtain ⟨d3, d4, rfl, rfl⟩ := hJ
      have hm : x ∈ symsOf g its := (sortN_perm _).mem_iff.mp (List.mem_of_getElem? hx)
      have hnd : (sortN (symsOf g its)).Nodup := (sortN_perm _).nodup_iff.mpr (symsOf_nodup g its)
      have hnot : x ∉ (sortN (symsOf g its)).take i := fun m => by
        obtain ⟨j, hj, e⟩ := List.getElem_of_mem m
        rw [List.getElem_take] at e
        have hj' : j < i := by rw [List.length_take] at hj; (first | with_reducible assumption | exact Nat.lt_of_lt_of_le (by assumption) (by decide) | exact Nat.lt_of_le_of_lt (by assumption) (by decide) | lia | omega)
        obtain ⟨hi', e'⟩ := List.getElem?_eq_some_iff.mp hx
        have := (List.getElem?_inj (i := j) (j := i) (by (first | with_reducible assumption | exact Nat.lt_of_lt_of_le (by assumption) (by decide) | exact Nat.lt_of_le_of_lt (by assumption) (by decide) | lia | omega)) hnd).mp (by rw [List.getElem?_eq_getElem (by (first | with_reducible assumption | exact Nat.lt_of_lt_of_le (by assumption) (by decide) | exact Nat.lt_of_le_of_lt (by assumption) (by decide) | lia | omega)), List.getElem?_eq_getElem hi', e, e'])
        (first | with_reducible assumption | exact Nat.lt_of_lt_of_le (by assumption) (by decide) | exact Nat.lt_of_le_of_lt (by assumption) (by decide) | lia | omega)
      refine AX_name (by rfl) (tab_inj (by rfl)) ?_
      show SX _ _ _ _ _ _ (bhR a g its (some (.ref b)) d3 (some (.int (x : Nat))) (some (.ref c))) _ _ _
      refine SX_next (S1_assign (EX_call (X.cb (by rfl) (by rfl) (by rfl)) (.type _) (EX_call (X.cb (by rfl) (by rfl) (by rfl)) (.builtin _) (EX_indexD X.ok.sys (EX_name (by rfl) (by rfl) (EX_name (by rfl) (by rfl) ⟨_, _, _, .live (GH.put_at B.dic hcb.symm), rfl, by rw [lookD_dmap, if_pos hm], ?_⟩))))) (fun _ _ => swapsWith_plain rfl) (fun _ _ => rfl) rfl)
      refine OP_sortI (ns := zL ((behindOf g x its).map g.enc)) (by rw [zL_int]; exact .live (GH.put_at (B.lst x hm) (hcL x hm))) ?_ fun ns hp hs => ?_
      · unfold zL; rw [List.length_map, List.length_map]
        have : (behindOf g x its).length ≤ its.length := by unfold behindOf; rw [List.length_map]; exact List.length_filter_le ..
        (first | with_reducible assumption | exact Nat.lt_of_lt_of_le (by assumption) (by decide) | exact Nat.lt_of_le_of_lt (by assumption) (by decide) | lia | omega)
      · rw [sort_eqD hp hs]
        refine OP_tuple .frozen ?_ (AX_subD (EX_name (by rfl) (by rfl) (EX_name (by rfl) (by rfl) ⟨c, _, _, rfl, GH.put_self, rfl, ?_, ?_⟩)))
        · rw [intL_len, sortN_len, List.length_map]
          have : (behindOf g x its).length ≤ its.length := by unfold behindOf; rw [List.length_map]; exact List.length_filter_le ..
          (first | with_reducible assumption | exact Nat.lt_of_lt_of_le (by assumption) (by decide) | exact Nat.lt_of_le_of_lt (by assumption) (by decide) | lia | omega)
        · rw [dmap_len]
          have h1 := List.length_take_le' i (sortN (symsOf g its))
          rw [sortN_len] at h1
          have := syms_len ok its
          (first | with_reducible assumption | exact Nat.lt_of_lt_of_le (by assumption) (by decide) | exact Nat.lt_of_le_of_lt (by assumption) (by decide) | lia | omega)
        · refine ⟨rfl, SX_nil ⟨fun _ => ⟨_, _, rfl, ?_⟩, fun _ e => (nomatch e)⟩⟩
          rw [put_put, storeD_dmap hnot, List.take_succ, hx, dmap_append]
          rfl
    · rintro ρ₂ G₂ ⟨d3, d4, rfl, rfl⟩
      rw [← sortN_len (symsOf g its), List.take_length]
      refine SX_ret (EX_name (by rfl) (by rfl) ⟨G, .dict (behAll g its), fun y c' e => ⟨c', ?_, .same _⟩, .dictG GH.put_self hcG (MeltKv.same _), q⟩)
      have h2 := GH.new_ne e hb
      exact GH.put_at ((B.old y h2 fun x m => GH.new_ne e (B.fresh x m).1).trans e) (GH.new_ne e hcG)
end
noncomputable def bt (l : List Nat) (x y : Nat) : Bool := (l.getD x 0).testBit y
theorem getD_set (l : List Nat) (i j v : Nat) (h : i < l.length) : (l.set i v).getD j 0 = if i = j then v else l.getD j 0 := by
  rw [List.getD_eq_getElem?_getD, List.getElem?_set, List.getD_eq_getElem?_getD]
  by_cases e : i = j
  · subst e
    rw [if_pos rfl, if_pos h, if_pos rfl]; rfl
  · rw [if_neg e, if_neg e]
theorem warIn_bit (m : Nat) (fs : List Nat) (x y : Nat) : ∀ k, k ≤ fs.length → bt (warIn m fs k) x y = if x < k then (bt fs x y || (bt fs x m && bt fs m y)) else bt fs x y
  | 0, _ => by rw [if_neg (Nat.not_lt_zero _)]; rfl
  | k + 1, hk => by
    have ih := fun x y => warIn_bit m fs x y k (by lia)
    have hm : ∀ y, bt (warIn m fs k) m y = bt fs m y := fun y => by
      rw [ih m y]; split
      · cases bt fs m y <;> simp
      · rfl
    have hkm : bt (warIn m fs k) k m = bt fs k m := by rw [ih, if_neg (Nat.lt_irrefl _)]
    have hky : bt (warIn m fs k) k y = bt fs k y := by rw [ih, if_neg (Nat.lt_irrefl _)]
    rw [warIn_succ]
    by_cases z : ((warIn m fs k).getD k 0).testBit m = true
    · rw [if_pos z]
      have z' : bt fs k m = true := hkm ▸ z
      unfold bt
      rw [getD_set _ _ _ _ (by rw [warIn_len]; lia)]
      by_cases e : k = x
      · subst e
        rw [if_pos rfl, if_pos (Nat.lt_succ_self _), Nat.testBit_or]
        show (bt (warIn m fs k) k y || bt (warIn m fs k) m y) = (bt fs k y || (bt fs k m && bt fs m y))
        rw [hky, hm, z', Bool.true_and]
      · rw [if_neg e]
        show bt (warIn m fs k) x y = _
        rw [ih x y]
        by_cases l : x < k
        · rw [if_pos l, if_pos (by lia)]; rfl
        · rw [if_neg l, if_neg (by lia)]; rfl
    · rw [if_neg z, ih x y]
      have z' : bt fs k m = false := by rw [← hkm]; exact Bool.eq_false_iff.mpr z
      by_cases l : x < k
      · rw [if_pos l, if_pos (by lia)]
      · rw [if_neg l]
        by_cases e : x = k
        · subst e; rw [if_pos (Nat.lt_succ_self _), z']; simp
        · rw [if_neg (by lia)]

inductive Pth (R : Nat → Nat → Prop) (m : Nat) : Nat → Nat → Prop
  | one {x y : Nat} : R x y → Pth R m x y
  | more {x y z : Nat} : Pth R m x z → z < m → Pth R m z y → Pth R m x y
theorem Pth.up {R : Nat → Nat → Prop} {m k x y : Nat} (h : Pth R m x y) (l : m ≤ k) : Pth R k x y := by
  induction h with
  | one h => exact .one h
  | more _ hz _ i1 i2 => exact .more i1 (by lia) i2
theorem Pth.succ {R : Nat → Nat → Prop} {m x y : Nat} : Pth R (m + 1) x y ↔ Pth R m x y ∨ (Pth R m x m ∧ Pth R m m y) := by
  constructor
  · intro h
    induction h with
    | one h => exact .inl (.one h)
    | @more x y z _ hz _ i1 i2 =>
      by_cases e : z = m
      · subst e
        have h1 : Pth R z x z := i1.elim id (·.1)
        have h2 : Pth R z z y := i2.elim id (·.2)
        exact .inr ⟨h1, h2⟩
      · have hz' : z < m := by lia
        rcases i1 with i1 | ⟨a1, a2⟩
        · rcases i2 with i2 | ⟨b1, b2⟩
          · exact .inl (.more i1 hz' i2)
          · exact .inr ⟨.more i1 hz' b1, b2⟩
        · rcases i2 with i2 | ⟨b1, b2⟩
          · exact .inr ⟨a1, .more a2 hz' i2⟩
          · exact .inr ⟨a1, b2⟩
  · rintro (h | ⟨h1, h2⟩)
    · exact h.up (by lia)
    · exact .more (h1.up (by lia)) (by lia) (h2.up (by lia))
theorem war_bit (rows : List Nat) : ∀ m, m ≤ rows.length → ∀ x, x < rows.length → ∀ y, (bt (war rows m) x y = true ↔ Pth (fun x y => bt rows x y = true) m x y)
  | 0, _, x, hx, y => by
    constructor
    · exact fun h => Pth.one (R := fun x y => bt rows x y = true) h
    · intro h
      cases h with
      | one h => exact h
      | more _ hz _ => exact absurd hz (Nat.not_lt_zero _)
  | m + 1, hm, x, hx, y => by
    have ih := war_bit rows m (by lia)
    rw [war, warIn_bit _ _ _ _ _ (by rw [war_len]; exact Nat.le_refl _), if_pos hx, Pth.succ, Bool.or_eq_true, Bool.and_eq_true, ih x hx, ih x hx, ih m (by lia)]
noncomputable def Fst (g : Gr) (x y : Nat) : Prop := ∃ j, j < g.rules.length ∧ g.left j = x ∧ (g.right j)[0]? = some y
theorem rowsG_bit {g : Gr} (ok : g.Ok) (x y : Nat) : ∀ i, i ≤ g.rules.length → (bt (rowsG g i) x y = true ↔ ∃ j, j < i ∧ g.left j = x ∧ (g.right j)[0]? = some y)
  | 0, _ => by
    constructor
    · intro h
      unfold bt rowsG at h
      rw [List.getD_eq_getElem?_getD, List.getElem?_replicate] at h
      split at h <;> simp at h
    · rintro ⟨j, h, _⟩; exact absurd h (Nat.not_lt_zero _)
  | i + 1, hi => by
    have ih := rowsG_bit ok x y i (by lia)
    have hlt : g.left i < g.names.length := by
      have : g.rules[i]? = some (g.rules.getD i (0, [], 0)) := by
        rw [List.getD_eq_getElem?_getD, List.getElem?_eq_getElem (by lia)]; rfl
      exact (ok.lt _ (List.mem_of_getElem? this)).1
    have key : bt (rowsG g (i + 1)) x y = true ↔ bt (rowsG g i) x y = true ∨ (g.left i = x ∧ (g.right i)[0]? = some y) := by
      cases z : g.right i with
      | nil => rw [rowsG_nil z]; simp
      | cons v l =>
        rw [rowsG_cons z]
        unfold bt
        rw [getD_set _ _ _ _ (by rw [rowsG_len]; exact hlt)]
        by_cases e : g.left i = x
        · subst e
          rw [if_pos rfl, Nat.testBit_or, Bool.or_eq_true, Nat.testBit_two_pow]
          simp
        · rw [if_neg e]; simp [e]
    rw [key, ih]
    constructor
    · rintro (⟨j, h1, h2⟩ | h)
      · exact ⟨j, by lia, h2⟩
      · exact ⟨i, by lia, h⟩
    · rintro ⟨j, h1, h2⟩
      by_cases e : j = i
      · subst e; exact .inr h2
      · exact .inl ⟨j, by lia, h2⟩
theorem firsts_bit {g : Gr} (ok : g.Ok) {x : Nat} (hx : x < g.names.length) (y : Nat) : bt g.firsts x y = true ↔ Pth (Fst g) g.names.length x y := by
  have h := war_bit (rowsG g g.rules.length) g.names.length (by rw [rowsG_len]; exact Nat.le_refl _) x (by rw [rowsG_len]; exact hx) y
  have e : (fun x y => bt (rowsG g g.rules.length) x y = true) = Fst g := by
    funext x y
    exact propext (rowsG_bit ok x y _ (Nat.le_refl _))
  rw [e] at h
  exact h

noncomputable def Wnt (g : Gr) (k : List (Nat × Nat)) (x : Nat) : Prop := ∃ p ∈ k, ∃ y, nxt g p = some y ∧ (x = y ∨ Pth (Fst g) g.names.length y x)
theorem foldl_want {g : Gr} (ok : g.Ok) (x : Nat) : ∀ (k : List (Nat × Nat)) (m : Nat), (k.foldl (wantS g) m).testBit x = true ↔ m.testBit x = true ∨ Wnt g k x
  | [], m => by
    constructor
    · exact .inl
    · rintro (h | ⟨p, m, _⟩)
      · exact h
      · cases m
  | p :: k, m => by
    rw [List.foldl_cons, foldl_want ok x k]
    have key : (wantS g m p).testBit x = true ↔ m.testBit x = true ∨ ∃ y, nxt g p = some y ∧ (x = y ∨ Pth (Fst g) g.names.length y x) := by
      unfold wantS
      show (match nxt g p with | some x => m ||| 2 ^ x ||| g.firsts.getD x 0 | none => m).testBit x = true ↔ _
      cases z : nxt g p with
      | none => simp
      | some y =>
        have hb := firsts_bit ok (ok.sym z) x
        unfold bt at hb
        dsimp only
        rw [Nat.testBit_or, Nat.testBit_or, Bool.or_eq_true, Bool.or_eq_true, hb, Nat.testBit_two_pow]
        simp only [decide_eq_true_eq, Option.some.injEq]
        constructor
        · rintro ((h | h) | h)
          · exact .inl h
          · exact .inr ⟨y, rfl, .inl h.symm⟩
          · exact .inr ⟨y, rfl, .inr h⟩
        · rintro (h | ⟨y', rfl, h | h⟩)
          · exact .inl (.inl h)
          · exact .inl (.inr h.symm)
          · exact .inr h
    rw [key]
    constructor
    · rintro ((h | ⟨y, h⟩) | ⟨q, mq, h⟩)
      · exact .inl h
      · exact .inr ⟨p, .head _, y, h⟩
      · exact .inr ⟨q, .tail _ mq, h⟩
    · rintro (h | ⟨q, mq, h⟩)
      · exact .inl (.inl h)
      · rcases List.mem_cons.mp mq with rfl | mq
        · obtain ⟨y, h⟩ := h; exact .inl (.inr ⟨y, h⟩)
        · exact .inr ⟨q, mq, h⟩
theorem want_bit {g : Gr} (ok : g.Ok) (k : List (Nat × Nat)) (x : Nat) : (wantM g k).testBit x = true ↔ Wnt g k x := by
  unfold wantM
  rw [foldl_want ok]; simp

inductive Rch (g : Gr) (k : List (Nat × Nat)) : Nat × Nat → Prop
  | base {p : Nat × Nat} : p ∈ k → Rch g k p
  | step {p : Nat × Nat} {i : Nat} : Rch g k p → i < g.rules.length → nxt g p = some (g.left i) → Rch g k (i, 0)
theorem rch_iff {g : Gr} (ok : g.Ok) {k : List (Nat × Nat)} {i : Nat} (hi : i < g.rules.length) (hk : (i, 0) ∉ k) : Rch g k (i, 0) ↔ Wnt g k (g.left i) := by
  have fw : ∀ q, Rch g k q → q ∉ k → q.2 = 0 ∧ q.1 < g.rules.length ∧ Wnt g k (g.left q.1) := by
    intro q h
    induction h with
    | base m => exact fun n => absurd m n
    | @step p i hp hi hn ih =>
      intro hni
      refine ⟨rfl, hi, ?_⟩
      by_cases m : p ∈ k
      · exact ⟨p, m, _, hn, .inl rfl⟩
      · obtain ⟨h0, hpl, r, mr, y, hy, hh⟩ := ih m
        have hR : Fst g (g.left p.1) (g.left i) := ⟨p.1, hpl, rfl, by unfold nxt at hn; rw [h0] at hn; exact hn⟩
        refine ⟨r, mr, y, hy, .inr ?_⟩
        rcases hh with e | hh
        · rw [← e]; exact .one hR
        · refine .more hh ?_ (.one hR)
          have : g.rules[p.1]? = some (g.rules.getD p.1 (0, [], 0)) := by
            rw [List.getD_eq_getElem?_getD, List.getElem?_eq_getElem hpl]; rfl
          exact (ok.lt _ (List.mem_of_getElem? this)).1
  have bw : ∀ y z, Pth (Fst g) g.names.length y z → ∀ q, Rch g k q → nxt g q = some y → ∃ r, Rch g k r ∧ nxt g r = some z := by
    intro y z h
    induction h with
    | one h =>
      intro q hq e
      obtain ⟨j, hj, hl, hr⟩ := h
      exact ⟨(j, 0), .step hq hj (by rw [hl]; exact e), hr⟩
    | more _ _ _ i1 i2 =>
      intro q hq e
      obtain ⟨r, hr, er⟩ := i1 q hq e
      exact i2 r hr er
  constructor
  · intro h; exact (fw _ h hk).2.2
  · rintro ⟨p, mp, y, hy, e | h⟩
    · exact .step (.base mp) hi (by rw [e]; exact hy)
    · obtain ⟨r, hr, er⟩ := bw _ _ h p (.base mp) hy
      exact .step hr hi er

noncomputable def pk (p : Nat × Nat) : Nat := p.1 * 1048576 + p.2
noncomputable def srt (l : List (Nat × Nat)) : List (Nat × Nat) := l.mergeSort (fun p q => decide (pk p ≤ pk q))
theorem srt_perm (l : List (Nat × Nat)) : (srt l).Perm l := List.mergeSort_perm l _
theorem srt_sorted (l : List (Nat × Nat)) : (srt l).Pairwise (fun p q => pk p ≤ pk q) := by
  have := List.pairwise_mergeSort (le := fun p q : Nat × Nat => decide (pk p ≤ pk q)) (fun a b c h1 h2 => by simp at *; lia) (fun a b => by simp; lia) l
  exact this.imp fun h => by simpa using h
theorem offL_lt : ∀ (rs : List (Nat × List Nat × Int)) (k i j : Nat), i < j → j < rs.length → (offL rs k).getD i 0 + (rs.getD i (0, [], 0)).2.1.length < (offL rs k).getD j 0
  | [], k, i, j, h1, h2 => absurd h2 (Nat.not_lt_zero _)
  | r :: rs, k, 0, j + 1, h1, h2 => by
    have ge : ∀ (rs : List (Nat × List Nat × Int)) (k j : Nat), j < rs.length → k ≤ (offL rs k).getD j 0 := by
      intro rs
      induction rs with
      | nil => intro k j h; exact absurd h (Nat.not_lt_zero _)
      | cons r rs ih =>
        intro k j h
        cases j with
        | zero => exact Nat.le_refl _
        | succ j =>
          have := ih (k + r.2.1.length + 1) j (by simpa using h)
          show k ≤ (offL rs (k + r.2.1.length + 1)).getD j 0
          lia
    have := ge rs (k + r.2.1.length + 1) j (by simpa using h2)
    show k + r.2.1.length < (offL rs (k + r.2.1.length + 1)).getD j 0
    lia
  | r :: rs, k, i + 1, j + 1, h1, h2 => offL_lt rs (k + r.2.1.length + 1) i j (by lia) (by simpa using h2)
theorem enc_le {g : Gr} (ok : g.Ok) {p q : Nat × Nat} (hp : g.It p.1 p.2) (hq : g.It q.1 q.2) : g.enc p ≤ g.enc q ↔ pk p ≤ pk q := by
  have b1 := hp.bound ok
  have b2 := hq.bound ok
  unfold Gr.enc pk
  rcases Nat.lt_trichotomy p.1 q.1 with h | h | h
  · have : g.off p.1 + (g.right p.1).length < g.off q.1 := offL_lt g.rules 0 _ _ h hq.1
    have := hp.2
    lia
  · rw [h]; lia
  · have : g.off q.1 + (g.right q.1).length < g.off p.1 := offL_lt g.rules 0 _ _ h hp.1
    have := hq.2
    lia
theorem enc_inj {g : Gr} (ok : g.Ok) {p q : Nat × Nat} (hp : g.It p.1 p.2) (hq : g.It q.1 q.2) (h : g.enc p = g.enc q) : p = q := by
  have b1 := hp.bound ok
  have b2 := hq.bound ok
  have h1 := (enc_le ok hp hq).mp (by lia)
  have h2 := (enc_le ok hq hp).mp (by lia)
  unfold pk at h1 h2
  have := hp.bound ok
  have := hq.bound ok
  obtain ⟨p1, p2⟩ := p
  obtain ⟨q1, q2⟩ := q
  dsimp only at *
  have e1 : p1 = q1 := by lia
  subst e1
  have e2 : p2 = q2 := by lia
  rw [e2]
theorem sorted_enc {g : Gr} (ok : g.Ok) {l : List (Nat × Nat)} (hk : g.Its l) (h : l.Pairwise (fun p q => pk p ≤ pk q)) : (l.map g.enc).Pairwise (· ≤ ·) := by
  rw [List.pairwise_map]
  refine List.Pairwise.imp_of_mem (fun {p q} mp mq hpq => (enc_le ok (hk p mp) (hk q mq)).mpr hpq) h
theorem Its.perm {g : Gr} {l l' : List (Nat × Nat)} (h : g.Its l) (p : l'.Perm l) : g.Its l' := fun x m => h x (p.mem_iff.mp m)
theorem sortN_srt {g : Gr} (ok : g.Ok) {l : List (Nat × Nat)} (hk : g.Its l) : sortN (l.map g.enc) = (srt l).map g.enc :=
  sortN_uniq ((srt_perm l).symm.map _) (sorted_enc ok (Its.perm hk (srt_perm l)) (srt_sorted l))
theorem pairs_uniq : ∀ {a b : List (Nat × Nat)}, a.Perm b → a.Pairwise (fun p q => pk p ≤ pk q) → b.Pairwise (fun p q => pk p ≤ pk q) → (∀ p ∈ a, p.2 < 1048576) → a = b
  | [], b, p, _, _, _ => by rw [List.nil_perm.mp p]
  | x :: a, [], p, _, _, _ => by cases (List.perm_nil.mp p)
  | x :: a, y :: b, p, ha, hb, h => by
    rw [List.pairwise_cons] at ha hb
    have hx : x ∈ y :: b := p.mem_iff.mp (.head _)
    have hy : y ∈ x :: a := p.mem_iff.mpr (.head _)
    have e : x = y := by
      have l1 : pk x ≤ pk y := by
        rcases List.mem_cons.mp hy with e | h2
        · rw [e]; exact Nat.le_refl _
        · exact ha.1 y h2
      have l2 : pk y ≤ pk x := by
        rcases List.mem_cons.mp hx with e | h2
        · rw [e]; exact Nat.le_refl _
        · exact hb.1 x h2
      have hx2 := h x (.head _)
      have hy2 := h y hy
      unfold pk at l1 l2
      obtain ⟨x1, x2⟩ := x
      obtain ⟨y1, y2⟩ := y
      dsimp only at *
      have e1 : x1 = y1 := by lia
      subst e1
      have e2 : x2 = y2 := by lia
      rw [e2]
    subst e
    rw [pairs_uniq (List.Perm.cons_inv p) ha.2 hb.2 fun q m => h q (.tail _ m)]

open Classical in
noncomputable def addL (g : Gr) (k : List (Nat × Nat)) : List (Nat × Nat) := ((List.range g.rules.length).filter fun i => decide ((i, 0) ∉ k ∧ Wnt g k (g.left i))).map fun i => (i, 0)
noncomputable def clo (g : Gr) (k : List (Nat × Nat)) : List (Nat × Nat) := srt k ++ addL g k
open Classical in
theorem addL_mem {g : Gr} {k : List (Nat × Nat)} {p : Nat × Nat} : p ∈ addL g k ↔ p.2 = 0 ∧ p.1 < g.rules.length ∧ p ∉ k ∧ Wnt g k (g.left p.1) := by
  unfold addL
  rw [List.mem_map]
  constructor
  · rintro ⟨i, m, rfl⟩
    obtain ⟨m1, m2⟩ := List.mem_filter.mp m
    have m2 := of_decide_eq_true m2
    exact ⟨rfl, List.mem_range.mp m1, m2⟩
  · rintro ⟨h0, h1, h2⟩
    obtain ⟨p1, p2⟩ := p
    cases h0
    exact ⟨p1, List.mem_filter.mpr ⟨List.mem_range.mpr h1, decide_eq_true h2⟩, rfl⟩
theorem addL_its {g : Gr} {k : List (Nat × Nat)} : g.Its (addL g k) := fun p m => by
  have := addL_mem.mp m
  exact ⟨this.2.1, by rw [this.1]; exact Nat.zero_le _⟩
theorem addL_sorted {g : Gr} {k : List (Nat × Nat)} : (addL g k).Pairwise (fun p q => pk p ≤ pk q) := by
  unfold addL
  rw [List.pairwise_map]
  refine List.Pairwise.filter _ (List.Pairwise.imp (fun {a b} h => ?_) List.pairwise_lt_range)
  unfold pk; dsimp only; lia
theorem addL_nodup {g : Gr} {k : List (Nat × Nat)} : (addL g k).Nodup := by
  unfold addL List.Nodup
  rw [List.pairwise_map]
  refine List.Pairwise.filter _ (List.Pairwise.imp (fun {a b} h => ?_) List.nodup_range)
  intro e; exact h (congrArg Prod.fst e)
theorem addL_len {g : Gr} (ok : g.Ok) {k : List (Nat × Nat)} : (addL g k).length ≤ 8 := by
  unfold addL
  rw [List.length_map]
  refine Nat.le_trans (List.length_filter_le ..) ?_
  rw [List.length_range]; exact ok.nr
theorem clo_its {g : Gr} {k : List (Nat × Nat)} (hk : g.Its k) : g.Its (clo g k) := fun p m => by
  rcases List.mem_append.mp m with m | m
  · exact hk p ((srt_perm k).mem_iff.mp m)
  · exact addL_its p m
theorem nodup_perm {a b : List Nat} (ha : a.Nodup) (hb : b.Nodup) (h : ∀ x, x ∈ a ↔ x ∈ b) : a.Perm b := (List.perm_ext_iff_of_nodup ha hb).mpr h
theorem add_eq {g : Gr} (ok : g.Ok) {k : List (Nat × Nat)} (hk : g.Its k) {N : Nat} (hN : wantM g k < 2 ^ N) {ns : List Int} (hp : ns.Perm ((addR g k ((List.range N).filter (wantM g k).testBit)).map fun i => ((e0 g i : Nat) : Int))) (hs : ns.Pairwise (· ≤ ·)) : ns.map D.int = encL g (addL g k) := by
  have h1 : (addR g k ((List.range N).filter (wantM g k).testBit)).Perm ((addL g k).map (·.1)) := by
    refine nodup_perm (addR_nodup (List.Pairwise.filter _ List.nodup_range)) ?_ fun x => ?_
    · unfold List.Nodup
      rw [List.pairwise_map]
      refine List.Pairwise.imp_of_mem (fun {p q} mp mq h e => h ?_) (addL_nodup (g := g) (k := k))
      have a := (addL_mem.mp mp).1
      have b := (addL_mem.mp mq).1
      obtain ⟨p1, p2⟩ := p
      obtain ⟨q1, q2⟩ := q
      dsimp only at *
      rw [e, a, b]
    · constructor
      · intro m
        obtain ⟨y, my, h⟩ := List.mem_flatMap.mp m
        obtain ⟨h1, h2⟩ := List.mem_filter.mp h
        have h1 := rulesOf_mem.mp h1
        have h2 := of_decide_eq_true h2
        have hw := (want_bit ok k y).mp (List.mem_filter.mp my).2
        refine List.mem_map.mpr ⟨(x, 0), addL_mem.mpr ⟨rfl, h1.1, fun hm => h2 (List.mem_map.mpr ⟨_, hm, rfl⟩), ?_⟩, rfl⟩
        show Wnt g k (g.left x)
        unfold Gr.left; rw [h1.2]; exact hw
      · intro m
        obtain ⟨p, mp, rfl⟩ := List.mem_map.mp m
        obtain ⟨q0, q1, q2, q3⟩ := addL_mem.mp mp
        obtain ⟨p1, p2⟩ := p
        cases q0
        refine List.mem_flatMap.mpr ⟨g.left p1, List.mem_filter.mpr ⟨List.mem_range.mpr ?_, (want_bit ok k _).mpr q3⟩, List.mem_filter.mpr ⟨rulesOf_mem.mpr ⟨q1, rfl⟩, decide_eq_true fun hm => q2 ?_⟩⟩
        · have hb : (wantM g k).testBit (g.left p1) = true := (want_bit ok k _).mpr q3
          by_cases z : g.left p1 < N
          · exact z
          · rw [Nat.testBit_lt_two_pow (Nat.lt_of_lt_of_le hN (Nat.pow_le_pow_right (by decide) (by lia)))] at hb; cases hb
        · obtain ⟨q, mq, e⟩ := List.mem_map.mp hm
          rw [enc_inj ok (hk q mq) (⟨q1, Nat.zero_le _⟩ : g.It (p1, 0).1 (p1, 0).2) e] at mq
          exact mq
  have h2 : ns.Perm (zL ((addL g k).map g.enc)) := by
    refine hp.trans ?_
    have := (h1.map (e0 g)).map Int.ofNat
    rw [List.map_map, List.map_map] at this
    refine this.trans ?_
    unfold zL
    rw [List.map_map]
    have e : (addL g k).map ((Int.ofNat ∘ e0 g) ∘ fun p => p.1) = (addL g k).map (Int.ofNat ∘ g.enc) := by
      refine List.map_congr_left fun p m => ?_
      have := (addL_mem.mp m).1
      obtain ⟨p1, p2⟩ := p
      cases this
      rfl
    rw [List.map_map, e]
  rw [sort_eqD h2 hs, sortN_srt ok addL_its]
  have := pairs_uniq (srt_perm (addL g k)) (srt_sorted _) addL_sorted fun p m => by
    rw [(addL_mem.mp ((srt_perm _).mem_iff.mp m)).1]; decide
  rw [this]; rfl
theorem srt_eq {g : Gr} (ok : g.Ok) {k : List (Nat × Nat)} (hk : g.Its k) {ns : List Int} (hp : ns.Perm (k.map fun p => ((g.enc p : Nat) : Int))) (hs : ns.Pairwise (· ≤ ·)) : ns.map D.int = encL g (srt k) := by
  have : ns.Perm (zL (k.map g.enc)) := by unfold zL; rw [List.map_map]; exact hp
  rw [sort_eqD this hs, sortN_srt ok hk]; rfl
theorem few {fs : List (Str × D)} (h : Nat.ble fs.length 20 = true) : fs.length < 1000 := Nat.lt_of_le_of_lt (Nat.le_of_ble_eq_true h) (by decide)
noncomputable def symN (g : Gr) (its : List (Nat × Nat)) : List Nat := sortN (symsOf g its)
noncomputable def behS (g : Gr) (its : List (Nat × Nat)) (x : Nat) : List (Nat × Nat) := srt (behindOf g x its)
noncomputable def behM (g : Gr) (its : List (Nat × Nat)) : List (Int × D) := dmap (symN g its) fun x => .tup (encL g (behS g its x))
noncomputable def redS (g : Gr) (its : List (Nat × Nat)) : List Nat := sortN (compOf g its)
theorem behind_its {g : Gr} {its : List (Nat × Nat)} (hk : g.Its its) (x : Nat) : g.Its (behindOf g x its) := fun p m => by
  obtain ⟨q, mq, rfl⟩ := List.mem_map.mp m
  obtain ⟨m1, m2⟩ := List.mem_filter.mp mq
  have m2 := of_decide_eq_true m2
  exact ⟨(hk q m1).1, (List.getElem?_eq_some_iff.mp m2).1⟩
theorem behS_its {g : Gr} {its : List (Nat × Nat)} (hk : g.Its its) (x : Nat) : g.Its (behS g its x) := Its.perm (behind_its hk x) (srt_perm _)
theorem srt_its {g : Gr} {its : List (Nat × Nat)} (hk : g.Its its) : g.Its (srt its) := Its.perm hk (srt_perm _)
theorem beh_eq {g : Gr} (ok : g.Ok) {its : List (Nat × Nat)} (hk : g.Its its) : behAll g its = behM g its := by
  unfold behAll behM symN
  refine dmap_congr fun x _ => ?_
  unfold behD behS encL
  rw [sortN_srt ok (behind_its hk x)]
section
variable {prog : Program} {w : World} {K : Frag} {a : Ad} {n : Nat} {sc : Scope} {tab : Tab} {ρ : Loc} {G : GH} {Q : D → GH → Prop} {g : Gr} {k its : List (Nat × Nat)}
theorem v_close (X : Ctx w K a) (ok : g.Ok) (hk : g.Its k) (hz : k.length < 64) (q : Q (.list (encL g (clo g k))) G) : FN prog w K 5 G a.clClose [g.cl a, .tup (encL g k)] Q :=
  w_close X ok hk hz fun N ms ns hN h1 h2 h3 h4 => by
    rw [List.map_append, srt_eq ok hk h1 h2, add_eq ok hk hN h3 h4]
    unfold clo encL intL at q
    rw [List.map_append, List.map_append] at q
    exact q
theorem v_closure (X : Ctx w K a) (ok : g.Ok) (hk : g.Its k) (hz : k.length < 64) (q : Q (.list (encL g (clo g k))) G) : FN prog w K 6 G a.closure [g.d a, .tup (encL g k)] Q :=
  w_closure X ok hk hz fun N ms ns hN h1 h2 h3 h4 => by
    rw [List.map_append, srt_eq ok hk h1 h2, add_eq ok hk hN h3 h4]
    unfold clo encL intL at q
    rw [List.map_append, List.map_append] at q
    exact q
theorem v_complete (X : Ctx w K a) (ok : g.Ok) (hk : g.Its its) (hz : its.length < 64) (q : Q (.list (intL (redS g its))) G) : FN prog w K 2 G a.complete [g.d a, .list (encL g its)] Q :=
  w_complete X ok hk hz (by rw [sortZ_zL, zL_int]; exact q)
theorem v_behind (X : Ctx w K a) (ok : g.Ok) (hk : g.Its its) (hz : its.length < 64) (q : Q (.dict (behM g its)) G) : FN prog w K 3 G a.behind [g.d a, .list (encL g its)] Q :=
  w_behind X ok hk hz (by rw [beh_eq ok hk]; exact q)
end

structure Rec where
  items : List (Nat × Nat)
  moves : List (Nat × Nat)
  reds : List Nat
noncomputable def movD (l : List (Nat × Nat)) : List (Int × D) := l.map fun p => ((p.1 : Nat), .int (p.2 : Nat))
noncomputable def recFs (g : Gr) (i : Nat) (k : List (Nat × Nat)) (r : Rec) (sy : Int) (sh : Bool) (m : D) : List (Str × D) :=
  [("number", .int (i : Nat)), ("kernel", .tup (encL g k)), ("symbol", .int sy), ("items", .list (encL g r.items)), ("moves", m), ("reductions", .list (intL r.reds)), ("is_shifting", .bool sh)]
noncomputable def blank : Rec := ⟨[], [], []⟩
section
variable {prog : Program} {w : World} {K : Frag} {a : Ad} {n : Nat} {sc : Scope} {tab : Tab} {ρ : Loc} {G : GH} {Q : D → GH → Prop} {g : Gr} {k its : List (Nat × Nat)}
theorem w_lrInit (X : Ctx w K a) {i : Nat} {sy : Int} {x dx : Addr} (hne : x ≠ dx) (q : ∀ m, m ≠ x → m ≠ dx → G m = none → Q .none ((objH G x dx a.LrState (recFs g i k blank sy false (.ref m))).put m (.dict []))) :
    FN prog w K 1 (objH G x dx a.LrState []) a.lrInit [.ref x, .int (i : Nat), .tup (encL g k), .int sy] Q := by
  refine X.d_lrInit.fn X.ok (by rfl) (by rfl) ?_
  show SX _ _ _ _ _ _ [some (.ref x), some (.int (i : Nat)), some (.tup (encL g k)), some (.int sy)] _ _ _
  refine SX_next (S1_assign (EX_name (by rfl) (by rfl) (AX_attr (EX_name (by rfl) (by rfl) ⟨_, _, _, _, rfl, objH_x, objH_dx hne, X.c_LrState, X.a_LrState _ (by decide), few rfl, rfl, ?_⟩))) (fun _ _ => swapsWith_plain rfl) (fun _ _ => rfl) rfl)
  rw [objH_put hne]
  refine SX_next (S1_assign (EX_name (by rfl) (by rfl) (AX_attr (EX_name (by rfl) (by rfl) ⟨_, _, _, _, rfl, objH_x, objH_dx hne, X.c_LrState, X.a_LrState _ (by decide), few rfl, rfl, ?_⟩))) (fun _ _ => swapsWith_plain rfl) (fun _ _ => rfl) rfl)
  rw [objH_put hne]
  refine SX_next (S1_assign (EX_name (by rfl) (by rfl) (AX_attr (EX_name (by rfl) (by rfl) ⟨_, _, _, _, rfl, objH_x, objH_dx hne, X.c_LrState, X.a_LrState _ (by decide), few rfl, rfl, ?_⟩))) (fun _ _ => swapsWith_plain rfl) (fun _ _ => rfl) rfl)
  rw [objH_put hne]
  refine SX_next (S1_assign (EX_listF ⟨by decide, AX_attr (EX_name (by rfl) (by rfl) ⟨_, _, _, _, rfl, objH_x, objH_dx hne, X.c_LrState, X.a_LrState _ (by decide), few rfl, rfl, ?_⟩)⟩) (fun _ _ => swapsWith_plain rfl) (fun _ _ => rfl) rfl)
  rw [objH_put hne]
  refine SX_next (S1_assign (EX_dict0 fun m hm => ?_) (fun _ _ => swapsWith_plain rfl) (fun _ _ => rfl) rfl)
  obtain ⟨h1, h2, h3⟩ := objH_fresh hm
  refine AX_attr (EX_name (by rfl) (by rfl) ⟨_, _, _, _, rfl, by rw [GH.put_ne h1.symm]; exact objH_x, by rw [GH.put_ne h2.symm]; exact objH_dx hne, X.c_LrState, X.a_LrState _ (by decide), few rfl, rfl, ?_⟩)
  rw [put_objH h1 h2, objH_put hne]
  refine SX_next (S1_assign (EX_listF ⟨by decide, AX_attr (EX_name (by rfl) (by rfl) ⟨_, _, _, _, rfl, objH_x, objH_dx hne, X.c_LrState, X.a_LrState _ (by decide), few rfl, rfl, ?_⟩)⟩) (fun _ _ => swapsWith_plain rfl) (fun _ _ => rfl) rfl)
  rw [objH_put hne]
  refine SX_next (S1_assign (EX_bool (AX_attr (EX_name (by rfl) (by rfl) ⟨_, _, _, _, rfl, objH_x, objH_dx hne, X.c_LrState, X.a_LrState _ (by decide), few rfl, rfl, ?_⟩))) (fun _ _ => swapsWith_plain rfl) (fun _ _ => rfl) rfl)
  rw [objH_put hne]
  refine SX_nil ⟨fun _ => ?_, fun _ e => (nomatch e)⟩
  have := q m h1 h2 h3
  rw [put_objH h1 h2] at this
  exact this
theorem EX_NONE (X : Ctx w K a) {pos : Pos} (hx : sc.names.lookup ("NONE" : Str) = some .globalImplicit) (q : Q (.int (-1)) G) : EX prog w K n sc tab ρ G (.Name "NONE" pos) Q := by
  obtain ⟨t, h⟩ := X.gNONE
  exact EX_glob hx h (fun F _ => .int _ t) q
noncomputable def recD (a : Ad) (g : Gr) (i : Nat) (k : List (Nat × Nat)) (r : Rec) (sy : Int) (sh : Bool) : D := .obj a.LrState (recFs g i k r sy sh (.dict (movD r.moves)))
noncomputable def goD (m : List (Nat × Nat)) (x : Nat) : Int := match m.find? fun p => p.1 == x with
  | some p => (p.2 : Int)
  | none => -1
theorem lookD_mov (x : Nat) : ∀ m : List (Nat × Nat), (lookD (movD m) (x : Nat)).getD (.int (-1)) = .int (goD m x)
  | [] => rfl
  | p :: m => by
    have ih := lookD_mov x m
    unfold lookD movD goD at *
    rw [List.map_cons, List.find?_cons, List.find?_cons]
    by_cases e : p.1 = x
    · have h1 : decide (((p.1 : Nat) : Int) = (x : Nat)) = true := decide_eq_true (by rw [e])
      have h2 : (p.1 == x) = true := beq_iff_eq.mpr e
      dsimp only
      rw [h1, h2]; rfl
    · have h1 : decide (((p.1 : Nat) : Int) = (x : Nat)) = false := decide_eq_false fun z => e (Int.ofNat.inj z)
      have h2 : (p.1 == x) = false := beq_eq_false_iff_ne.mpr e
      dsimp only
      rw [h1, h2]; exact ih
theorem w_lrGoto (X : Ctx w K a) {i x : Nat} {r : Rec} {sy : Int} {sh : Bool} (q : Q (.int (goD r.moves x)) G) : FN prog w K 1 G a.lrGoto [recD a g i k r sy sh, .int (x : Nat)] Q := by
  refine X.d_lrGoto.fn X.ok (by rfl) (by rfl) ?_
  show SX _ _ _ _ _ _ [some (recD a g i k r sy sh), some (.int (x : Nat))] _ _ _
  refine SX_ret (EX_methB PySem.F.slot_dict_get PySem.F.plainAttrs_dict PySem.F.type_dict_get (EX_attr (EX_name (by rfl) (by rfl) ⟨_, _, _, .frozen, X.c_LrState, X.a_LrState _ (by decide), by rfl, .dic .frozen, EX_name (by rfl) (by rfl) (EX_NONE X (by rfl) (OP_get X.ok.sys .frozen ?_))⟩)))
  rw [lookD_mov]; exact q
end
noncomputable def encI (g : Gr) (k : List (Nat × Nat)) : List Int := k.map fun p => ((g.enc p : Nat) : Int)
theorem encI_D (g : Gr) (k : List (Nat × Nat)) : (encI g k).map D.int = encL g k := by unfold encI encL intL; rw [List.map_map, List.map_map]; rfl
theorem encI_inj {g : Gr} (ok : g.Ok) : ∀ {k l : List (Nat × Nat)}, g.Its k → g.Its l → encI g k = encI g l → k = l
  | [], [], _, _, _ => rfl
  | [], _ :: _, _, _, e => by cases e
  | _ :: _, [], _, _, e => by cases e
  | p :: k, q :: l, h1, h2, e => by
    unfold encI at e
    rw [List.map_cons, List.map_cons] at e
    injection e with e1 e2
    rw [enc_inj ok (h1 p (.head _)) (h2 q (.head _)) (Int.ofNat.inj e1), encI_inj ok (fun x m => h1 x (.tail _ m)) (fun x m => h2 x (.tail _ m)) e2]
noncomputable def tkv (g : Gr) (ks : List (List (Nat × Nat))) : List (List Int × D) := ks.mapIdx fun i k => (encI g k, .int (i : Nat))
theorem tkv_go {g : Gr} (ok : g.Ok) {k : List (Nat × Nat)} (hk : g.Its k) : ∀ (ks : List (List (Nat × Nat))) (o : Nat), (∀ l ∈ ks, g.Its l) → lookT (ks.mapIdx fun i k => (encI g k, D.int ((i + o : Nat) : Int))) (encI g k) = if k ∈ ks then some (.int ((ks.idxOf k + o : Nat) : Int)) else none
  | [], o, _ => rfl
  | l :: ks, o, h => by
    have ih := tkv_go ok hk ks (o + 1) fun x m => h x (.tail _ m)
    rw [List.mapIdx_cons]
    unfold lookT at *
    rw [List.find?_cons]
    by_cases e : l = k
    · subst e
      have : decide (encI g l = encI g l) = true := decide_eq_true rfl
      dsimp only
      rw [this, if_pos (.head _), List.idxOf_cons_self]; rfl
    · have : decide (encI g l = encI g k) = false := decide_eq_false fun z => e (encI_inj ok (h l (.head _)) hk z)
      dsimp only
      rw [this]
      dsimp only
      have e1 : (ks.mapIdx fun i k => (encI g k, D.int ((i + 1 + o : Nat) : Int))) = ks.mapIdx fun i k => (encI g k, D.int ((i + (o + 1) : Nat) : Int)) := by
        congr 1; funext i k; congr 3; (first | with_reducible assumption | exact Nat.lt_of_lt_of_le (by assumption) (by decide) | exact Nat.lt_of_le_of_lt (by assumption) (by decide) | lia | omega)
      rw [e1, ih]
      have : (k ∈ l :: ks) ↔ k ∈ ks := by rw [List.mem_cons]; exact ⟨fun h => h.resolve_left fun z => e z.symm, .inr⟩
      by_cases m : k ∈ ks
      · rw [if_pos m, if_pos (this.mpr m), List.idxOf_cons, beq_eq_false_iff_ne.mpr e, cond_false]
        congr 3; (first | with_reducible assumption | exact Nat.lt_of_lt_of_le (by assumption) (by decide) | exact Nat.lt_of_le_of_lt (by assumption) (by decide) | lia | omega)
      · rw [if_neg m, if_neg fun z => m (this.mp z)]
theorem lookT_tkv {g : Gr} (ok : g.Ok) {k : List (Nat × Nat)} {ks : List (List (Nat × Nat))} (hk : g.Its k) (h : ∀ l ∈ ks, g.Its l) : lookT (tkv g ks) (encI g k) = if k ∈ ks then some (.int ((ks.idxOf k : Nat) : Int)) else none := tkv_go ok hk ks 0 h
theorem tkv_len (g : Gr) (ks : List (List (Nat × Nat))) : (tkv g ks).length = ks.length := by unfold tkv; rw [List.length_mapIdx]
noncomputable def addK (ks : List (List (Nat × Nat))) (k : List (Nat × Nat)) : List (List (Nat × Nat)) := if k ∈ ks then ks else ks ++ [k]
theorem addK_mem {ks : List (List (Nat × Nat))} {k : List (Nat × Nat)} : k ∈ addK ks k := by
  unfold addK
  by_cases h : k ∈ ks
  · rw [if_pos h]; exact h
  · rw [if_neg h]; simp
theorem addK_its {g : Gr} {ks : List (List (Nat × Nat))} {k : List (Nat × Nat)} (h : ∀ l ∈ ks, g.Its l) (hk : g.Its k) : ∀ l ∈ addK ks k, g.Its l := fun l m => by
  unfold addK at m
  split at m
  · exact h l m
  · rcases List.mem_append.mp m with m | m
    · exact h l m
    · rw [List.mem_singleton] at m; rw [m]; exact hk

noncomputable def xsL (X : Nat → Addr) (n : Nat) : List D := (List.range n).map fun i => .ref (X i)
structure Mach (a : Ad) (g : Gr) (G : GH) (xb dxb ls ns : Addr) (ks : List (List (Nat × Nat))) (R : Nat → Rec) (G' : GH) (X DX M : Nat → Addr) : Prop where
  new : G xb = none ∧ G dxb = none ∧ G ls = none ∧ G ns = none
  fresh : ∀ i, i < ks.length → G (X i) = none ∧ G (DX i) = none ∧ G (M i) = none
  old : ∀ b c, G b = some c → G' b = some c
  hb : G' xb = some (.inst a.Builder dxb)
  hdb : G' dxb = some (.attrs [("grammar", g.d a), ("closer", g.cl a), ("states", .ref ls), ("numbers", .ref ns)])
  hls : G' ls = some (.list (xsL X ks.length))
  hns : G' ns = some (.tdict (tkv g ks))
  st : ∀ i k, ks[i]? = some k → ∃ sy sh, G' (X i) = some (.inst a.LrState (DX i)) ∧ G' (DX i) = some (.attrs (recFs g i k (R i) sy sh (.ref (M i)))) ∧ G' (M i) = some (.dict (movD (R i).moves))
  injD : ∀ i j, i < ks.length → j < ks.length → DX i = DX j → i = j
  injM : ∀ i j, i < ks.length → j < ks.length → M i = M j → i = j
  neD : ∀ i, i < ks.length → DX i ≠ dxb
noncomputable def upd (R : Nat → Rec) (i : Nat) (r : Rec) : Nat → Rec := fun j => if j = i then r else R j
theorem upd_at {R : Nat → Rec} {i : Nat} {r : Rec} : upd R i r i = r := if_pos rfl
theorem upd_ne {R : Nat → Rec} {i j : Nat} {r : Rec} (e : ¬ j = i) : upd R i r j = R j := if_neg e
theorem ext_inj {X : Nat → Addr} {n : Nat} {x : Addr} (h : ∀ i j, i < n → j < n → X i = X j → i = j) (o : ∀ i, i < n → X i ≠ x) {i j : Nat} (hi : i < n + 1) (hj : j < n + 1) (e : ext X n x i = ext X n x j) : i = j := by
  by_cases e1 : i = n
  · by_cases e2 : j = n
    · rw [e1, e2]
    · rw [e1, ext_at, ext_ne e2] at e; exact absurd e.symm (o j (Nat.lt_of_le_of_ne (Nat.le_of_lt_succ hj) e2))
  · have hi' := Nat.lt_of_le_of_ne (Nat.le_of_lt_succ hi) e1
    by_cases e2 : j = n
    · rw [e2, ext_at, ext_ne e1] at e; exact absurd e (o i hi')
    · rw [ext_ne e1, ext_ne e2] at e; exact h i j hi' (Nat.lt_of_le_of_ne (Nat.le_of_lt_succ hj) e2) e
noncomputable def tk1 (g : Gr) (ks : List (List (Nat × Nat))) (k : List (Nat × Nat)) : List (List Int × D) := tkv g (ks ++ [k])
theorem xsL_ext {X : Nat → Addr} {n : Nat} {x : Addr} : xsL X n ++ [.ref x] = xsL (ext X n x) (n + 1) := by
  unfold xsL
  rw [List.range_succ, List.map_append]
  congr 1
  · exact List.map_congr_left fun i hi => by rw [ext_ne (Nat.ne_of_lt (List.mem_range.mp hi))]
  · show [D.ref x] = [D.ref (ext X n x n)]
    rw [ext_at]
theorem xsL_len {X : Nat → Addr} {n : Nat} : (xsL X n).length = n := by unfold xsL; rw [List.length_map, List.length_range]
section
variable {a : Ad} {g : Gr} {G G' : GH} {xb dxb ls ns : Addr} {ks : List (List (Nat × Nat))} {R : Nat → Rec} {X DX M : Nat → Addr}
theorem Mach.at (T : Mach a g G xb dxb ls ns ks R G' X DX M) {i : Nat} (hi : i < ks.length) : ∃ k, ks[i]? = some k := ⟨_, List.getElem?_eq_getElem hi⟩
theorem Mach.setR (T : Mach a g G xb dxb ls ns ks R G' X DX M) {i : Nat} {k : List (Nat × Nat)} (hi : ks[i]? = some k) {r : Rec} {sy : Int} {sh : Bool} (hr : r.moves = (R i).moves) :
    Mach a g G xb dxb ls ns ks (upd R i r) (G'.put (DX i) (.attrs (recFs g i k r sy sh (.ref (M i))))) X DX M := by
  have hil := (List.getElem?_eq_some_iff.mp hi).1
  obtain ⟨_, _, q1, q2, q3⟩ := T.st i k hi
  refine ⟨T.new, T.fresh, fun b c e => GH.put_at (T.old b c e) (GH.new_ne e (T.fresh i hil).2.1), GH.put_at T.hb (GH.apart T.hb q2 rfl), GH.put_at T.hdb (T.neD i hil).symm, GH.put_at T.hls (GH.apart T.hls q2 rfl), GH.put_at T.hns (GH.apart T.hns q2 rfl), fun j l hj => ?_, T.injD, T.injM, T.neD⟩
  obtain ⟨sy', sh', p1, p2, p3⟩ := T.st j l hj
  have hjl := (List.getElem?_eq_some_iff.mp hj).1
  by_cases e : j = i
  · subst e
    rw [hi] at hj
    cases hj
    refine ⟨sy, sh, GH.put_at p1 (GH.apart p1 q2 rfl), ?_, ?_⟩
    · rw [upd_at]; exact GH.put_self
    · rw [upd_at, hr]; exact GH.put_at p3 (GH.apart p3 q2 rfl)
  · rw [upd_ne e]
    exact ⟨sy', sh', GH.put_at p1 (GH.apart p1 q2 rfl), GH.put_at p2 fun z => e (T.injD j i hjl hil z), GH.put_at p3 (GH.apart p3 q2 rfl)⟩
theorem Mach.setM (T : Mach a g G xb dxb ls ns ks R G' X DX M) {i : Nat} {k : List (Nat × Nat)} (hi : ks[i]? = some k) {r : Rec} (h1 : r.items = (R i).items) (h2 : r.reds = (R i).reds) :
    Mach a g G xb dxb ls ns ks (upd R i r) (G'.put (M i) (.dict (movD r.moves))) X DX M := by
  have hil := (List.getElem?_eq_some_iff.mp hi).1
  obtain ⟨_, _, q1, q2, q3⟩ := T.st i k hi
  refine ⟨T.new, T.fresh, fun b c e => GH.put_at (T.old b c e) (GH.new_ne e (T.fresh i hil).2.2), GH.put_at T.hb (GH.apart T.hb q3 rfl), GH.put_at T.hdb (GH.apart T.hdb q3 rfl), GH.put_at T.hls (GH.apart T.hls q3 rfl), GH.put_at T.hns (GH.apart T.hns q3 rfl), fun j l hj => ?_, T.injD, T.injM, T.neD⟩
  obtain ⟨sy', sh', p1, p2, p3⟩ := T.st j l hj
  have hjl := (List.getElem?_eq_some_iff.mp hj).1
  by_cases e : j = i
  · subst e
    rw [upd_at]
    refine ⟨sy', sh', GH.put_at p1 (GH.apart p1 q3 rfl), ?_, GH.put_self⟩
    unfold recFs at p2 ⊢
    rw [h1, h2]
    exact GH.put_at p2 (GH.apart p2 q3 rfl)
  · rw [upd_ne e]
    exact ⟨sy', sh', GH.put_at p1 (GH.apart p1 q3 rfl), GH.put_at p2 (GH.apart p2 q3 rfl), GH.put_at p3 fun z => e (T.injM j i hjl hil z)⟩
theorem Mach.push (T : Mach a g G xb dxb ls ns ks R G' X DX M) (hR : R ks.length = blank) {k : List (Nat × Nat)} {G1 G2 : GH} {x dx m : Addr} {sy : Int} (g1 : ∀ {b : Addr} {c : Cell}, G' b = some c → b ≠ ns → G1 b = some c)
    (b4 : G1 ns = some (.tdict (tk1 g ks k))) (hx : G1 x = none) (hdx : G1 dx = none) (hm : G1 m = none) (g2 : ∀ {b : Addr} {c : Cell}, G1 b = some c → G2 b = some c)
    (e1 : G2 x = some (.inst a.LrState dx)) (e2 : G2 dx = some (.attrs (recFs g ks.length k blank sy false (.ref m)))) (e3 : G2 m = some (.dict [])) :
    Mach a g G xb dxb ls ns (ks ++ [k]) R (G2.put ls (.list (xsL X ks.length ++ [.ref x]))) (ext X ks.length x) (ext DX ks.length dx) (ext M ks.length m) := by
  have n1 := GH.apart T.hb T.hns rfl
  have n2 := GH.apart T.hdb T.hns rfl
  have n3 := GH.apart T.hls T.hns rfl
  have b2 := g1 T.hdb n2
  have b3 := g1 T.hls n3
  have hl : (ks ++ [k]).length = ks.length + 1 := by rw [List.length_append]; rfl
  have old : ∀ {b : Addr} {c : Cell}, G' b = some c → b ≠ ns → b ≠ ls → (G2.put ls (.list (xsL X ks.length ++ [.ref x]))) b = some c := fun e h1 h2 => GH.put_at (g2 (g1 e h1)) h2
  have fr : ∀ {y : Addr}, G1 y = none → G y = none := fun {y} hy => GH.none_of fun c z => by
    by_cases e : y = ns
    · rw [e, b4] at hy; cases hy
    · rw [g1 (T.old y c z) e] at hy; cases hy
  refine ⟨T.new, fun i hi => ?_, fun b c e => old (T.old b c e) (GH.new_ne e T.new.2.2.2) (GH.new_ne e T.new.2.2.1), old T.hb n1 (GH.apart T.hb T.hls rfl), old T.hdb n2 (GH.apart T.hdb T.hls rfl), ?_, ?_, fun i l hi => ?_, ?_, ?_, fun i hi => ?_⟩
  · by_cases e : i = ks.length
    · rw [e, ext_at, ext_at, ext_at]; exact ⟨fr hx, fr hdx, fr hm⟩
    · rw [ext_ne e, ext_ne e, ext_ne e]; rw [hl] at hi; exact T.fresh i (Nat.lt_of_le_of_ne (Nat.le_of_lt_succ hi) e)
  · rw [hl, xsL_ext]; exact GH.put_self
  · exact GH.put_at (g2 b4) n3.symm
  · by_cases e : i = ks.length
    · subst e
      rw [List.getElem?_append_right (Nat.le_refl _), Nat.sub_self] at hi
      cases hi
      rw [ext_at, ext_at, ext_at, hR]
      exact ⟨sy, false, GH.put_at e1 (GH.new_ne b3 hx).symm, GH.put_at e2 (GH.new_ne b3 hdx).symm, GH.put_at e3 (GH.new_ne b3 hm).symm⟩
    · have hil := (List.getElem?_eq_some_iff.mp hi).1
      rw [hl] at hil
      rw [List.getElem?_append_left (Nat.lt_of_le_of_ne (Nat.le_of_lt_succ hil) e)] at hi
      rw [ext_ne e, ext_ne e, ext_ne e]
      obtain ⟨sy', sh', p1, p2, p3⟩ := T.st i l hi
      exact ⟨sy', sh', old p1 (GH.apart p1 T.hns rfl) (GH.apart p1 T.hls rfl), old p2 (GH.apart p2 T.hns rfl) (GH.apart p2 T.hls rfl), old p3 (GH.apart p3 T.hns rfl) (GH.apart p3 T.hls rfl)⟩
  · intro i j hi hj e
    rw [hl] at hi hj
    refine ext_inj T.injD (fun i hi => ?_) hi hj e
    obtain ⟨l, hl⟩ := T.at hi
    obtain ⟨_, _, p1, p2, p3⟩ := T.st i l hl
    exact GH.new_ne (g1 p2 (GH.apart p2 T.hns rfl)) hdx
  · intro i j hi hj e
    rw [hl] at hi hj
    refine ext_inj T.injM (fun i hi => ?_) hi hj e
    obtain ⟨l, hl⟩ := T.at hi
    obtain ⟨_, _, p1, p2, p3⟩ := T.st i l hl
    exact GH.new_ne (g1 p3 (GH.apart p3 T.hns rfl)) hm
  · by_cases e : i = ks.length
    · rw [e, ext_at]; exact (GH.new_ne b2 hdx).symm
    · rw [ext_ne e]; rw [hl] at hi; exact T.neD i (Nat.lt_of_le_of_ne (Nat.le_of_lt_succ hi) e)
theorem Mach.congr (T : Mach a g G xb dxb ls ns ks R G' X DX M) {R' : Nat → Rec} (h : ∀ i, i < ks.length → R' i = R i) : Mach a g G xb dxb ls ns ks R' G' X DX M :=
  ⟨T.new, T.fresh, T.old, T.hb, T.hdb, T.hls, T.hns, fun i k hi => by rw [h i (List.getElem?_eq_some_iff.mp hi).1]; exact T.st i k hi, T.injD, T.injM, T.neD⟩
end

section
variable {prog : Program} {w : World} {K : Frag} {a : Ad} {n : Nat} {sc : Scope} {tab : Tab} {ρ : Loc} {G G' : GH} {Q : D → GH → Prop} {g : Gr} {k its : List (Nat × Nat)} {xb dxb ls ns : Addr} {ks : List (List (Nat × Nat))} {R : Nat → Rec} {X DX M : Nat → Addr}
noncomputable def numR (g : Gr) (xb : Addr) (k : List (Nat × Nat)) (sy : Int) : Loc := [some (.ref xb), some (.tup ((encI g k).map .int)), some (.int sy)]
inductive NumJ (a : Ad) (g : Gr) (G : GH) (xb dxb ls ns : Addr) (ks : List (List (Nat × Nat))) (k : List (Nat × Nat)) (R : Nat → Rec) (X : Nat → Addr) (sy : Int) (ρ : Loc) (G'' : GH) : Prop
  | mk (X' DX' M' : Nat → Addr) : ρ = numR g xb k sy → Mach a g G xb dxb ls ns (addK ks k) R G'' X' DX' M' → (∀ i, i < ks.length → X' i = X i) → NumJ a g G xb dxb ls ns ks k R X sy ρ G''
theorem w_numNew (C : Ctx w K a) {sy : Int} {J : Loc → GH → Prop} (T : Mach a g G xb dxb ls ns ks R G' X DX M) (hR : R ks.length = blank) (hz : ks.length + 1 < 2 ^ 20) (hst : storeT (tkv g ks) (encI g k) (.int (ks.length : Nat)) = tk1 g ks k)
    (q : ∀ G'' x dx m, Mach a g G xb dxb ls ns (ks ++ [k]) R G'' (ext X ks.length x) (ext DX ks.length dx) (ext M ks.length m) → J (numR g xb k sy) G'') :
    SX prog w K 2 (scopeF (inC (stT 16) 1)) tab_Builder_number_of (numR g xb k sy) G' (subB (bodyF (inC (stT 16) 1))[0]?) (nxjQ J) := by
  have hll : (xsL X ks.length).length < 2 ^ 20 := by rw [xsL_len]; exact Nat.lt_trans (Nat.lt_succ_self _) hz
  have hl4 : (xsL X ks.length).length < 2 ^ 40 := Nat.lt_trans hll (by decide)
  refine SX_next (S1_assign (EX_call (C.cb (by rfl) (by rfl) (by rfl)) (.builtin _) (EX_attr (EX_name (by rfl) (by rfl) ⟨_, _, _, .live T.hb T.hdb, C.c_Builder, C.a_Builder _ (by decide), by rfl, OP_len (.live T.hls) hl4 ?_⟩))) (fun _ _ => swapsWith_plain rfl) (fun _ _ => rfl) rfl)
  rw [xsL_len]
  refine AX_subT C.ok.sys (EX_attr (EX_name (by rfl) (by rfl) ⟨_, _, _, .live T.hb T.hdb, C.c_Builder, C.a_Builder _ (by decide), by rfl, EX_name (by rfl) (by rfl) ⟨ns, _, _, rfl, T.hns, rfl, by rw [tkv_len]; exact Nat.lt_trans (Nat.lt_succ_self _) hz, rfl, ?_⟩⟩))
  rw [hst]
  have g1 : ∀ {b : Addr} {c : Cell}, G' b = some c → b ≠ ns → (G'.put ns (.tdict (tk1 g ks k))) b = some c := GH.put_at
  have b4 : (G'.put ns (.tdict (tk1 g ks k))) ns = some (.tdict (tk1 g ks k)) := GH.put_self
  obtain ⟨G1, hG1⟩ : ∃ x, G'.put ns (.tdict (tk1 g ks k)) = x := ⟨_, rfl⟩
  rw [hG1] at b4 ⊢
  replace g1 : ∀ {b : Addr} {c : Cell}, G' b = some c → b ≠ ns → G1 b = some c := hG1 ▸ g1
  have b1 := g1 T.hb (GH.apart T.hb T.hns rfl)
  have b2 := g1 T.hdb (GH.apart T.hdb T.hns rfl)
  have b3 := g1 T.hls (GH.apart T.hls T.hns rfl)
  refine SX_next (S1_expr (EX_methB PySem.F.slot_list_append PySem.F.plainAttrs_list PySem.F.type_list_append (EX_attr (EX_name (by rfl) (by rfl) ⟨_, _, _, .live b1 b2, C.c_Builder, C.a_Builder _ (by decide), by rfl, .lst (.live b3), EX_call (C.cg (by rfl) (by rfl) (by rfl)) (.of C.k_LrState) (EX_call (C.cb (by rfl) (by rfl) (by rfl)) (.builtin _) (EX_attr (EX_name (by rfl) (by rfl) ⟨_, _, _, .live b1 b2, C.c_Builder, C.a_Builder _ (by decide), by rfl, OP_len (.live b3) hl4 ?_⟩)))⟩))))
  rw [xsL_len]
  refine EX_name (by rfl) (by rfl) (EX_name (by rfl) (by rfl) (OP.le (OP_new C.n_LrState fun x dx hne hx hdx => ?_) (by decide : 2 ≤ 2)))
  rw [encI_D]
  refine w_lrInit C hne fun m m1 m2 m3 => ⟨rfl, ?_⟩
  have g2 : ∀ {b : Addr} {c : Cell}, G1 b = some c → ((objH G1 x dx a.LrState (recFs g ks.length k blank sy false (.ref m))).put m (.dict [])) b = some c := fun e => GH.put_at ((objH_ne (GH.new_ne e hx) (GH.new_ne e hdx)).trans e) (GH.new_ne e m3)
  exact OP_append (g2 b3) hll ⟨rfl, rfl, SX_nil ⟨rfl, q _ x dx m (T.push hR g1 b4 hx hdx m3 g2 (GH.put_at objH_x m1.symm) (GH.put_at (objH_dx hne) m2.symm) GH.put_self)⟩⟩
theorem w_number (C : Ctx w K a) (ok : g.Ok) {sy : Int} (T : Mach a g G xb dxb ls ns ks R G' X DX M) (hks : ∀ l ∈ ks, g.Its l) (hk : g.Its k) (hz : ks.length + 1 < 2 ^ 20) (hR : R ks.length = blank)
    (q : ∀ G'' X' DX' M', Mach a g G xb dxb ls ns (addK ks k) R G'' X' DX' M' → (∀ i, i < ks.length → X' i = X i) → Q (.int ((addK ks k).idxOf k : Nat)) G'') :
    FN prog w K 3 G' a.buNumber [.ref xb, .tup (encL g k), .int sy] Q := by
  refine C.d_buNumber.fn C.ok (by rfl) (by rfl) ?_
  rw [← encI_D]
  show SX _ _ _ _ _ _ (numR g xb k sy) _ _ _
  refine SX_seq (NumJ a g G xb dxb ls ns ks k R X sy) (S1_if (TX_cmp (EX_name (by rfl) (by rfl) (EX_attr (EX_name (by rfl) (by rfl) ⟨_, _, _, .live T.hb T.hdb, C.c_Builder, C.a_Builder _ (by decide), by rfl, OP_notInT C.ok.sys T.hns ⟨_, rfl, fun hc => ?_, fun hc => ?_⟩⟩))))) ?_
  · have hnot : k ∉ ks := fun m => by rw [lookT_tkv ok hk hks, if_pos m] at hc; cases hc
    have hst : storeT (tkv g ks) (encI g k) (.int (ks.length : Nat)) = tk1 g ks k := by
      unfold storeT tk1
      rw [lookT_tkv ok hk hks, if_neg hnot]
      unfold tkv
      rw [List.mapIdx_append, List.mapIdx_cons, List.mapIdx_nil, Nat.zero_add]; rfl
    exact w_numNew C T hR hz hst fun G'' x dx m T2 => ⟨_, _, _, rfl, (show addK ks k = ks ++ [k] from if_neg hnot) ▸ T2, fun i hi => ext_ne (Nat.ne_of_lt hi)⟩
  · have hin : k ∈ ks := by
      by_cases m : k ∈ ks
      · exact m
      · rw [lookT_tkv ok hk hks, if_neg m] at hc; cases hc
    exact SX_nil ⟨rfl, X, DX, M, rfl, (show addK ks k = ks from if_pos hin).symm ▸ T, fun _ _ => rfl⟩
  · rintro ρ₁ G₁ ⟨X', DX', M', rfl, T', hX⟩
    refine SX_ret (EX_indexT C.ok.sys (EX_attr (EX_name (by rfl) (by rfl) ⟨_, _, _, .live T'.hb T'.hdb, C.c_Builder, C.a_Builder _ (by decide), by rfl, EX_name (by rfl) (by rfl) ⟨_, _, _, _, rfl, T'.hns, rfl, by rw [lookT_tkv ok hk (addK_its hks hk), if_pos addK_mem], q _ _ _ _ T' hX⟩⟩)))
end
noncomputable abbrev Ks := List (List (Nat × Nat))
noncomputable abbrev Mv := List (Nat × Nat)
noncomputable def expS (b : Nat → List (Nat × Nat)) (st : Ks × Mv) (x : Nat) : Ks × Mv := (addK st.1 (b x), st.2 ++ [(x, (addK st.1 (b x)).idxOf (b x))])
noncomputable def expF (ks : Ks) (b : Nat → List (Nat × Nat)) (xs : List Nat) : Ks × Mv := xs.foldl (expS b) (ks, [])
theorem addK_pre (ks : Ks) (k : List (Nat × Nat)) : ∃ t, addK ks k = ks ++ t := by
  unfold addK
  split
  · exact ⟨[], by rw [List.append_nil]⟩
  · exact ⟨[k], rfl⟩
theorem addK_len (ks : Ks) (k : List (Nat × Nat)) : (addK ks k).length ≤ ks.length + 1 := by
  unfold addK
  split
  · (first | with_reducible assumption | exact Nat.lt_of_lt_of_le (by assumption) (by decide) | exact Nat.lt_of_le_of_lt (by assumption) (by decide) | lia | omega)
  · rw [List.length_append]; exact Nat.le_refl _
theorem exp_pre (b : Nat → List (Nat × Nat)) : ∀ (xs : List Nat) (st : Ks × Mv), ∃ t, (xs.foldl (expS b) st).1 = st.1 ++ t
  | [], st => ⟨[], by rw [List.append_nil]; rfl⟩
  | x :: xs, st => by
    obtain ⟨t, e⟩ := exp_pre b xs (expS b st x)
    obtain ⟨t', e'⟩ := addK_pre st.1 (b x)
    exact ⟨t' ++ t, by rw [List.foldl_cons, e]; show addK st.1 (b x) ++ t = _; rw [e', List.append_assoc]⟩
theorem exp_len (b : Nat → List (Nat × Nat)) : ∀ (xs : List Nat) (st : Ks × Mv), (xs.foldl (expS b) st).1.length ≤ st.1.length + xs.length
  | [], st => Nat.le_refl _
  | x :: xs, st => by
    have := exp_len b xs (expS b st x)
    have h2 : (expS b st x).1.length ≤ st.1.length + 1 := addK_len st.1 (b x)
    rw [List.foldl_cons, List.length_cons]
    (first | with_reducible assumption | exact Nat.lt_of_lt_of_le (by assumption) (by decide) | exact Nat.lt_of_le_of_lt (by assumption) (by decide) | lia | omega)
theorem exp_ge (b : Nat → List (Nat × Nat)) (xs : List Nat) (st : Ks × Mv) : st.1.length ≤ (xs.foldl (expS b) st).1.length := by
  obtain ⟨t, e⟩ := exp_pre b xs st
  rw [e, List.length_append]; (first | with_reducible assumption | exact Nat.lt_of_lt_of_le (by assumption) (by decide) | exact Nat.lt_of_le_of_lt (by assumption) (by decide) | lia | omega)
theorem exp_its {g : Gr} {b : Nat → List (Nat × Nat)} (hb : ∀ x, g.Its (b x)) : ∀ (xs : List Nat) (st : Ks × Mv), (∀ l ∈ st.1, g.Its l) → ∀ l ∈ (xs.foldl (expS b) st).1, g.Its l
  | [], st, h => h
  | x :: xs, st, h => exp_its hb xs _ (addK_its h (hb x))
theorem upd_upd (R : Nat → Rec) (i : Nat) (r r' : Rec) : upd (upd R i r) i r' = upd R i r' := by
  funext j; unfold upd
  by_cases e : j = i
  · rw [if_pos e, if_pos e]
  · rw [if_neg e, if_neg e, if_neg e]
theorem behM_look (g : Gr) (its : List (Nat × Nat)) {x : Nat} (h : x ∈ symN g its) : lookD (behM g its) (x : Nat) = some (.tup (encL g (behS g its x))) := by
  unfold behM; rw [lookD_dmap, if_pos h]
theorem movD_len (m : Mv) : (movD m).length = m.length := List.length_map ..
theorem movD_store {m : Mv} {x j : Nat} (h : ∀ p ∈ m, p.1 ≠ x) : storeD (movD m) (x : Nat) (.int (j : Nat)) = movD (m ++ [(x, j)]) := by
  unfold storeD
  rw [if_neg]
  · unfold movD; rw [List.map_append]; rfl
  · rw [List.any_eq_true]
    rintro ⟨kv, mm, e⟩
    obtain ⟨p, mp, rfl⟩ := List.mem_map.mp mm
    exact h p mp (Int.ofNat.inj (of_decide_eq_true e))
theorem exp_mv (b : Nat → List (Nat × Nat)) : ∀ (xs : List Nat) (st : Ks × Mv), ((xs.foldl (expS b) st).2).map Prod.fst = st.2.map Prod.fst ++ xs
  | [], st => by rw [List.append_nil]; rfl
  | x :: xs, st => by
    rw [List.foldl_cons, exp_mv b xs]
    show (st.2 ++ [(x, (addK st.1 (b x)).idxOf (b x))]).map Prod.fst ++ xs = _
    rw [List.map_append, List.append_assoc]; rfl
theorem symN_len {g : Gr} (ok : g.Ok) (its : List (Nat × Nat)) : (symN g its).length ≤ 32 := by unfold symN; rw [sortN_len]; exact syms_len ok its
theorem symN_nodup (g : Gr) (its : List (Nat × Nat)) : (symN g its).Nodup := (sortN_perm _).nodup_iff.mpr (symsOf_nodup g its)
theorem not_before {l : List Nat} (nd : l.Nodup) {i x : Nat} (hx : l[i]? = some x) : x ∉ l.take i := fun m => by
  obtain ⟨j, hj, e⟩ := List.getElem_of_mem m
  rw [List.getElem_take] at e
  have hj' : j < i := by rw [List.length_take] at hj; (first | with_reducible assumption | exact Nat.lt_of_lt_of_le (by assumption) (by decide) | exact Nat.lt_of_le_of_lt (by assumption) (by decide) | lia | omega)
  obtain ⟨hi', e'⟩ := List.getElem?_eq_some_iff.mp hx
  have := (List.getElem?_inj (i := j) (j := i) (by (first | with_reducible assumption | exact Nat.lt_of_lt_of_le (by assumption) (by decide) | exact Nat.lt_of_le_of_lt (by assumption) (by decide) | lia | omega)) nd).mp (by rw [List.getElem?_eq_getElem (by (first | with_reducible assumption | exact Nat.lt_of_lt_of_le (by assumption) (by decide) | exact Nat.lt_of_le_of_lt (by assumption) (by decide) | lia | omega)), List.getElem?_eq_getElem hi', e, e'])
  (first | with_reducible assumption | exact Nat.lt_of_lt_of_le (by assumption) (by decide) | exact Nat.lt_of_le_of_lt (by assumption) (by decide) | lia | omega)

section
variable {prog : Program} {w : World} {K : Frag} {a : Ad} {n : Nat} {sc : Scope} {tab : Tab} {ρ : Loc} {G G' : GH} {Q : D → GH → Prop} {g : Gr} {k its : List (Nat × Nat)} {xb dxb ls ns : Addr} {ks : Ks} {R : Nat → Rec} {X DX M : Nat → Addr}
noncomputable def exR (xb x : Addr) (y0 y1 : Option D) : Loc := [some (.ref xb), some (.ref x), y0, y1]
theorem w_expand (C : Ctx w K a) (ok : g.Ok) (T : Mach a g G xb dxb ls ns ks R G' X DX M) {i : Nat} (hi : ks[i]? = some k) (hks : ∀ l ∈ ks, g.Its l) (hz : ks.length + 64 < 2 ^ 20) (hkz : k.length < 40) (hRi : R i = blank) (hR : ∀ j, ks.length ≤ j → R j = blank)
    (q : ∀ G'' X' DX' M', Mach a g G xb dxb ls ns (expF ks (behS g (clo g k)) (symN g (clo g k))).1 (upd R i ⟨clo g k, (expF ks (behS g (clo g k)) (symN g (clo g k))).2, redS g (clo g k)⟩) G'' X' DX' M' → Q .none G'') :
    FN prog w K 6 G' a.buExpand [.ref xb, .ref (X i)] Q := by
  refine C.d_buExpand.fn C.ok (by rfl) (by rfl) ?_
  have hil := (List.getElem?_eq_some_iff.mp hi).1
  have hk := hks k (List.mem_of_getElem? hi)
  have hc := clo_its hk
  have hcz : (clo g k).length < 64 := by
    unfold clo
    rw [List.length_append, (srt_perm k).length_eq]
    have := addL_len ok (k := k)
    (first | with_reducible assumption | exact Nat.lt_of_lt_of_le (by assumption) (by decide) | exact Nat.lt_of_le_of_lt (by assumption) (by decide) | lia | omega)
  generalize hx : X i = x
  show SX _ _ _ _ _ _ (exR xb x none none) _ _ _
  obtain ⟨sy, sh, p1, p2, p3⟩ := T.st i k hi
  rw [hx] at p1
  refine SX_next (S1_assign (EX_methU (EX_attr (EX_name (by rfl) (by rfl) ⟨_, _, _, .live T.hb T.hdb, C.c_Builder, C.a_Builder _ (by decide), by rfl, ⟨_, _, _, .frozen, C.c_Closer, C.m_Closer_close, by rfl, EX_attr (EX_name (by rfl) (by rfl) ⟨_, _, _, .live p1 p2, C.c_LrState, C.a_LrState _ (by decide), by rfl, FN.le (v_close C ok hk (by (first | with_reducible assumption | exact Nat.lt_of_lt_of_le (by assumption) (by decide) | exact Nat.lt_of_le_of_lt (by assumption) (by decide) | lia | omega)) ?_) (by decide)⟩)⟩⟩))) (fun _ _ => swapsWith_plain rfl) (fun _ _ => rfl) rfl)
  refine AX_attr (EX_name (by rfl) (by rfl) ⟨_, _, _, _, rfl, p1, p2, C.c_LrState, C.a_LrState _ (by decide), few rfl, rfl, ?_⟩)
  have T1 := T.setR hi (r := ⟨clo g k, (R i).moves, (R i).reds⟩) (sy := sy) (sh := sh) rfl
  show SX _ _ _ _ _ _ _ (G'.put (DX i) (.attrs (recFs g i k ⟨clo g k, (R i).moves, (R i).reds⟩ sy sh (.ref (M i))))) _ _
  obtain ⟨G1, hG1⟩ : ∃ z, G'.put (DX i) (.attrs (recFs g i k ⟨clo g k, (R i).moves, (R i).reds⟩ sy sh (.ref (M i)))) = z := ⟨_, rfl⟩
  rw [hG1] at T1 ⊢
  clear hG1
  obtain ⟨sy, sh, p1, p2, p3⟩ := T1.st i k hi
  rw [hx] at p1
  rw [upd_at] at p2
  refine SX_next (S1_assign (EX_call (C.cg (by rfl) (by rfl) (by rfl)) (.of C.d_complete.keep) (EX_attr (EX_name (by rfl) (by rfl) ⟨_, _, _, .live T1.hb T1.hdb, C.c_Builder, C.a_Builder _ (by decide), by rfl, EX_attr (EX_name (by rfl) (by rfl) ⟨_, _, _, .live p1 p2, C.c_LrState, C.a_LrState _ (by decide), by rfl, (FN.le (v_complete C ok hc hcz ?_) (by decide)).op⟩)⟩))) (fun _ _ => swapsWith_plain rfl) (fun _ _ => rfl) rfl)
  refine AX_attr (EX_name (by rfl) (by rfl) ⟨_, _, _, _, rfl, p1, p2, C.c_LrState, C.a_LrState _ (by decide), few rfl, rfl, ?_⟩)
  have T2 := T1.setR hi (r := ⟨clo g k, [], redS g (clo g k)⟩) (sy := sy) (sh := sh) (by rw [upd_at, hRi]; rfl)
  rw [upd_upd] at T2
  show SX _ _ _ _ _ _ _ (G1.put (DX i) (.attrs (recFs g i k ⟨clo g k, [], redS g (clo g k)⟩ sy sh (.ref (M i))))) _ _
  obtain ⟨G2, hG2⟩ : ∃ z, G1.put (DX i) (.attrs (recFs g i k ⟨clo g k, [], redS g (clo g k)⟩ sy sh (.ref (M i)))) = z := ⟨_, rfl⟩
  rw [hG2] at T2 ⊢
  clear hG2
  obtain ⟨sy, sh, p1, p2, p3⟩ := T2.st i k hi
  rw [hx] at p1
  rw [upd_at] at p2
  refine SX_next (S1_name (by rfl) (tab_inj (by rfl)) (EX_call (C.cg (by rfl) (by rfl) (by rfl)) (.of C.d_behind.keep) (EX_attr (EX_name (by rfl) (by rfl) ⟨_, _, _, .live T2.hb T2.hdb, C.c_Builder, C.a_Builder _ (by decide), by rfl, EX_attr (EX_name (by rfl) (by rfl) ⟨_, _, _, .live p1 p2, C.c_LrState, C.a_LrState _ (by decide), by rfl, (FN.le (v_behind C ok hc hcz ⟨rfl, ?_⟩) (by decide)).op⟩)⟩))))
  generalize hits : clo g k = its at *
  let st : Nat → Ks × Mv := fun j => ((symN g its).take j).foldl (expS (behS g its)) (ks, [])
  let J : Nat → Loc → GH → Prop := fun j ρ G3 => ∃ d3 X' DX' M', ρ = (exR xb x (some (.dict (behM g its))) d3) ∧ Mach a g G xb dxb ls ns (st j).1 (upd R i ⟨its, (st j).2, redS g its⟩) G3 X' DX' M' ∧ X' i = x
  refine SX_cons (S1_for (SRC_dict (EX_name (by rfl) (by rfl) ⟨_, rfl, ?_⟩) C.ok.sys))
  have hkeys : (behM g its).map (fun kv => D.int kv.1) = intL (symN g its) := by
    unfold behM; rw [← zL_int, ← dmap_keys (symN g its) fun x => .tup (encL g (behS g its x)), List.map_map]; rfl
  rw [hkeys]
  refine ForX_ind J (fun j d ρ G3 hj hJ => ?_) (fun ρ G3 hJ => ⟨fun _ => ?_, fun _ e => (nomatch e)⟩) ⟨none, X, DX, M, rfl, T2, hx⟩
  · obtain ⟨y, hy, rfl⟩ := intL_item hj
    obtain ⟨d3, X', DX', M', rfl, T3, hx'⟩ := hJ
    have hym := List.mem_of_getElem? hy
    have hjl := (List.getElem?_eq_some_iff.mp hy).1
    have hs32 := symN_len ok its
    have hst : st (j + 1) = expS (behS g its) (st j) y := foldl_take _ _ _ _ _ hy
    have hge : ks.length ≤ (st j).1.length := exp_ge (behS g its) _ (ks, [])
    have hle : (st j).1.length ≤ ks.length + 32 := by
      have := exp_len (behS g its) ((symN g its).take j) (ks, [])
      have h2 := List.length_take_le' j (symN g its)
      show (((symN g its).take j).foldl (expS (behS g its)) (ks, [])).1.length ≤ _
      dsimp only at this
      (first | with_reducible assumption | exact Nat.lt_of_lt_of_le (by assumption) (by decide) | exact Nat.lt_of_le_of_lt (by assumption) (by decide) | lia | omega)
    have hits' : ∀ l ∈ (st j).1, g.Its l := exp_its (fun x => behS_its hc x) _ (ks, []) hks
    have hi3 : (st j).1[i]? = some k := by
      obtain ⟨t, e⟩ := exp_pre (behS g its) ((symN g its).take j) (ks, [])
      show (((symN g its).take j).foldl (expS (behS g its)) (ks, [])).1[i]? = _
      rw [e, List.getElem?_append_left hil]; exact hi
    have hmv : (st j).2.map (·.1) = (symN g its).take j := by
      have := exp_mv (behS g its) ((symN g its).take j) (ks, [])
      rw [List.map_nil, List.nil_append] at this; exact this
    have hmvz : (st j).2.length ≤ 32 := by
      have := congrArg List.length hmv
      rw [List.length_map] at this
      have h2 := List.length_take_le' j (symN g its)
      (first | with_reducible assumption | exact Nat.lt_of_lt_of_le (by assumption) (by decide) | exact Nat.lt_of_le_of_lt (by assumption) (by decide) | lia | omega)
    have hfresh : ∀ p ∈ (st j).2, p.1 ≠ y := fun p mp e => by
      have := List.mem_map_of_mem (f := (·.1)) mp
      rw [hmv, e] at this
      exact not_before (symN_nodup g its) hy this
    refine AX_name (by rfl) (tab_inj (by rfl)) ?_
    show SX _ _ _ _ _ _ (exR xb x (some (.dict (behM g its))) (some (.int (y : Nat)))) _ _ _
    refine SX_next (S1_assign (EX_methU (EX_name (by rfl) (by rfl) ⟨_, _, _, .live T3.hb T3.hdb, C.c_Builder, C.m_Builder_number_of, by rfl, EX_indexD C.ok.sys (EX_name (by rfl) (by rfl) (EX_name (by rfl) (by rfl) ⟨_, _, _, .frozen, rfl, behM_look g its hym, EX_name (by rfl) (by rfl) (FN.le (w_number C ok T3 hits' (behS_its hc y) (by (first | with_reducible assumption | exact Nat.lt_of_lt_of_le (by assumption) (by decide) | exact Nat.lt_of_le_of_lt (by assumption) (by decide) | lia | omega)) ?_ fun G4 X4 DX4 M4 T4 hX4 => ?_) (by decide))⟩))⟩)) (fun _ _ => swapsWith_plain rfl) (fun _ _ => rfl) rfl)
    · unfold upd; rw [if_neg (by (first | with_reducible assumption | exact Nat.lt_of_lt_of_le (by assumption) (by decide) | exact Nat.lt_of_le_of_lt (by assumption) (by decide) | lia | omega))]; exact hR _ hge
    · have hx4 : X4 i = x := by rw [hX4 i (by (first | with_reducible assumption | exact Nat.lt_of_lt_of_le (by assumption) (by decide) | exact Nat.lt_of_le_of_lt (by assumption) (by decide) | lia | omega))]; exact hx'
      have hi4 : (addK (st j).1 (behS g its y))[i]? = some k := by
        obtain ⟨t, e⟩ := addK_pre (st j).1 (behS g its y)
        rw [e, List.getElem?_append_left (by (first | with_reducible assumption | exact Nat.lt_of_lt_of_le (by assumption) (by decide) | exact Nat.lt_of_le_of_lt (by assumption) (by decide) | lia | omega))]; exact hi3
      obtain ⟨sy, sh, p1, p2, p3⟩ := T4.st i k hi4
      rw [hx4] at p1
      rw [upd_at] at p2 p3
      refine AX_subD (EX_attr (EX_name (by rfl) (by rfl) ⟨_, _, _, .live p1 p2, C.c_LrState, C.a_LrState _ (by decide), by rfl, EX_name (by rfl) (by rfl) ⟨M4 i, _, _, rfl, p3, rfl, by rw [movD_len]; show (st j).2.length < _; (first | with_reducible assumption | exact Nat.lt_of_lt_of_le (by assumption) (by decide) | exact Nat.lt_of_le_of_lt (by assumption) (by decide) | lia | omega), rfl, ?_⟩⟩))
      rw [movD_store hfresh]
      have T5 := T4.setM hi4 (r := ⟨its, (st j).2 ++ [(y, (addK (st j).1 (behS g its y)).idxOf (behS g its y))], redS g its⟩) (by rw [upd_at]) (by rw [upd_at])
      rw [upd_upd] at T5
      dsimp only at T5
      obtain ⟨G5, hG5⟩ : ∃ z, G4.put (M4 i) (.dict (movD ((st j).2 ++ [(y, (addK (st j).1 (behS g its y)).idxOf (behS g its y))]))) = z := ⟨_, rfl⟩
      rw [hG5] at T5 ⊢
      clear hG5
      obtain ⟨sy, sh, p1, p2, p3⟩ := T5.st i k hi4
      rw [hx4] at p1
      rw [upd_at] at p2
      have fin6 : ∀ b : Bool, Mach a g G xb dxb ls ns (st (j + 1)).1 (upd R i ⟨its, (st (j + 1)).2, redS g its⟩) (G5.put (DX4 i) (.attrs (recFs g i k ⟨its, (st j).2 ++ [(y, (addK (st j).1 (behS g its y)).idxOf (behS g its y))], redS g its⟩ sy b (.ref (M4 i))))) X4 DX4 M4 := fun b => by
        rw [hst]
        have T6 := T5.setR hi4 (r := ⟨its, (st j).2 ++ [(y, (addK (st j).1 (behS g its y)).idxOf (behS g its y))], redS g its⟩) (sy := sy) (sh := b) (by rw [upd_at])
        rw [upd_upd] at T6
        exact T6
      refine SX_next (S1_assign (EX_or (EX_attr (EX_name (by rfl) (by rfl) ⟨_, _, _, .live p1 p2, C.c_LrState, C.a_LrState _ (by decide), by rfl, sh, rfl, fun _ => ?_, fun _ => EX_methU (EX_attr (EX_name (by rfl) (by rfl) ⟨_, _, _, .live T5.hb T5.hdb, C.c_Builder, C.a_Builder _ (by decide), by rfl, ⟨_, _, _, .frozen, C.c_Grammar, C.m_Grammar_is_terminal, by rfl, EX_name (by rfl) (by rfl) (FN.le (w_term C ?_) (by decide))⟩⟩))⟩))) (fun _ _ => swapsWith_plain rfl) (fun _ _ => rfl) rfl)
      all_goals
        refine AX_attr (EX_name (by rfl) (by rfl) ⟨_, _, _, _, rfl, p1, p2, C.c_LrState, C.a_LrState _ (by decide), few rfl, rfl, ?_⟩)
        exact SX_nil ⟨fun _ => ⟨_, X4, DX4, M4, rfl, fin6 _, hx4⟩, fun _ e => (nomatch e)⟩
  · obtain ⟨d3, X', DX', M', rfl, T3, hx'⟩ := hJ
    rw [intL_len] at T3
    have e : st (symN g its).length = expF ks (behS g its) (symN g its) := by
      show ((symN g its).take (symN g its).length).foldl _ _ = _
      rw [List.take_length]; rfl
    rw [e] at T3
    exact SX_nil ⟨fun _ => q _ _ _ _ T3, fun _ e => (nomatch e)⟩
end
noncomputable def nexts (g : Gr) (ks : Ks) (k : List (Nat × Nat)) : Ks × Mv := expF ks (behS g (clo g k)) (symN g (clo g k))
noncomputable def bfs (g : Gr) : Nat → Ks × List Mv
  | 0 => ([[(0, 0)]], [])
  | n + 1 => ((nexts g (bfs g n).1 ((bfs g n).1.getD n [])).1, (bfs g n).2 ++ [(nexts g (bfs g n).1 ((bfs g n).1.getD n [])).2])
theorem bfs_succ (g : Gr) (n : Nat) : bfs g (n + 1) = ((nexts g (bfs g n).1 ((bfs g n).1.getD n [])).1, (bfs g n).2 ++ [(nexts g (bfs g n).1 ((bfs g n).1.getD n [])).2]) := rfl
theorem bfs_rows (g : Gr) : ∀ n, (bfs g n).2.length = n
  | 0 => rfl
  | n + 1 => by rw [bfs_succ]; show ((bfs g n).2 ++ _).length = _; rw [List.length_append, bfs_rows g n]; rfl
theorem bfs_pre (g : Gr) (n : Nat) : ∃ t, (bfs g (n + 1)).1 = (bfs g n).1 ++ t := exp_pre _ _ ((bfs g n).1, [])
theorem bfs_le (g : Gr) (n : Nat) : (bfs g n).1.length ≤ (bfs g (n + 1)).1.length := exp_ge _ _ ((bfs g n).1, [])
theorem getD_app {α : Type} {l t : List α} {i : Nat} {d : α} (h : i < l.length) : (l ++ t).getD i d = l.getD i d := by
  rw [List.getD_eq_getElem?_getD, List.getD_eq_getElem?_getD, List.getElem?_append_left h]
theorem bfs_at {g : Gr} {n i : Nat} (h : i < (bfs g n).1.length) : (bfs g (n + 1)).1.getD i [] = (bfs g n).1.getD i [] := by
  obtain ⟨t, e⟩ := bfs_pre g n
  rw [e, getD_app h]
theorem row_at {g : Gr} {n i : Nat} (h : i < n) : (bfs g (n + 1)).2.getD i [] = (bfs g n).2.getD i [] := by
  rw [bfs_succ]; exact getD_app (by rw [bfs_rows]; exact h)
theorem row_last {g : Gr} {n : Nat} : (bfs g (n + 1)).2.getD n [] = (nexts g (bfs g n).1 ((bfs g n).1.getD n [])).2 := by
  rw [bfs_succ]
  show ((bfs g n).2 ++ [_]).getD n [] = _
  rw [List.getD_eq_getElem?_getD, List.getElem?_append_right (by rw [bfs_rows]; exact Nat.le_refl _), bfs_rows, Nat.sub_self]; rfl
theorem bfs_its {g : Gr} (h0 : 0 < g.rules.length) : ∀ n, ∀ l ∈ (bfs g n).1, g.Its l
  | 0, l, m => by
    rw [List.mem_singleton.mp m]
    intro p mp
    rw [List.mem_singleton.mp mp]
    exact ⟨h0, Nat.zero_le _⟩
  | n + 1, l, m => by
    refine exp_its (g := g) (fun x => behS_its (clo_its ?_) x) _ ((bfs g n).1, []) (bfs_its h0 n) l m
    by_cases z : n < (bfs g n).1.length
    · refine bfs_its h0 n _ ?_
      rw [List.getD_eq_getElem?_getD, List.getElem?_eq_getElem z]; exact List.getElem_mem z
    · rw [List.getD_eq_getElem?_getD, List.getElem?_eq_none (by (first | with_reducible assumption | exact Nat.lt_of_lt_of_le (by assumption) (by decide) | exact Nat.lt_of_le_of_lt (by assumption) (by decide) | lia | omega))]
      intro p mp; cases mp
theorem exp_all {P : List (Nat × Nat) → Prop} {b : Nat → List (Nat × Nat)} (hb : ∀ x, P (b x)) : ∀ (xs : List Nat) (st : Ks × Mv), (∀ l ∈ st.1, P l) → ∀ l ∈ (xs.foldl (expS b) st).1, P l
  | [], st, h => h
  | x :: xs, st, h => exp_all hb xs _ fun l m => by
    have m : l ∈ addK st.1 (b x) := m
    unfold addK at m
    split at m
    · exact h l m
    · rcases List.mem_append.mp m with m | m
      · exact h l m
      · rw [List.mem_singleton.mp m]; exact hb x
theorem clo_nodup {g : Gr} {k : List (Nat × Nat)} (h : k.Nodup) : (clo g k).Nodup := by
  unfold clo
  rw [List.nodup_append]
  refine ⟨(srt_perm k).nodup_iff.mpr h, addL_nodup, fun p hp q hq e => ?_⟩
  subst e
  exact (addL_mem.mp hq).2.2.1 ((srt_perm k).mem_iff.mp hp)
theorem behS_nodup {g : Gr} {its : List (Nat × Nat)} (h : its.Nodup) (x : Nat) : (behS g its x).Nodup := by
  unfold behS
  refine (srt_perm _).nodup_iff.mpr ?_
  unfold behindOf List.Nodup
  rw [List.pairwise_map]
  refine List.Pairwise.filter _ (h.imp fun {p q} hne e => hne ?_)
  obtain ⟨p1, p2⟩ := p
  obtain ⟨q1, q2⟩ := q
  injection e with e1 e2
  dsimp only at e1 e2
  rw [e1]
  have : p2 = q2 := by (first | with_reducible assumption | exact Nat.lt_of_lt_of_le (by assumption) (by decide) | exact Nat.lt_of_le_of_lt (by assumption) (by decide) | lia | omega)
  rw [this]
theorem bfs_nodup {g : Gr} : ∀ n, ∀ l ∈ (bfs g n).1, l.Nodup
  | 0, l, m => by rw [List.mem_singleton.mp m]; simp
  | n + 1, l, m => by
    refine exp_all (P := List.Nodup) (fun x => behS_nodup (clo_nodup ?_) x) _ ((bfs g n).1, []) (bfs_nodup n) l m
    by_cases z : n < (bfs g n).1.length
    · refine bfs_nodup (g := g) n _ ?_
      rw [List.getD_eq_getElem?_getD, List.getElem?_eq_getElem z]; exact List.getElem_mem z
    · rw [List.getD_eq_getElem?_getD, List.getElem?_eq_none (by (first | with_reducible assumption | exact Nat.lt_of_lt_of_le (by assumption) (by decide) | exact Nat.lt_of_le_of_lt (by assumption) (by decide) | lia | omega))]
      exact List.nodup_nil
theorem its_len {g : Gr} (ok : g.Ok) {k : List (Nat × Nat)} (hk : g.Its k) (nd : k.Nodup) : k.length ≤ 32 := by
  have : (k.map g.enc).Nodup := by
    unfold List.Nodup
    rw [List.pairwise_map]
    exact List.Pairwise.imp_of_mem (fun {p q} mp mq hne e => hne (enc_inj ok (hk p mp) (hk q mq) e)) nd
  have h := nodup_le 32 _ this fun x m => by
    obtain ⟨p, mp, rfl⟩ := List.mem_map.mp m
    exact (hk p mp).bound ok
  rwa [List.length_map] at h
noncomputable def End (g : Gr) (n : Nat) : Prop := n = (bfs g n).1.length ∧ ∀ m, m < n → m < (bfs g m).1.length
theorem End.uniq {g : Gr} {n m : Nat} (h : End g n) (h' : End g m) : n = m := by
  rcases Nat.lt_trichotomy n m with l | l | l
  · have := h'.2 n l; have := h.1; (first | with_reducible assumption | exact Nat.lt_of_lt_of_le (by assumption) (by decide) | exact Nat.lt_of_le_of_lt (by assumption) (by decide) | lia | omega)
  · exact l
  · have := h.2 m l; have := h'.1; (first | with_reducible assumption | exact Nat.lt_of_lt_of_le (by assumption) (by decide) | exact Nat.lt_of_le_of_lt (by assumption) (by decide) | lia | omega)
noncomputable def RR (g : Gr) (n i : Nat) : Rec := if i < n then ⟨clo g ((bfs g n).1.getD i []), (bfs g n).2.getD i [], redS g (clo g ((bfs g n).1.getD i []))⟩ else blank
noncomputable def AutoD (a : Ad) (g : Gr) (n : Nat) (d : D) : Prop := ∃ ds, d = .obj a.Automaton [("grammar", g.d a), ("states", .list ds)] ∧ ds.length = n ∧ ∀ i, i < n → ∃ sy sh, ds[i]? = some (recD a g i ((bfs g n).1.getD i []) (RR g n i) sy sh)

section
variable {prog : Program} {w : World} {K : Frag} {a : Ad} {n : Nat} {sc : Scope} {tab : Tab} {ρ : Loc} {G G' : GH} {Q : D → GH → Prop} {g : Gr} {k its : List (Nat × Nat)} {xb dxb ls ns : Addr} {ks : Ks} {R : Nat → Rec} {X DX M : Nat → Addr}
theorem S1_exprI {e : Expr} {pos : Pos} {Q : Fl → Loc → GH → Prop} (h : EX prog w K n sc tab ρ G e (fun d G₁ => (∃ i, d = .int i) ∧ Q .next ρ G₁)) (hc : isComp e = false := by rfl) : S1 prog w K n sc tab ρ G (.Expr e pos) Q := by
  intro A env F s ok hsc I R
  have hi : interactive env = false := by unfold interactive; rw [R.kind]; rfl
  refine wpAny_Expr (wpAny_mono (h A env F s ok hsc I R) (fun v s₁ ⟨F₁, G₁, d, O₁, r, ⟨i, e⟩, q⟩ => ?_) fun _ _ x => x) hi (swapsWith_plain hc)
  subst e; cases r
  exact ⟨F₁, G₁, ρ, .next, O₁.nil, R.nil O₁, .next, q⟩
theorem meltAll_map {G G'' : GH} {α : Type} {f h : α → D} : ∀ {l : List α}, (∀ x ∈ l, Melt G G'' (f x) (h x)) → MeltAll G G'' (l.map f) (l.map h)
  | [], _ => .nil
  | x :: l, q => .cons (q x (.head _)) (meltAll_map fun y m => q y (.tail _ m))
theorem RR_step {g : Gr} {n : Nat} (h : n < (bfs g n).1.length) (i : Nat) (hi : i < (bfs g (n + 1)).1.length) : RR g (n + 1) i = upd (RR g n) n ⟨clo g ((bfs g n).1.getD n []), (nexts g (bfs g n).1 ((bfs g n).1.getD n [])).2, redS g (clo g ((bfs g n).1.getD n []))⟩ i := by
  unfold upd
  by_cases e : i = n
  · subst e
    rw [if_pos rfl]
    unfold RR
    rw [if_pos (Nat.lt_succ_self _), bfs_at h, row_last]
  · rw [if_neg e]
    unfold RR
    by_cases l : i < n
    · rw [if_pos l, if_pos (by (first | with_reducible assumption | exact Nat.lt_of_lt_of_le (by assumption) (by decide) | exact Nat.lt_of_le_of_lt (by assumption) (by decide) | lia | omega)), bfs_at (by (first | with_reducible assumption | exact Nat.lt_of_lt_of_le (by assumption) (by decide) | exact Nat.lt_of_le_of_lt (by assumption) (by decide) | lia | omega)), row_at l]
    · rw [if_neg l, if_neg (by (first | with_reducible assumption | exact Nat.lt_of_lt_of_le (by assumption) (by decide) | exact Nat.lt_of_le_of_lt (by assumption) (by decide) | lia | omega))]
theorem w_auInit (C : Ctx w K a) {d : D} {x dx : Addr} (hne : x ≠ dx) (q : Q .none (objH G x dx a.Automaton [("grammar", g.d a), ("states", d)])) : FN prog w K 1 (objH G x dx a.Automaton []) a.auInit [.ref x, g.d a, d] Q := by
  refine C.d_auInit.fn C.ok (by rfl) (by rfl) ?_
  show SX _ _ _ _ _ _ [some (.ref x), some (g.d a), some d] _ _ _
  refine SX_next (S1_assign (EX_name (by rfl) (by rfl) (AX_attr (EX_name (by rfl) (by rfl) ⟨_, _, _, _, rfl, objH_x, objH_dx hne, C.c_Automaton, C.a_Automaton _ (by decide), few rfl, rfl, ?_⟩))) (fun _ _ => swapsWith_plain rfl) (fun _ _ => rfl) rfl)
  rw [objH_put hne]
  refine SX_next (S1_assign (EX_name (by rfl) (by rfl) (AX_attr (EX_name (by rfl) (by rfl) ⟨_, _, _, _, rfl, objH_x, objH_dx hne, C.c_Automaton, C.a_Automaton _ (by decide), few rfl, rfl, ?_⟩))) (fun _ _ => swapsWith_plain rfl) (fun _ _ => rfl) rfl)
  rw [objH_put hne]
  exact SX_nil ⟨fun _ => q, fun _ e => (nomatch e)⟩
theorem w_built (C : Ctx w K a) (ok : g.Ok) (h0 : 0 < g.rules.length) (hB : ∀ n, (bfs g n).1.length + 64 < 2 ^ 20) (T : Mach a g G xb dxb ls ns [] (fun _ => blank) G' X DX M) (q : ∀ n d, End g n → AutoD a g n d → Q d G) :
    FN prog w K 7 G' a.buBuilt [.ref xb] Q := by
  refine FN.melt (C.d_buBuilt.fn C.ok (by rfl) (by rfl) ?_)
  show SX _ _ _ _ _ _ [some (.ref xb), none] _ _ _
  have hit : g.It 0 0 := ⟨h0, Nat.zero_le _⟩
  have hk0 : g.Its [(0, 0)] := fun p m => by rw [List.mem_singleton.mp m]; exact hit
  refine SX_next (S1_exprI (EX_methU (EX_name (by rfl) (by rfl) ⟨_, _, _, .live T.hb T.hdb, C.c_Builder, C.m_Builder_number_of, by rfl, EX_tuple (EX_methU (EX_attr (EX_name (by rfl) (by rfl) ⟨_, _, _, .live T.hb T.hdb, C.c_Builder, C.a_Builder _ (by decide), by rfl, ⟨_, _, _, .frozen, C.c_Grammar, C.m_Grammar_item, by rfl, EX_int (EX_int (FN.le (w_item C ok hit ⟨(by show 1 < 2 ^ 20; decide), ?_⟩) (by decide)))⟩⟩)))⟩)))
  refine EX_NONE C (by rfl) (FN.le (w_number (k := [(0, 0)]) C ok T (fun l m => (nomatch m)) hk0 (by decide) rfl fun G1 X1 DX1 M1 T1 _ => ⟨⟨_, rfl⟩, rfl, ?_⟩) (by decide))
  refine SX_next (S1_name (by rfl) (tab_inj (by rfl)) (EX_int ⟨rfl, ?_⟩))
  let J : Nat → Loc → GH → Prop := fun m ρ G2 => ∃ n X2 DX2 M2, ρ = [some (.ref xb), some (.int (n : Nat))] ∧ n + m = 2 ^ 20 ∧ Mach a g G xb dxb ls ns (bfs g n).1 (RR g n) G2 X2 DX2 M2 ∧ n ≤ (bfs g n).1.length ∧ ∀ m, m < n → m < (bfs g m).1.length
  refine SX_seq (fun ρ G2 => ∃ n X2 DX2 M2, ρ = [some (.ref xb), some (.int (n : Nat))] ∧ Mach a g G xb dxb ls ns (bfs g n).1 (RR g n) G2 X2 DX2 M2 ∧ End g n) (S1_while J (2 ^ 20) ⟨0, X1, DX1, M1, rfl, by (first | with_reducible assumption | exact Nat.lt_of_lt_of_le (by assumption) (by decide) | exact Nat.lt_of_le_of_lt (by assumption) (by decide) | lia | omega), T1.congr fun i hi => by unfold RR; rw [if_neg (Nat.not_lt_zero _)], Nat.zero_le _, fun m hm => absurd hm (Nat.not_lt_zero _)⟩ ?_) ?_
  · rintro m ρ G2 ⟨n, X2, DX2, M2, rfl, hm, T2, hn, hE⟩
    have hb := hB n
    have hl : (xsL X2 (bfs g n).1.length).length = (bfs g n).1.length := xsL_len
    refine TX_cmp (EX_name (by rfl) (by rfl) (EX_call (C.cb (by rfl) (by rfl) (by rfl)) (.builtin _) (EX_attr (EX_name (by rfl) (by rfl) ⟨_, _, _, .live T2.hb T2.hdb, C.c_Builder, C.a_Builder _ (by decide), by rfl, OP_len (.live T2.hls) (by rw [hl]; (first | with_reducible assumption | exact Nat.lt_of_lt_of_le (by assumption) (by decide) | exact Nat.lt_of_le_of_lt (by assumption) (by decide) | lia | omega)) (OP_lt ⟨_, rfl, fun hc => ?_, fun hc => ?_⟩)⟩))))
    · rw [hl] at hc
      have hc : n < (bfs g n).1.length := Int.ofNat_lt.mp (of_decide_eq_true hc)
      have hi : (bfs g n).1[n]? = some ((bfs g n).1.getD n []) := by rw [List.getD_eq_getElem?_getD, List.getElem?_eq_getElem hc]; rfl
      have hmem := List.mem_of_getElem? hi
      have hitem : itemAt (xsL X2 (bfs g n).1.length) ((n : Nat) : Int) = some (.ref (X2 n)) := by
        unfold itemAt xsL
        rw [if_pos (Int.natCast_nonneg n), Int.toNat_natCast, List.getElem?_map, List.getElem?_range hc]; rfl
      refine SX_next (S1_expr (EX_methU (EX_name (by rfl) (by rfl) ⟨_, _, _, .live T2.hb T2.hdb, C.c_Builder, C.m_Builder_expand, by rfl, EX_index (EX_attr (EX_name (by rfl) (by rfl) ⟨_, _, _, .live T2.hb T2.hdb, C.c_Builder, C.a_Builder _ (by decide), by rfl, EX_name (by rfl) (by rfl) ⟨_, _, _, .live T2.hls, rfl, by (first | with_reducible assumption | exact Nat.lt_of_lt_of_le (by assumption) (by decide) | exact Nat.lt_of_le_of_lt (by assumption) (by decide) | lia | omega), hitem, FN.le (w_expand C ok T2 hi (bfs_its h0 n) hb ?_ ?_ ?_ fun G3 X3 DX3 M3 T3 => ⟨rfl, rfl, ?_⟩) (by decide)⟩⟩))⟩)))
      · have := its_len ok (bfs_its h0 n _ hmem) (bfs_nodup n _ hmem); (first | with_reducible assumption | exact Nat.lt_of_lt_of_le (by assumption) (by decide) | exact Nat.lt_of_le_of_lt (by assumption) (by decide) | lia | omega)
      · unfold RR; rw [if_neg (Nat.lt_irrefl _)]
      · intro j hj; unfold RR; rw [if_neg (by (first | with_reducible assumption | exact Nat.lt_of_lt_of_le (by assumption) (by decide) | exact Nat.lt_of_le_of_lt (by assumption) (by decide) | lia | omega))]
      · refine SX_next (S1_name (by rfl) (tab_inj (by rfl)) ?_)
        repeat (first | with_reducible refine EX_bin ?_ | with_reducible refine EX_int ?_ | with_reducible refine EX_neg ?_ | with_reducible refine EX_str ?_ | with_reducible refine EX_none ?_ | with_reducible refine EX_bool ?_ | with_reducible refine OP_add ?_ | with_reducible refine OP_sub ?_ | with_reducible refine OP_or ?_ | with_reducible refine OP_and ?_ | with_reducible refine OP_lt ?_ | with_reducible refine OP_gt ?_ | with_reducible refine OP_ge ?_ | with_reducible refine OP_eqi ?_ | with_reducible refine OP_nei ?_ | refine EX_name (by rfl) (by rfl) ?_)
        refine ⟨rfl, SX_nil ⟨fun _ => ⟨m - 1, by (first | with_reducible assumption | exact Nat.lt_of_lt_of_le (by assumption) (by decide) | exact Nat.lt_of_le_of_lt (by assumption) (by decide) | lia | omega), n + 1, X3, DX3, M3, rfl, by (first | with_reducible assumption | exact Nat.lt_of_lt_of_le (by assumption) (by decide) | exact Nat.lt_of_le_of_lt (by assumption) (by decide) | lia | omega), T3.congr (RR_step hc), by have := bfs_le g n; (first | with_reducible assumption | exact Nat.lt_of_lt_of_le (by assumption) (by decide) | exact Nat.lt_of_le_of_lt (by assumption) (by decide) | lia | omega), fun m' hm' => ?_⟩, fun _ e => (nomatch e)⟩⟩
        by_cases e : m' = n
        · rw [e]; exact hc
        · exact hE m' (by (first | with_reducible assumption | exact Nat.lt_of_lt_of_le (by assumption) (by decide) | exact Nat.lt_of_le_of_lt (by assumption) (by decide) | lia | omega))
    · rw [hl] at hc
      have hc := of_decide_eq_false hc
      have hc : ¬ n < (bfs g n).1.length := fun z => hc (Int.ofNat_lt.mpr z)
      exact ⟨rfl, n, X2, DX2, M2, rfl, T2, by (first | with_reducible assumption | exact Nat.lt_of_lt_of_le (by assumption) (by decide) | exact Nat.lt_of_le_of_lt (by assumption) (by decide) | lia | omega), hE⟩
  · rintro ρ₂ G2 ⟨n, X2, DX2, M2, rfl, T2, hE⟩
    refine SX_ret (EX_call (C.cg (by rfl) (by rfl) (by rfl)) (.of C.k_Automaton) (EX_attr (EX_name (by rfl) (by rfl) ⟨_, _, _, .live T2.hb T2.hdb, C.c_Builder, C.a_Builder _ (by decide), by rfl, EX_attr (EX_name (by rfl) (by rfl) ⟨_, _, _, .live T2.hb T2.hdb, C.c_Builder, C.a_Builder _ (by decide), by rfl, OP.le (OP_newO C.n_Automaton fun x dx hne h1 h2 => w_auInit C hne ⟨rfl, _, rfl, ?_⟩) (by decide : 2 ≤ 6)⟩)⟩)))
    have all : ∀ i, ∃ (z : Int × Bool), i < (bfs g n).1.length → G2 (X2 i) = some (.inst a.LrState (DX2 i)) ∧ G2 (DX2 i) = some (.attrs (recFs g i ((bfs g n).1.getD i []) (RR g n i) z.1 z.2 (.ref (M2 i)))) ∧ G2 (M2 i) = some (.dict (movD (RR g n i).moves)) := fun i => by
      by_cases hi : i < (bfs g n).1.length
      · obtain ⟨sy, sh, p1, p2, p3⟩ := T2.st i ((bfs g n).1.getD i []) (by rw [List.getD_eq_getElem?_getD, List.getElem?_eq_getElem hi]; rfl)
        exact ⟨(sy, sh), fun _ => ⟨p1, p2, p3⟩⟩
      · exact ⟨(0, false), fun z => absurd z hi⟩
    obtain ⟨z, hz⟩ := Classical.skolem.mp all
    let ds : List D := (List.range (bfs g n).1.length).map fun i => recD a g i ((bfs g n).1.getD i []) (RR g n i) (z i).1 (z i).2
    have hds : ds.length = n := by show ((List.range (bfs g n).1.length).map _).length = n; rw [List.length_map, List.length_range]; exact hE.1.symm
    refine ⟨G, .obj a.Automaton [("grammar", g.d a), ("states", .list ds)], fun b c e => ⟨c, T2.old b c e, .same _⟩, .obj (.cons (.same _) (.cons (.listG T2.hls T2.new.2.2.1 (meltAll_map fun i hi => ?_)) .nil)), q n _ hE ⟨ds, rfl, hds, fun i hi => ⟨(z i).1, (z i).2, ?_⟩⟩⟩
    · have hi := List.mem_range.mp hi
      obtain ⟨p1, p2, p3⟩ := hz i hi
      obtain ⟨f1, f2, f3⟩ := T2.fresh i hi
      exact .objG p1 f1 p2 f2 (.cons (.same _) (.cons (.same _) (.cons (.same _) (.cons (.same _) (.cons (.dictG p3 f3 (MeltKv.same _)) (.cons (.same _) (.cons (.same _) .nil)))))))
    · show ((List.range (bfs g n).1.length).map _)[i]? = _
      rw [List.getElem?_map, List.getElem?_range (by rw [← hE.1]; exact hi)]; rfl
theorem w_buInit (C : Ctx w K a) (ok : g.Ok) {x dx : Addr} (hne : x ≠ dx) (h1 : G x = none) (h2 : G dx = none) (q : ∀ ls ns G', Mach a g G x dx ls ns [] (fun _ => blank) G' (fun _ => x) (fun _ => x) (fun _ => x) → Q .none G') : FN prog w K 5 (objH G x dx a.Builder []) a.buInit [.ref x, g.d a] Q := by
  refine C.d_buInit.fn C.ok (by rfl) (by rfl) ?_
  show SX _ _ _ _ _ _ [some (.ref x), some (g.d a)] _ _ _
  refine SX_next (S1_assign (EX_name (by rfl) (by rfl) (AX_attr (EX_name (by rfl) (by rfl) ⟨_, _, _, _, rfl, objH_x, objH_dx hne, C.c_Builder, C.a_Builder _ (by decide), few rfl, rfl, ?_⟩))) (fun _ _ => swapsWith_plain rfl) (fun _ _ => rfl) rfl)
  rw [objH_put hne]
  refine SX_next (S1_assign (EX_call (C.cg (by rfl) (by rfl) (by rfl)) (.of C.k_Closer) (EX_name (by rfl) (by rfl) (w_Closer C ok (AX_attr (EX_name (by rfl) (by rfl) ⟨_, _, _, _, rfl, objH_x, objH_dx hne, C.c_Builder, C.a_Builder _ (by decide), few rfl, rfl, ?_⟩))))) (fun _ _ => swapsWith_plain rfl) (fun _ _ => rfl) rfl)
  rw [objH_put hne]
  refine SX_next (S1_assign (EX_listG ⟨by decide, fun ls hls => ?_⟩) (fun _ _ => swapsWith_plain rfl) (fun _ _ => rfl) rfl)
  obtain ⟨l1, l2, l3⟩ := objH_fresh hls
  rw [put_objH l1 l2]
  refine AX_attr (EX_name (by rfl) (by rfl) ⟨_, _, _, _, rfl, objH_x, objH_dx hne, C.c_Builder, C.a_Builder _ (by decide), few rfl, rfl, ?_⟩)
  rw [objH_put hne]
  refine SX_next (S1_assign (EX_dict0T fun ns hns => ?_) (fun _ _ => swapsWith_plain rfl) (fun _ _ => rfl) rfl)
  obtain ⟨n1, n2, n3⟩ := objH_fresh hns
  rw [put_objH n1 n2]
  refine AX_attr (EX_name (by rfl) (by rfl) ⟨_, _, _, _, rfl, objH_x, objH_dx hne, C.c_Builder, C.a_Builder _ (by decide), few rfl, rfl, ?_⟩)
  rw [objH_put hne]
  have nl : ns ≠ ls := by rintro rfl; rw [GH.put_self] at n3; cases n3
  refine SX_nil ⟨fun _ => q ls ns _ ⟨⟨h1, h2, l3, by rw [GH.put_ne nl] at n3; exact n3⟩, fun i hi => absurd hi (Nat.not_lt_zero _), fun b c e => ?_, objH_x, objH_dx hne, ?_, ?_, fun i k hi => (nomatch hi), fun i j hi => absurd hi (Nat.not_lt_zero _), fun i j hi => absurd hi (Nat.not_lt_zero _), fun i hi => absurd hi (Nat.not_lt_zero _)⟩, fun _ e => (nomatch e)⟩
  · have b1 : b ≠ x := by rintro rfl; rw [h1] at e; cases e
    have b2 : b ≠ dx := by rintro rfl; rw [h2] at e; cases e
    have b3 : b ≠ ls := by rintro rfl; rw [l3] at e; cases e
    have b4 : b ≠ ns := by rintro rfl; rw [GH.put_ne nl] at n3; rw [n3] at e; cases e
    rw [objH_ne b1 b2, GH.put_ne b4, GH.put_ne b3]; exact e
  · rw [objH_ne l1 l2, GH.put_ne nl.symm]; exact GH.put_self
  · rw [objH_ne n1 n2]; exact GH.put_self
theorem w_build (C : Ctx w K a) (ok : g.Ok) (h0 : 0 < g.rules.length) (hB : ∀ n, (bfs g n).1.length + 64 < 2 ^ 20) (q : ∀ n d, End g n → AutoD a g n d → Q d G) : FN prog w K 8 G a.build [g.d a] Q := by
  refine C.d_build.fn C.ok (by rfl) (by rfl) ?_
  show SX _ _ _ _ _ _ [some (g.d a)] _ _ _
  refine SX_ret (EX_methU (EX_call (C.cg (by rfl) (by rfl) (by rfl)) (.of C.k_Builder) (EX_name (by rfl) (by rfl) (OP.le (OP_new C.n_Builder fun x dx hne h1 h2 => w_buInit C ok hne h1 h2 fun ls ns G' T => ⟨rfl, ?_⟩) (by decide : 6 ≤ 7)))))
  exact ⟨_, _, _, .live T.hb T.hdb, C.c_Builder, C.m_Builder_built, by rfl, FN.le (w_built C ok h0 hB T q) (by decide)⟩
end
section
variable {prog : Program} {w : World} {K : Frag} {a : Ad} {n : Nat} {sc : Scope} {tab : Tab} {ρ : Loc} {G : GH} {g : Gr}
theorem CompX_ind {tgt elt : Expr} {Q : List D → GH → Prop} {items : List D} (J : Nat → List D → Loc → GH → Prop)
    (turn : ∀ i d acc ρ G, items[i]? = some d → J i acc ρ G → AX prog w K n sc tab ρ G tgt d (fun ρ₁ G₁ => EX prog w K n sc tab ρ₁ G₁ elt (fun e G₂ => acc.length < 2 ^ 20 ∧ J (i + 1) (acc ++ [e]) ρ₁ G₂)))
    (fin : ∀ acc ρ G, J items.length acc ρ G → Q acc G) (h0 : J 0 [] ρ G) : CompX prog w K n sc tab tgt [] elt Q items [] ρ G := by
  have go : ∀ (k i : Nat) (acc : List D) (ρ : Loc) (G : GH), k + i = items.length → J i acc ρ G → CompX prog w K n sc tab tgt [] elt Q (items.drop i) acc ρ G := by
    intro k
    induction k with
    | zero =>
      intro i acc ρ G e h
      have : i = items.length := by (first | with_reducible assumption | exact Nat.lt_of_lt_of_le (by assumption) (by decide) | exact Nat.lt_of_le_of_lt (by assumption) (by decide) | lia | omega)
      subst this
      rw [List.drop_length]
      exact fin _ _ _ h
    | succ k ih =>
      intro i acc ρ G e h
      have hi : i < items.length := by (first | with_reducible assumption | exact Nat.lt_of_lt_of_le (by assumption) (by decide) | exact Nat.lt_of_le_of_lt (by assumption) (by decide) | lia | omega)
      rw [List.drop_eq_getElem_cons hi]
      refine fun A env F s v ok hsc I R r => wpAny_mono (turn i _ acc ρ G (List.getElem?_eq_getElem hi) h A env F s v ok hsc I R r) (fun _ _ ⟨F', G', ρ', O, R', q⟩ => ⟨F', G', ρ', O, R', q.mono fun e G₂ ⟨l, j⟩ => ⟨l, ih (i + 1) _ _ _ (by (first | with_reducible assumption | exact Nat.lt_of_lt_of_le (by assumption) (by decide) | exact Nat.lt_of_le_of_lt (by assumption) (by decide) | lia | omega)) j⟩⟩) fun _ _ x => x
  have := go items.length 0 [] ρ G (by (first | with_reducible assumption | exact Nat.lt_of_lt_of_le (by assumption) (by decide) | exact Nat.lt_of_le_of_lt (by assumption) (by decide) | lia | omega)) h0
  rwa [List.drop_zero] at this
theorem CompX_indF {tgt elt t : Expr} {Q : List D → GH → Prop} {items : List D} (J : Nat → List D → Loc → GH → Prop)
    (turn : ∀ i d acc ρ G, items[i]? = some d → J i acc ρ G → AX prog w K n sc tab ρ G tgt d (fun ρ₁ G₁ => TX prog w K n sc tab ρ₁ G₁ t (fun c G₂ => (c = true → EX prog w K n sc tab ρ₁ G₂ elt (fun e G₃ => acc.length < 2 ^ 20 ∧ J (i + 1) (acc ++ [e]) ρ₁ G₃)) ∧ (c = false → J (i + 1) acc ρ₁ G₂))))
    (fin : ∀ acc ρ G, J items.length acc ρ G → Q acc G) (h0 : J 0 [] ρ G) : CompX prog w K n sc tab tgt [t] elt Q items [] ρ G := by
  have go : ∀ (k i : Nat) (acc : List D) (ρ : Loc) (G : GH), k + i = items.length → J i acc ρ G → CompX prog w K n sc tab tgt [t] elt Q (items.drop i) acc ρ G := by
    intro k
    induction k with
    | zero =>
      intro i acc ρ G e h
      have : i = items.length := by (first | with_reducible assumption | exact Nat.lt_of_lt_of_le (by assumption) (by decide) | exact Nat.lt_of_le_of_lt (by assumption) (by decide) | lia | omega)
      subst this
      rw [List.drop_length]
      exact fin _ _ _ h
    | succ k ih =>
      intro i acc ρ G e h
      have hi : i < items.length := by (first | with_reducible assumption | exact Nat.lt_of_lt_of_le (by assumption) (by decide) | exact Nat.lt_of_le_of_lt (by assumption) (by decide) | lia | omega)
      rw [List.drop_eq_getElem_cons hi]
      refine fun A env F s v ok hsc I R r => wpAny_mono (turn i _ acc ρ G (List.getElem?_eq_getElem hi) h A env F s v ok hsc I R r) (fun _ _ ⟨F', G', ρ', O, R', q⟩ => ⟨F', G', ρ', O, R', q.mono fun c G₂ ⟨h1, h2⟩ => ⟨fun e => (h1 e).mono fun e G₃ ⟨l, j⟩ => ⟨l, ih (i + 1) _ _ _ (by (first | with_reducible assumption | exact Nat.lt_of_lt_of_le (by assumption) (by decide) | exact Nat.lt_of_le_of_lt (by assumption) (by decide) | lia | omega)) j⟩, fun e => ih (i + 1) _ _ _ (by (first | with_reducible assumption | exact Nat.lt_of_lt_of_le (by assumption) (by decide) | exact Nat.lt_of_le_of_lt (by assumption) (by decide) | lia | omega)) (h2 e)⟩⟩) fun _ _ x => x
  have := go items.length 0 [] ρ G (by (first | with_reducible assumption | exact Nat.lt_of_lt_of_le (by assumption) (by decide) | exact Nat.lt_of_le_of_lt (by assumption) (by decide) | lia | omega)) h0
  rwa [List.drop_zero] at this
theorem comp1 {x : Str} {p : Pos} {elt : Expr} {Q : List D → GH → Prop} {items : List D} {d0 : Option D} {rest : Loc} (f : D → D) (hx : tab.lookup x = some 0) (hinj : tab.inj) (hz : items.length < 2 ^ 20)
    (h : ∀ d ∈ items, ∀ (R : D → GH → Prop), R (f d) G → EX prog w K n sc tab (some d :: rest) G elt R) (q : Q (items.map f) G) : CompX prog w K n sc tab (.Name x p) [] elt Q items [] (d0 :: rest) G := by
  refine CompX_ind (fun i acc ρ G' => acc = (items.take i).map f ∧ G' = G ∧ ∃ d, ρ = d :: rest) (fun i d acc ρ G' hi hJ => ?_) (fun acc ρ G' hJ => ?_) ⟨rfl, rfl, _, rfl⟩
  · obtain ⟨rfl, rfl, d', rfl⟩ := hJ
    have hl := (List.getElem?_eq_some_iff.mp hi).1
    refine AX_name hx hinj (h d (List.mem_of_getElem? hi) _ ⟨?_, ?_, rfl, _, rfl⟩)
    · rw [List.length_map, List.length_take]; (first | with_reducible assumption | exact Nat.lt_of_lt_of_le (by assumption) (by decide) | exact Nat.lt_of_le_of_lt (by assumption) (by decide) | lia | omega)
    · rw [List.take_succ, hi, List.map_append]; rfl
  · obtain ⟨rfl, rfl, _⟩ := hJ
    rw [List.take_length]; exact q
theorem comp1F {x : Str} {p : Pos} {elt t : Expr} {Q : List D → GH → Prop} {items : List D} {d0 : Option D} {rest : Loc} (c : D → Bool) (f : D → D) (hx : tab.lookup x = some 0) (hinj : tab.inj) (hz : items.length < 2 ^ 20)
    (ht : ∀ d ∈ items, ∀ (R : Bool → GH → Prop), R (c d) G → TX prog w K n sc tab (some d :: rest) G t R)
    (h : ∀ d ∈ items, c d = true → ∀ (R : D → GH → Prop), R (f d) G → EX prog w K n sc tab (some d :: rest) G elt R) (q : Q ((items.filter c).map f) G) : CompX prog w K n sc tab (.Name x p) [t] elt Q items [] (d0 :: rest) G := by
  refine CompX_indF (fun i acc ρ G' => acc = ((items.take i).filter c).map f ∧ G' = G ∧ ∃ d, ρ = d :: rest) (fun i d acc ρ G' hi hJ => ?_) (fun acc ρ G' hJ => ?_) ⟨rfl, rfl, _, rfl⟩
  · obtain ⟨rfl, rfl, d', rfl⟩ := hJ
    have hl := (List.getElem?_eq_some_iff.mp hi).1
    have hm := List.mem_of_getElem? hi
    refine AX_name hx hinj (ht d hm _ ⟨fun hc => h d hm hc _ ⟨?_, ?_, rfl, _, rfl⟩, fun hc => ⟨?_, rfl, _, rfl⟩⟩)
    · rw [List.length_map]
      have := List.length_filter_le c (items.take i)
      rw [List.length_take] at this; (first | with_reducible assumption | exact Nat.lt_of_lt_of_le (by assumption) (by decide) | exact Nat.lt_of_le_of_lt (by assumption) (by decide) | lia | omega)
    · rw [List.take_succ, hi, Option.toList_some, List.filter_append, List.map_append, List.filter_cons_of_pos hc]; rfl
    · rw [List.take_succ, hi, Option.toList_some, List.filter_append, List.filter_cons_of_neg (by rw [hc]; decide)]; simp
  · obtain ⟨rfl, rfl, _⟩ := hJ
    rw [List.take_length]; exact q
theorem comp2 {x y : Str} {p1 p2 p3 : Pos} {k : Nat} {elt : Expr} {Q : List D → GH → Prop} {α : Type} {l : List α} {h1 h2 : α → D} {d0 d1 : Option D} {rest : Loc} (f : α → D) (hx : tab.lookup x = some 0) (hy : tab.lookup y = some 1) (hinj : tab.inj) (hz : l.length < 2 ^ 20)
    (h : ∀ z ∈ l, ∀ (R : D → GH → Prop), R (f z) G → EX prog w K n sc tab (some (h1 z) :: some (h2 z) :: rest) G elt R) (q : Q (l.map f) G) : CompX prog w K n sc tab (.Tuple [.Name x p1, .Name y p2] k p3) [] elt Q (l.map fun z => .tup [h1 z, h2 z]) [] (d0 :: d1 :: rest) G := by
  refine CompX_ind (fun i acc ρ G' => acc = (l.take i).map f ∧ G' = G ∧ ∃ d d', ρ = d :: d' :: rest) (fun i d acc ρ G' hi hJ => ?_) (fun acc ρ G' hJ => ?_) ⟨rfl, rfl, _, _, rfl⟩
  · obtain ⟨rfl, rfl, d', d'', rfl⟩ := hJ
    rw [List.getElem?_map] at hi
    cases z : l[i]? with
    | none => rw [z] at hi; cases hi
    | some v =>
      rw [z] at hi
      cases hi
      have hl := (List.getElem?_eq_some_iff.mp z).1
      refine AX_tuple rfl rfl (AX_name hx hinj (AX_name hy hinj (h v (List.mem_of_getElem? z) _ ⟨?_, ?_, rfl, _, _, rfl⟩)))
      · rw [List.length_map, List.length_take]; (first | with_reducible assumption | exact Nat.lt_of_lt_of_le (by assumption) (by decide) | exact Nat.lt_of_le_of_lt (by assumption) (by decide) | lia | omega)
      · rw [List.take_succ, z, List.map_append]; rfl
  · obtain ⟨rfl, rfl, _⟩ := hJ
    rw [List.length_map, List.take_length]; exact q
theorem comp2F {x y : Str} {p1 p2 p3 : Pos} {k : Nat} {elt t : Expr} {Q : List D → GH → Prop} {α : Type} {l : List α} {h1 h2 : α → D} {d0 d1 : Option D} {rest : Loc} (c : α → Bool) (f : α → D) (hx : tab.lookup x = some 0) (hy : tab.lookup y = some 1) (hinj : tab.inj) (hz : l.length < 2 ^ 20)
    (ht : ∀ z ∈ l, ∀ (R : Bool → GH → Prop), R (c z) G → TX prog w K n sc tab (some (h1 z) :: some (h2 z) :: rest) G t R)
    (h : ∀ z ∈ l, c z = true → ∀ (R : D → GH → Prop), R (f z) G → EX prog w K n sc tab (some (h1 z) :: some (h2 z) :: rest) G elt R) (q : Q ((l.filter c).map f) G) : CompX prog w K n sc tab (.Tuple [.Name x p1, .Name y p2] k p3) [t] elt Q (l.map fun z => .tup [h1 z, h2 z]) [] (d0 :: d1 :: rest) G := by
  refine CompX_indF (fun i acc ρ G' => acc = ((l.take i).filter c).map f ∧ G' = G ∧ ∃ d d', ρ = d :: d' :: rest) (fun i d acc ρ G' hi hJ => ?_) (fun acc ρ G' hJ => ?_) ⟨rfl, rfl, _, _, rfl⟩
  · obtain ⟨rfl, rfl, d', d'', rfl⟩ := hJ
    rw [List.getElem?_map] at hi
    cases z : l[i]? with
    | none => rw [z] at hi; cases hi
    | some v =>
      rw [z] at hi
      cases hi
      have hl := (List.getElem?_eq_some_iff.mp z).1
      have hm := List.mem_of_getElem? z
      refine AX_tuple rfl rfl (AX_name hx hinj (AX_name hy hinj (ht v hm _ ⟨fun hc => h v hm hc _ ⟨?_, ?_, rfl, _, _, rfl⟩, fun hc => ⟨?_, rfl, _, _, rfl⟩⟩)))
      · rw [List.length_map]
        have := List.length_filter_le c (l.take i)
        rw [List.length_take] at this; (first | with_reducible assumption | exact Nat.lt_of_lt_of_le (by assumption) (by decide) | exact Nat.lt_of_le_of_lt (by assumption) (by decide) | lia | omega)
      · rw [List.take_succ, z, Option.toList_some, List.filter_append, List.map_append, List.filter_cons_of_pos hc]; rfl
      · rw [List.take_succ, z, Option.toList_some, List.filter_append, List.filter_cons_of_neg (by rw [hc]; decide)]; simp
  · obtain ⟨rfl, rfl, _⟩ := hJ
    rw [List.length_map, List.take_length]; exact q
end

noncomputable def goX (g : Gr) (n s x : Nat) : Int := goD ((bfs g n).2.getD s []) x
theorem exp_tgt (b : Nat → List (Nat × Nat)) : ∀ (xs : List Nat) (st : Ks × Mv), (∀ p ∈ st.2, p.2 < st.1.length) → ∀ p ∈ (xs.foldl (expS b) st).2, p.2 < (xs.foldl (expS b) st).1.length
  | [], st, h => h
  | x :: xs, st, h => exp_tgt b xs _ fun p m => by
    obtain ⟨t, e⟩ := addK_pre st.1 (b x)
    rcases List.mem_append.mp (show p ∈ st.2 ++ [(x, (addK st.1 (b x)).idxOf (b x))] from m) with m | m
    · have := h p m
      show p.2 < (addK st.1 (b x)).length
      rw [e, List.length_append]; (first | with_reducible assumption | exact Nat.lt_of_lt_of_le (by assumption) (by decide) | exact Nat.lt_of_le_of_lt (by assumption) (by decide) | lia | omega)
    · rw [List.mem_singleton.mp m]
      exact List.idxOf_lt_length_of_mem addK_mem
theorem bfs_tgt (g : Gr) : ∀ n, ∀ r ∈ (bfs g n).2, ∀ p ∈ r, p.2 < (bfs g n).1.length
  | 0, r, m => nomatch m
  | n + 1, r, m => by
    rcases List.mem_append.mp (show r ∈ (bfs g n).2 ++ [(nexts g (bfs g n).1 ((bfs g n).1.getD n [])).2] from m) with m | m
    · intro p mp
      have := bfs_tgt g n r m p mp
      have := bfs_le g n
      (first | with_reducible assumption | exact Nat.lt_of_lt_of_le (by assumption) (by decide) | exact Nat.lt_of_le_of_lt (by assumption) (by decide) | lia | omega)
    · rw [List.mem_singleton.mp m]
      exact exp_tgt _ _ ((bfs g n).1, []) fun p m => nomatch m
set_option tactic.hygienic true in
theorem goX_lt {g : Gr} {n s x : Nat} (h : End g n) (hs : s < n) : goX g n s x = -1 ∨ ∃ m, m < n ∧ goX g n s x = (m : Nat) := by
  unfold goX goD
  have hr : (bfs g n).2.getD s [] ∈ (bfs g n).2 := by
    rw [List.getD_eq_getElem?_getD, List.getElem?_eq_getElem (by rw [bfs_rows]; exact hs)]; exact List.getElem_mem _
  split
  · rename_i p hp
    have := bfs_tgt g n _ hr p (List.mem_of_find?_eq_some hp)
    rw [← h.1] at this
    exact .inr ⟨p.2, this, rfl⟩
  · exact .inl rfl
noncomputable def ledS (g : Gr) (n : Nat) (l : List Int) (x : Nat) : List Int := if 0 ≤ l.getLastD 0 then l ++ [goX g n (l.getLastD 0).toNat x] else l
noncomputable def ledF (g : Gr) (n s : Nat) (xs : List Nat) : List Int := xs.foldl (ledS g n) [(s : Int)]
noncomputable def On (n : Nat) (l : List Int) (m : Nat) : Prop := m < n ∧ l.getLastD 0 = (m : Nat) ∧ ∀ x ∈ l, 0 ≤ x
noncomputable def Off (l : List Int) (r : List Int) : Prop := l = r ++ [-1] ∧ ∀ x ∈ r, 0 ≤ x
theorem lastD_app (l : List Int) (x d : Int) : (l ++ [x]).getLastD d = x := by
  rw [List.getLastD_eq_getLast?, List.getLast?_append]; rfl
theorem led_on {g : Gr} {n m x : Nat} {l : List Int} (h : End g n) (o : On n l m) : ledS g n l x = l ++ [goX g n m x] ∧ ((goX g n m x = -1 ∧ Off (l ++ [goX g n m x]) l) ∨ ∃ k, goX g n m x = (k : Nat) ∧ On n (l ++ [goX g n m x]) k) := by
  constructor
  · unfold ledS
    rw [o.2.1, if_pos (Int.natCast_nonneg _), Int.toNat_natCast]
  · rcases goX_lt (x := x) h o.1 with e | ⟨k, hk, e⟩
    · exact .inl ⟨e, by rw [e], o.2.2⟩
    · refine .inr ⟨k, e, hk, by rw [e]; exact lastD_app _ _ _, fun y my => ?_⟩
      rcases List.mem_append.mp my with my | my
      · exact o.2.2 y my
      · rw [List.mem_singleton.mp my, e]; exact Int.natCast_nonneg _
theorem led_off {g : Gr} {n x : Nat} {l r : List Int} (o : Off l r) : ledS g n l x = l := by
  unfold ledS
  rw [o.1, lastD_app, if_neg (by decide)]
theorem led_offs {g : Gr} {n : Nat} {l r : List Int} (o : Off l r) : ∀ xs : List Nat, xs.foldl (ledS g n) l = l
  | [] => rfl
  | x :: xs => by rw [List.foldl_cons, led_off o, led_offs o xs]
theorem filter_on {l : List Int} (h : ∀ x ∈ l, 0 ≤ x) : l.filter (fun x => decide (0 ≤ x)) = l := List.filter_eq_self.mpr fun x m => decide_eq_true (h x m)
theorem filter_off {l r : List Int} (o : Off l r) : l.filter (fun x => decide (0 ≤ x)) = r := by
  rw [o.1, List.filter_append, filter_on o.2]; simp
theorem led_take {g : Gr} {n s i x : Nat} {xs : List Nat} (h : xs[i]? = some x) : ledF g n s (xs.take (i + 1)) = ledS g n (ledF g n s (xs.take i)) x := foldl_take _ _ _ _ _ h
theorem led_split {g : Gr} {n s i : Nat} (xs : List Nat) : ledF g n s xs = (xs.drop i).foldl (ledS g n) (ledF g n s (xs.take i)) := by
  unfold ledF; rw [← List.foldl_append, List.take_append_drop]

section
variable {prog : Program} {w : World} {K : Frag} {a : Ad} {n : Nat} {sc : Scope} {tab : Tab} {ρ : Loc} {G : GH} {Q : D → GH → Prop} {g : Gr} {N : Nat} {au : D} {xs : List Nat}
theorem w_auGoto (C : Ctx w K a) (hN : N < 2 ^ 20) (hA : AutoD a g N au) {s x : Nat} (hs : s < N) (q : Q (.int (goX g N s x)) G) : FN prog w K 2 G a.auGoto [au, .int (s : Nat), .int (x : Nat)] Q := by
  obtain ⟨ds, rfl, hl, hd⟩ := hA
  obtain ⟨sy, sh, he⟩ := hd s hs
  refine C.d_auGoto.fn C.ok (by rfl) (by rfl) ?_
  generalize hau : D.obj a.Automaton [("grammar", g.d a), ("states", .list ds)] = au
  show SX _ _ _ _ _ _ [some au, some (.int (s : Nat)), some (.int (x : Nat))] _ _ _
  subst hau
  refine SX_ret (EX_methU (EX_index (EX_attr (EX_name (by rfl) (by rfl) ⟨_, _, _, .frozen, C.c_Automaton, C.a_Automaton _ (by decide), by rfl, EX_name (by rfl) (by rfl) ⟨ds, _, recD a g s ((bfs g N).1.getD s []) (RR g N s) sy sh, .list, rfl, by (first | with_reducible assumption | exact Nat.lt_of_lt_of_le (by assumption) (by decide) | exact Nat.lt_of_le_of_lt (by assumption) (by decide) | lia | omega), ?_, ⟨_, _, _, .frozen, C.c_LrState, C.m_LrState_goto, by rfl, EX_name (by rfl) (by rfl) (FN.le (w_lrGoto C ?_) (by decide))⟩⟩⟩))))
  · unfold itemAt
    rw [if_pos (Int.natCast_nonneg s), Int.toNat_natCast]; exact he
  · have : (RR g N s).moves = (bfs g N).2.getD s [] := by unfold RR; rw [if_pos hs]
    rw [this]; exact q
theorem SX_retQ {e : Expr} {pos : Pos} {Q : Fl → Loc → GH → Prop} (h : EX prog w K n sc tab ρ G e (fun d G' => Q (.ret d) ρ G')) : SX prog w K n sc tab ρ G [.Return (some e) pos] Q :=
  SX_cons (S1_return (h.mono fun d G₁ q => ⟨fun e => (nomatch e), fun d' e' => by cases e'; exact q⟩))
theorem au_walk (C : Ctx w K a) (hN : N < 2 ^ 20) (hE : End g N) (hA : AutoD a g N au) {s : Nat} (hs : s < N) {sy : D} (hsy : sy = .list (intL xs) ∨ sy = .tup (intL xs)) (q : Q (.int ((ledF g N s xs).getLastD 0)) G) : FN prog w K 3 G a.auWalk [au, .int (s : Nat), sy] Q := by
  refine C.d_auWalk.fn C.ok (by rfl) (by rfl) ?_
  obtain ⟨ds, hau, _⟩ := id hA
  show SX _ _ _ _ _ _ [some au, some (.int (s : Nat)), some sy, none, none] _ _ _
  refine SX_next (S1_name (by rfl) (tab_inj (by rfl)) (EX_name (by rfl) (by rfl) ⟨rfl, ?_⟩))
  let J : Nat → Loc → GH → Prop := fun i => Ex1P (fun d4 => [some au, some (.int (s : Nat)), some sy, some (.int ((ledF g N s (xs.take i)).getLastD 0)), d4]) (G) (((∃ m, On N (ledF g N s (xs.take i)) m) ∨ ∃ r, Off (ledF g N s (xs.take i)) r))
  have src : ∀ {tgt : Expr} {Q' : List D → GH → Prop} (h1 : isPlainTgt tgt = true) (h2 : isName tgt = true) (hq : Q' (intL xs) G) {p : Pos}, SRC prog w K 2 (scopeF (inC (stT 15) 2)) tab_Automaton_walk [some au, some (.int (s : Nat)), some sy, some (.int (s : Nat)), none] G (.Name "symbols" p) tgt Q' := fun h1 h2 hq p => by
    rcases hsy with rfl | rfl
    · exact SRC_list (EX_name (by rfl) (by rfl) ⟨_, rfl, hq⟩) h1
    · exact SRC_tup (EX_name (by rfl) (by rfl) ⟨_, rfl, hq⟩) h2
  refine SX_cons (S1_for (src rfl rfl ?_))
  refine ForX_ind J (fun i d ρ G' hi hJ => ?_) (fun ρ G' hJ => ⟨fun _ => ?_, fun _ e => (nomatch e)⟩) ⟨none, ?_, rfl, .inl ⟨s, hs, rfl, fun x m => ?_⟩⟩
  · obtain ⟨x, hx, rfl⟩ := intL_item hi
    obtain ⟨d4, rfl, rfl, hO⟩ := hJ
    have hst := led_take (g := g) (n := N) (s := s) hx
    have hsp := led_split (g := g) (n := N) (s := s) (i := i) xs
    generalize ledF g N s (xs.take i) = l at hO hst hsp
    refine AX_name (by rfl) (tab_inj (by rfl)) ?_
    show SX _ _ _ _ _ _ [some au, some (.int (s : Nat)), some sy, some (.int (l.getLastD 0)), some (.int (x : Nat))] _ _ _
    refine SX_cons (S1_if (TX_cmp (EX_name (by rfl) (by rfl) (EX_NONE C (by rfl) (OP_eqi ⟨_, rfl, fun hc => ?_, fun hc => ?_⟩)))))
    · have hc : l.getLastD 0 = -1 := by simpa using hc
      refine SX_retQ (EX_NONE C (by rfl) ⟨fun e => (nomatch e), fun d e => ?_⟩)
      cases e
      refine ⟨fun e => (nomatch e), fun r e => ?_⟩
      cases e
      refine ⟨fun e => (nomatch e), fun r e => ?_⟩
      cases e
      refine ⟨fun e => (nomatch e), fun r e => ?_⟩
      cases e
      rcases hO with ⟨m, o⟩ | ⟨r, o⟩
      · rw [o.2.1] at hc; exact absurd hc (by (first | with_reducible assumption | exact Nat.lt_of_lt_of_le (by assumption) (by decide) | exact Nat.lt_of_le_of_lt (by assumption) (by decide) | lia | omega))
      · rw [hsp, led_offs o, hc] at q
        exact q
    · have hc : l.getLastD 0 ≠ -1 := by simpa using hc
      rcases hO with ⟨m, o⟩ | ⟨r, o⟩
      · refine SX_nil ⟨fun _ => ?_, fun _ e => (nomatch e)⟩
        have hm : l.getLastD 0 = (m : Nat) := o.2.1
        rw [hm]
        refine SX_next (S1_name (by rfl) (tab_inj (by rfl)) (EX_methU (EX_name (by rfl) (by rfl) ⟨a.Automaton, _, _, by rw [hau]; exact .frozen, C.c_Automaton, C.m_Automaton_goto, by rfl, EX_name (by rfl) (by rfl) (EX_name (by rfl) (by rfl) (w_auGoto C hN hA o.1 ⟨rfl, SX_nil ⟨fun _ => ⟨some (.int (x : Nat)), ?_, rfl, ?_⟩, fun _ e => (nomatch e)⟩⟩))⟩)))
        · obtain ⟨h1, h2⟩ := led_on (x := x) hE o
          rw [hst, h1, lastD_app]; rfl
        · obtain ⟨h1, h2⟩ := led_on (x := x) hE o
          rw [hst, h1]
          rcases h2 with ⟨_, h2⟩ | ⟨k, _, h2⟩
          · exact .inr ⟨_, h2⟩
          · exact .inl ⟨_, h2⟩
      · rw [o.1, lastD_app] at hc; exact absurd rfl hc
  · obtain ⟨d4, rfl, rfl, hO⟩ := hJ
    rw [intL_len, List.take_length]
    exact SX_ret (EX_name (by rfl) (by rfl) q)
  · rfl
  · rw [List.mem_singleton.mp m]; exact Int.natCast_nonneg _
theorem w_auPath (C : Ctx w K a) (hN : N < 2 ^ 20) (hE : End g N) (hA : AutoD a g N au) {s : Nat} (hs : s < N) (hz : xs.length < 1000) (q : Q (.list (((ledF g N s xs).filter (fun x => decide (0 ≤ x))).map .int)) G) : FN prog w K 3 G a.auPath [au, .int (s : Nat), .list (intL xs)] Q := by
  refine FN.retL (C.d_auPath.fn C.ok (by rfl) (by rfl) ?_)
  obtain ⟨ds, hau, _⟩ := id hA
  show SX _ _ _ _ _ _ [some au, some (.int (s : Nat)), some (.list (intL xs)), none, none, none] _ _ _
  refine SX_next (S1_name (by rfl) (tab_inj (by rfl)) (EX_listG (EX_name (by rfl) (by rfl) ⟨by show 1 < 2 ^ 20; decide, fun b hb => ⟨rfl, ?_⟩⟩)))
  let J : Nat → Loc → GH → Prop := fun i => Ex2P (fun d4 d5 => [some au, some (.int (s : Nat)), some (.list (intL xs)), some (.ref b), d4, d5]) (G.put b (.list ((ledF g N s (xs.take i)).map .int))) ((ledF g N s (xs.take i)).length = i + 1 ∧ ∃ m, On N (ledF g N s (xs.take i)) m)
  refine SX_cons (S1_for (SRC_list (EX_name (by rfl) (by rfl) ⟨_, rfl, ?_⟩)))
  refine ForX_ind J (fun i d ρ G' hi hJ => ?_) (fun ρ G' hJ => ⟨fun _ => ?_, fun _ e => (nomatch e)⟩) ⟨none, none, rfl, rfl, rfl, ⟨s, hs, rfl, fun x m => ?_⟩⟩
  · obtain ⟨x, hx, rfl⟩ := intL_item hi
    obtain ⟨d4, d5, rfl, rfl, hl, m, o⟩ := hJ
    have hst := led_take (g := g) (n := N) (s := s) hx
    have hsp := led_split (g := g) (n := N) (s := s) (i := i + 1) xs
    have hil := (List.getElem?_eq_some_iff.mp hx).1
    generalize ledF g N s (xs.take i) = l at *
    obtain ⟨h1, h2⟩ := led_on (x := x) hE o
    have hlast : itemAt (l.map D.int) (-1) = some (.int (m : Nat)) := by
      unfold itemAt
      rw [if_neg (by decide), List.length_map, if_pos (by (first | with_reducible assumption | exact Nat.lt_of_lt_of_le (by assumption) (by decide) | exact Nat.lt_of_le_of_lt (by assumption) (by decide) | lia | omega)), List.getElem?_map]
      have e1 : (-1 + (l.length : Int)).toNat = l.length - 1 := by (first | with_reducible assumption | exact Nat.lt_of_lt_of_le (by assumption) (by decide) | exact Nat.lt_of_le_of_lt (by assumption) (by decide) | lia | omega)
      have e2 : l[l.length - 1]? = some ((m : Nat) : Int) := by
        rw [← List.getLast?_eq_getElem?]
        have := o.2.1
        rw [List.getLastD_eq_getLast?] at this
        cases z : l.getLast? with
        | none => rw [List.getLast?_eq_none_iff] at z; rw [z] at hl; cases hl
        | some v => rw [z] at this; exact congrArg some this
      rw [e1, e2]; rfl
    refine AX_name (by rfl) (tab_inj (by rfl)) ?_
    show SX _ _ _ _ _ _ [some au, some (.int (s : Nat)), some (.list (intL xs)), some (.ref b), some (.int (x : Nat)), d5] _ _ _
    refine SX_next (S1_name (by rfl) (tab_inj (by rfl)) (EX_methU (EX_name (by rfl) (by rfl) ⟨a.Automaton, _, _, by rw [hau]; exact .frozen, C.c_Automaton, C.m_Automaton_goto, by rfl, EX_index (EX_name (by rfl) (by rfl) (EX_neg ⟨_, _, _, .live GH.put_self, rfl, by decide, hlast, EX_name (by rfl) (by rfl) (w_auGoto C hN hA o.1 ⟨rfl, ?_⟩)⟩))⟩)))
    refine SX_cons (S1_if (TX_cmp (EX_name (by rfl) (by rfl) (EX_NONE C (by rfl) (OP_eqi ⟨_, rfl, fun hc => ?_, fun hc => ?_⟩)))))
    · have hc : goX g N m x = -1 := by simpa using hc
      refine SX_retQ (EX_name (by rfl) (by rfl) ⟨fun e => (nomatch e), fun d e => ?_⟩)
      cases e
      refine ⟨fun e => (nomatch e), fun r e => ?_⟩
      cases e
      refine ⟨fun e => (nomatch e), fun r e => ?_⟩
      cases e
      refine ⟨fun e => (nomatch e), fun r e => ?_⟩
      cases e
      refine ⟨b, _, rfl, hb, rfl, ?_⟩
      rcases h2 with ⟨_, h2⟩ | ⟨k, e, _⟩
      · rw [hsp, hst, h1, led_offs h2, filter_off h2] at q
        exact q
      · rw [hc] at e; exact absurd e (by (first | with_reducible assumption | exact Nat.lt_of_lt_of_le (by assumption) (by decide) | exact Nat.lt_of_le_of_lt (by assumption) (by decide) | lia | omega))
    · have hc : goX g N m x ≠ -1 := by simpa using hc
      refine SX_nil ⟨fun _ => ?_, fun _ e => (nomatch e)⟩
      rcases h2 with ⟨e, _⟩ | ⟨k, e, h2⟩
      · exact absurd e hc
      · refine SX_next (S1_expr (EX_methB PySem.F.slot_list_append PySem.F.plainAttrs_list PySem.F.type_list_append (EX_name (by rfl) (by rfl) ⟨.lst (.live GH.put_self), EX_name (by rfl) (by rfl) (OP_append GH.put_self ?_ ⟨rfl, rfl, SX_nil ⟨fun _ => ⟨_, _, rfl, ?_, ?_, ?_⟩, fun _ e => (nomatch e)⟩⟩)⟩)))
        · rw [List.length_map]; (first | with_reducible assumption | exact Nat.lt_of_lt_of_le (by assumption) (by decide) | exact Nat.lt_of_le_of_lt (by assumption) (by decide) | lia | omega)
        · rw [put_put, hst, h1, List.map_append]; rfl
        · rw [hst, h1, List.length_append, hl]; rfl
        · rw [hst, h1]; exact ⟨k, h2⟩
  · obtain ⟨d4, d5, rfl, rfl, hl, m, o⟩ := hJ
    rw [intL_len, List.take_length] at o ⊢
    rw [filter_on o.2.2] at q
    exact SX_ret (EX_name (by rfl) (by rfl) ⟨b, _, rfl, hb, rfl, q⟩)
  · rw [List.mem_singleton.mp m]; exact Int.natCast_nonneg _
theorem w_auFinal (C : Ctx w K a) (ok : g.Ok) (h0 : 0 < g.rules.length) (hN : N < 2 ^ 20) (hE : End g N) (hpos : 0 < N) (hA : AutoD a g N au) (q : Q (.int ((ledF g N 0 (g.right 0)).getLastD 0)) G) : FN prog w K 4 G a.auFinal [au] Q := by
  refine C.d_auFinal.fn C.ok (by rfl) (by rfl) ?_
  obtain ⟨ds, hau, _⟩ := id hA
  have hri : itemAt (g.rules.mapIdx (ruleD a)) 0 = some (ruleD a 0 (g.rules.getD 0 (0, [], 0))) := rule_item (g := g) (r := 0) (d := 0) ⟨h0, Nat.zero_le _⟩
  show SX _ _ _ _ _ _ [some au] _ _ _
  refine SX_ret (EX_methU (EX_name (by rfl) (by rfl) ⟨a.Automaton, _, _, by rw [hau]; exact .frozen, C.c_Automaton, C.m_Automaton_walk, by rfl, EX_int (EX_attr (EX_index (EX_attr (EX_attr (EX_name (by rfl) (by rfl) ⟨a.Automaton, _, _, by rw [hau]; exact .frozen, C.c_Automaton, C.a_Automaton _ (by decide), by rfl, ⟨_, _, _, .frozen, C.c_Grammar, C.a_Grammar _ (by decide), by rfl, EX_int ⟨_, _, _, .list, rfl, by decide, hri, ⟨_, _, _, .frozen, C.c_Rule, C.a_Rule _ (by decide), by rfl, FN.le (au_walk C hN hE hA hpos (.inr rfl) q) (by decide)⟩⟩⟩⟩)))))⟩))
theorem sum_nat (l : List Nat) : (zL l).sum = (l.sum : Nat) := by
  induction l with
  | nil => rfl
  | cons x l ih =>
    show ((x : Int) + (zL l).sum) = _
    rw [ih, List.sum_cons]; (first | with_reducible assumption | exact Nat.lt_of_lt_of_le (by assumption) (by decide) | exact Nat.lt_of_le_of_lt (by assumption) (by decide) | lia | omega)
theorem w_auCount (C : Ctx w K a) (hN : N < 2 ^ 20) (hR : ∀ r ∈ (bfs g N).2, r.length < 2 ^ 20) (hA : AutoD a g N au) (q : Q (.int ((((bfs g N).2.map List.length).sum : Nat) : Int)) G) : FN prog w K 4 G a.auCount [au] Q := by
  refine C.d_auCount.fn C.ok (by rfl) (by rfl) ?_
  obtain ⟨ds, rfl, hl, hd⟩ := hA
  generalize hau : D.obj a.Automaton [("grammar", g.d a), ("states", .list ds)] = au
  show SX _ _ _ _ _ _ [some au] _ _ _
  subst hau
  have key : ds.map (fun d => match d with | .obj _ [_, _, _, _, (_, .dict m), _, _] => D.int (m.length : Nat) | _ => .none) = (zL ((bfs g N).2.map List.length)).map .int := by
    refine List.ext_getElem? fun i => ?_
    unfold zL
    rw [List.getElem?_map, List.getElem?_map, List.getElem?_map, List.getElem?_map]
    by_cases h : i < N
    · obtain ⟨sy, sh, e⟩ := hd i h
      have hr : (bfs g N).2[i]? = some ((bfs g N).2.getD i []) := by rw [List.getD_eq_getElem?_getD, List.getElem?_eq_getElem (by rw [bfs_rows]; exact h)]; rfl
      rw [e, hr]
      have : (RR g N i).moves = (bfs g N).2.getD i [] := by unfold RR; rw [if_pos h]
      show some (D.int ((movD (RR g N i).moves).length : Nat)) = _
      rw [movD_len, this]; rfl
    · rw [List.getElem?_eq_none (by omega), List.getElem?_eq_none (by rw [bfs_rows]; omega)]; rfl
  refine SX_ret (EX_call (C.cb (by rfl) (by rfl) (by rfl)) (.builtin _) (EX_comp (tab' := tab_Automaton_transition_count_c0) (comp_ok (by rfl)) (by rfl) (cap_of (by rfl) (by rfl)) (SRC_list (EX_attr (EX_name (by rfl) (by rfl) ⟨_, _, _, .frozen, C.c_Automaton, C.a_Automaton _ (by decide), by rfl, ds, rfl, ?_⟩)))))
  refine comp1 (d0 := none) (rest := []) (f := fun d => match d with | .obj _ [_, _, _, _, (_, .dict m), _, _] => D.int (m.length : Nat) | _ => .none) (by rfl) (tab_inj (by rfl)) (by omega) (fun d m R r => ?_) (OP_sum (ns := zL ((bfs g N).2.map List.length)) (by rw [key]; exact .frozen) (by rw [sum_nat]; exact q))
  obtain ⟨i, hi, e⟩ := List.getElem_of_mem m
  obtain ⟨sy, sh, e'⟩ := hd i (by omega)
  rw [List.getElem?_eq_getElem hi, e] at e'
  have e' := Option.some.inj e'
  subst e'
  have hmv : (RR g N i).moves = (bfs g N).2.getD i [] := by unfold RR; rw [if_pos (by omega)]
  refine EX_call (C.cb (by rfl) (by rfl) (by rfl)) (.builtin _) (EX_attr (EX_name (by rfl) (by rfl) ⟨_, _, _, .frozen, C.c_LrState, C.a_LrState _ (by decide), by rfl, OP_lenD C.ok.sys .frozen ?_ r⟩))
  rw [movD_len, hmv]
  have := hR ((bfs g N).2.getD i []) (by rw [List.getD_eq_getElem?_getD, List.getElem?_eq_getElem (by rw [bfs_rows]; omega)]; exact List.getElem_mem _)
  omega
end
section
variable {prog : Program} {w : World} {K : Frag} {a : Ad} {n : Nat} {sc : Scope} {tab : Tab} {ρ : Loc} {G G' : GH} {Q : D → GH → Prop} {g : Gr}
theorem OP_newM {C fI : Addr} {ds : List D} (hN : NewOk K C fI) (h : ∀ x dx, x ≠ dx → G x = none → G dx = none → FN prog w K n (objH G x dx C []) fI (.ref x :: ds) (fun d G' => d = .none ∧ ∃ fs fs', G' x = some (.inst C dx) ∧ G' dx = some (.attrs fs) ∧ (∀ b c, G b = some c → G' b = some c) ∧ MeltFs G' G fs fs' ∧ Q (.obj C fs') G)) :
    OP prog w K (n + 1) G ds (fun vs => call (.ref C) vs) Q := by
  refine OP.melt (OP_new hN fun x dx hne h1 h2 => (h x dx hne h1 h2).mono fun d G' ⟨e, fs, fs', v1, v2, o, m, q⟩ => ⟨e, G, .obj C fs', fun b c e => ⟨c, o b c e, .same _⟩, .objG v1 h1 v2 h2 m, q⟩)
theorem w_ruInit (C : Ctx w K a) {i : Nat} {r : Nat × List Nat × Int} {x dx : Addr} (hne : x ≠ dx) (q : ∀ fs, ruleD a i r = .obj a.Rule fs → Q .none (objH G x dx a.Rule fs)) :
    FN prog w K 1 (objH G x dx a.Rule []) a.ruInit [.ref x, .int (i : Nat), .int (r.1 : Nat), .tup (intL r.2.1), .int r.2.2] Q := by
  refine C.d_ruInit.fn C.ok (by rfl) (by rfl) ?_
  show SX _ _ _ _ _ _ [some (.ref x), some (.int (i : Nat)), some (.int (r.1 : Nat)), some (.tup (intL r.2.1)), some (.int r.2.2), some .none, some (.int 0), some (.int 0)] _ _ _
  iterate 7
    refine SX_next (S1_assign (EX_name (by rfl) (by rfl) (AX_attr (EX_name (by rfl) (by rfl) ⟨_, _, _, _, rfl, objH_x, objH_dx hne, C.c_Rule, C.a_Rule _ (by decide), few rfl, rfl, ?_⟩))) (fun _ _ => swapsWith_plain rfl) (fun _ _ => rfl) rfl)
    rw [objH_put hne]
  exact SX_nil ⟨fun _ => q _ rfl, fun _ e => (nomatch e)⟩
theorem w_Rule (C : Ctx w K a) {i : Nat} {r : Nat × List Nat × Int} (q : Q (ruleD a i r) G) : OP prog w K 2 G [.int (i : Nat), .int (r.1 : Nat), .tup (intL r.2.1), .int r.2.2] (fun vs => call (.ref a.Rule) vs) Q :=
  OP_newO C.n_Rule fun x dx hne h1 h2 => w_ruInit C hne fun fs e => ⟨rfl, fs, rfl, e ▸ q⟩

structure GI (a : Ad) (G G' : GH) (x dx bo bw : Addr) (m : Nat) (L : Nat → Addr) (fs : List (Str × D)) (f : Nat → List D) (offs owns : List D) : Prop where
  f4 : G x = none ∧ G dx = none ∧ G bo = none ∧ G bw = none
  fl : ∀ j, j < m → G (L j) = none
  old : ∀ b c, G b = some c → G' b = some c
  vx : G' x = some (.inst a.Grammar dx)
  vd : G' dx = some (.attrs fs)
  vo : G' bo = some (.list offs)
  vw : G' bw = some (.list owns)
  vl : ∀ j, j < m → G' (L j) = some (.list (f j))
  ne : bo ≠ bw
  no : ∀ j, j < m → L j ≠ bo ∧ L j ≠ bw
  inj : ∀ i j, i < m → j < m → L i = L j → i = j
theorem GI.put_old {b : Addr} {c : Cell} (h : G b = none) (old : ∀ b c, G b = some c → G' b = some c) : ∀ d e, G d = some e → (G'.put b c) d = some e := fun d e h' => GH.put_at (old d e h') (GH.new_ne h' h)
section
variable {x dx bo bw : Addr} {m : Nat} {L : Nat → Addr} {fs : List (Str × D)} {f : Nat → List D} {offs owns : List D}
theorem GI.setL (T : GI a G G' x dx bo bw m L fs f offs owns) {y : Nat} (hy : y < m) {l : List D} : GI a G (G'.put (L y) (.list l)) x dx bo bw m L fs (fun j => if j = y then l else f j) offs owns := by
  have v := T.vl y hy
  refine ⟨T.f4, T.fl, GI.put_old (T.fl y hy) T.old, GH.put_at T.vx (GH.apart T.vx v rfl), GH.put_at T.vd (GH.apart T.vd v rfl), GH.put_at T.vo (T.no y hy).1.symm, GH.put_at T.vw (T.no y hy).2.symm, fun j hj => ?_, T.ne, T.no, T.inj⟩
  by_cases e : j = y
  · subst e; rw [if_pos rfl]; exact GH.put_self
  · rw [if_neg e]; exact GH.put_at (T.vl j hj) fun z => e (T.inj j y hj hy z)
theorem GI.setO (T : GI a G G' x dx bo bw m L fs f offs owns) {l : List D} : GI a G (G'.put bo (.list l)) x dx bo bw m L fs f l owns :=
  ⟨T.f4, T.fl, GI.put_old T.f4.2.2.1 T.old, GH.put_at T.vx (GH.apart T.vx T.vo rfl), GH.put_at T.vd (GH.apart T.vd T.vo rfl), GH.put_self, GH.put_at T.vw T.ne.symm, fun j hj => GH.put_at (T.vl j hj) (T.no j hj).1, T.ne, T.no, T.inj⟩
theorem GI.setW (T : GI a G G' x dx bo bw m L fs f offs owns) {l : List D} : GI a G (G'.put bw (.list l)) x dx bo bw m L fs f offs l :=
  ⟨T.f4, T.fl, GI.put_old T.f4.2.2.2 T.old, GH.put_at T.vx (GH.apart T.vx T.vw rfl), GH.put_at T.vd (GH.apart T.vd T.vw rfl), GH.put_at T.vo T.ne, GH.put_self, fun j hj => GH.put_at (T.vl j hj) (T.no j hj).2, T.ne, T.no, T.inj⟩
structure GrF (H : GH) (i : Nat) (L : Nat → Addr) (G' : GH) : Prop where
  new : ∀ j, j < i → H (L j) = none ∧ G' (L j) = some (.list [])
  inj : ∀ j k, j < i → k < i → L j = L k → j = k
  old : ∀ b c, H b = some c → G' b = some c
theorem GrF.add {H : GH} {i : Nat} {c : Addr} (B : GrF H i L G') (h : G' c = none) : GrF H (i + 1) (ext L i c) (G'.put c (.list [])) := by
  have hL : ∀ j, j < i → L j ≠ c := fun j hj => GH.new_ne (B.new j hj).2 h
  refine ⟨fun j hj => ?_, fun j k hj hk e => ext_inj B.inj hL hj hk e, fun b e z => GH.put_at (B.old b e z) (GH.new_ne (B.old b e z) h)⟩
  by_cases e : j = i
  · rw [e, ext_at]
    exact ⟨GH.none_of fun d z => (by rw [B.old c d z] at h; cases h), GH.put_self⟩
  · have hj := Nat.lt_of_le_of_ne (Nat.le_of_lt_succ hj) e
    rw [ext_ne e]
    exact ⟨(B.new j hj).1, GH.put_at (B.new j hj).2 (hL j hj)⟩
inductive GrL (H : GH) (i : Nat) (acc : List D) (ρ : Loc) (G' : GH) : Prop
  | mk (L : Nat → Addr) (d : Option D) : acc = xsL L i → GrF H i L G' → ρ = [d] → GrL H i acc ρ G'
theorem GrF.away {b : Addr} {A : Cell} (hne : x ≠ dx) (B : GrF (objH G x dx a.Grammar fs) m L G') (h : (G'.put dx A) b = none) : b ≠ x ∧ b ≠ dx ∧ G b = none ∧ ∀ j, j < m → L j ≠ b := by
  have b2 : b ≠ dx := by rintro rfl; rw [GH.put_self] at h; cases h
  rw [GH.put_ne b2] at h
  have b1 : b ≠ x := (GH.new_ne (B.old x _ objH_x) h).symm
  exact ⟨b1, b2, GH.none_of fun c z => (by rw [B.old b c ((objH_ne b1 b2).trans z)] at h; cases h), fun j hj => GH.new_ne (B.new j hj).2 h⟩
theorem GI.start {A1 A2 : Cell} {fs9 : List (Str × D)} (hne : x ≠ dx) (h1 : G x = none) (h2 : G dx = none) (B : GrF (objH G x dx a.Grammar fs) m L G') (hbo : (G'.put dx A1) bo = none) (hbw : (((G'.put dx A1).put bo (.list [])).put dx A2) bw = none) :
    GI a G (((((G'.put dx A1).put bo (.list [])).put dx A2).put bw (.list [])).put dx (.attrs fs9)) x dx bo bw m L fs9 (fun _ => []) [] [] := by
  obtain ⟨o1, o2, o3, o4⟩ := B.away hne hbo
  have w2 : bw ≠ dx := by rintro rfl; rw [GH.put_self] at hbw; cases hbw
  have wo : bw ≠ bo := by rintro rfl; rw [GH.put_ne w2, GH.put_self] at hbw; cases hbw
  rw [GH.put_ne w2, GH.put_ne wo] at hbw
  obtain ⟨w1, _, w3, w4⟩ := B.away hne hbw
  have t : ∀ {b : Addr} {e : Cell}, b ≠ dx → b ≠ bo → b ≠ bw → G' b = some e → (((((G'.put dx A1).put bo (.list [])).put dx A2).put bw (.list [])).put dx (.attrs fs9)) b = some e := fun n1 n2 n3 e => GH.put_at (GH.put_at (GH.put_at (GH.put_at (GH.put_at e n1) n2) n1) n3) n1
  have hLx : ∀ j, j < m → L j ≠ x ∧ L j ≠ dx ∧ G (L j) = none := fun j hj => objH_fresh (B.new j hj).1
  refine ⟨⟨h1, h2, o3, w3⟩, fun j hj => (hLx j hj).2.2, fun b e h => ?_, t hne o1.symm w1.symm (B.old x _ objH_x), GH.put_self, GH.put_at (GH.put_at (GH.put_at GH.put_self o2) wo.symm) o2, GH.put_at GH.put_self w2, fun j hj => t (hLx j hj).2.1 (o4 j hj) (w4 j hj) (B.new j hj).2, wo.symm, fun j hj => ⟨o4 j hj, w4 j hj⟩, B.inj⟩
  have n0 := GH.new_ne h h1
  have n1 := GH.new_ne h h2
  exact t n1 (GH.new_ne h o3) (GH.new_ne h w3) (B.old b e ((objH_ne n0 n1).trans h))
end
theorem own_take : ∀ (rs : List (Nat × List Nat × Int)) (j i : Nat) (r : Nat × List Nat × Int), rs[i]? = some r → ownL (rs.take (i + 1)) j = ownL (rs.take i) j ++ List.replicate (r.2.1.length + 1) (j + i)
  | [], _, _, _, h => by cases h
  | q :: rs, j, 0, r, h => by
    cases h
    show List.replicate (q.2.1.length + 1) j ++ [] = [] ++ List.replicate (q.2.1.length + 1) j
    rw [List.append_nil, List.nil_append]
  | q :: rs, j, i + 1, r, h => by
    rw [List.take_succ_cons, List.take_succ_cons, ownL, ownL, own_take rs (j + 1) i r h, List.append_assoc, Nat.add_right_comm j 1 i]; rfl
theorem off_take : ∀ (rs : List (Nat × List Nat × Int)) (k j i : Nat), i < rs.length → (offL rs k)[i]? = some (k + (ownL (rs.take i) j).length)
  | [], _, _, _, h => absurd h (Nat.not_lt_zero _)
  | q :: rs, k, j, 0, h => rfl
  | q :: rs, k, j, i + 1, h => by
    rw [offL, List.getElem?_cons_succ, off_take rs _ (j + 1) i (by simpa using h), List.take_succ_cons, ownL, List.length_append, List.length_replicate]
    congr 1; (first | with_reducible assumption | exact Nat.lt_of_lt_of_le (by assumption) (by decide) | exact Nat.lt_of_le_of_lt (by assumption) (by decide) | lia | omega)
theorem own_take_len (rs : List (Nat × List Nat × Int)) (h1 : rs.length ≤ 8) (h2 : ∀ r ∈ rs, r.2.1.length ≤ 3) (i : Nat) : (ownL (rs.take i) 0).length ≤ 32 := by
  have := ownL_len (rs.take i) 0 3 fun r m => h2 r (List.mem_of_mem_take m)
  have := List.length_take_le' i rs
  (first | with_reducible assumption | exact Nat.lt_of_lt_of_le (by assumption) (by decide) | exact Nat.lt_of_le_of_lt (by assumption) (by decide) | lia | omega)
noncomputable def g6 (a : Ad) (g : Gr) : List (Str × D) := [("names", .list (g.names.map .str)), ("terminal_count", .int (g.tc : Nat)), ("rules", .list (g.rules.mapIdx (ruleD a))), ("levels", .dict []), ("expect", .none), ("start", .int (g.start : Nat))]
noncomputable def g9 (a : Ad) (g : Gr) (d : D) (bo bw : Addr) : List (Str × D) := [("names", .list (g.names.map .str)), ("terminal_count", .int (g.tc : Nat)), ("rules", .list (g.rules.mapIdx (ruleD a))), ("levels", .dict []), ("expect", .none), ("start", .int (g.start : Nat)), ("by_left", d), ("offsets", .ref bo), ("owners", .ref bw)]
theorem intL_app (l : List Nat) (x : Nat) : intL (l ++ [x]) = intL l ++ [.int (x : Nat)] := by unfold intL; rw [List.map_append]; rfl
noncomputable def grR (a : Ad) (g : Gr) (x : Addr) (y0 : Option D) : Loc := [some (.ref x), some (.list (g.names.map .str)), some (.int (g.tc : Nat)), some (.list (g.rules.mapIdx (ruleD a))), some (.dict []), some .none, some (.int (g.start : Nat)), y0]
noncomputable def preL (g : Gr) (i y : Nat) : List Nat := (List.range i).filter fun i => (g.rules.getD i (0, [], 0)).1 == y
inductive GrJ (a : Ad) (g : Gr) (G : GH) (x dx bo bw : Addr) (L : Nat → Addr) (i : Nat) (ρ : Loc) (G' : GH) : Prop
  | mk (d : Option D) : ρ = grR a g x d → GI a G G' x dx bo bw g.names.length L (g9 a g (.list (xsL L g.names.length)) bo bw) (fun y => intL (preL g i y)) (intL ((offL g.rules 0).take i)) (intL (ownL (g.rules.take i) 0)) → GrJ a g G x dx bo bw L i ρ G'
theorem gr_by {L : Nat → Addr} {n r : Nat} (h : r < n) : itemAt (xsL L n) (r : Nat) = some (.ref (L r)) := by
  unfold itemAt xsL
  rw [if_pos (Int.natCast_nonneg _), Int.toNat_natCast, List.getElem?_map, List.getElem?_range h]; rfl
theorem pre_len (g : Gr) (i y : Nat) : (preL g i y).length ≤ i := by
  have := List.length_filter_le (fun i => (g.rules.getD i (0, [], 0)).1 == y) (List.range i)
  rw [List.length_range] at this; exact this
theorem pre_succ {i : Nat} {r : Nat × List Nat × Int} (hrd : g.rules.getD i (0, [], 0) = r) : (fun j => if j = r.1 then intL (preL g i r.1) ++ [.int (i : Nat)] else intL (preL g i j)) = fun y => intL (preL g (i + 1) y) := by
  funext y
  have hs : preL g (i + 1) y = if (g.rules.getD i (0, [], 0)).1 == y then preL g i y ++ [i] else preL g i y := range_filter_succ _ _
  rw [hs, hrd]
  by_cases e : y = r.1
  · subst e; rw [if_pos rfl, if_pos (beq_self_eq_true _), intL_app]
  · rw [if_neg e, if_neg (by simpa using fun z => e z.symm)]
theorem gr_turn (C : Ctx w K a) (ok : g.Ok) {x dx bo bw : Addr} {L : Nat → Addr} {i : Nat} {G2 : GH} {P : Fl → Loc → GH → Prop} (hir : i < g.rules.length)
    (T2 : GI a G G2 x dx bo bw g.names.length L (g9 a g (.list (xsL L g.names.length)) bo bw) (fun y => intL (preL g i y)) (intL ((offL g.rules 0).take i)) (intL (ownL (g.rules.take i) 0))) :
    SX prog w K 1 (scopeF (inC (stT 22) 0)) tab_Grammar___init__ (grR a g x (some (ruleD a i (g.rules.getD i (0, [], 0))))) G2 (subB (bodyF (inC (stT 22) 0))[9]?) (lbQ (GrJ a g G x dx bo bw L) i P) := by
  have hnr := ok.nr
  have hr : g.rules[i]? = some (g.rules.getD i (0, [], 0)) := by rw [List.getD_eq_getElem?_getD, List.getElem?_eq_getElem hir]; rfl
  have hmem := List.mem_of_getElem? hr
  have hns := ok.ns
  have hlt := (ok.lt _ hmem).1
  have hrl := ok.rl _ hmem
  have hol := own_take_len g.rules hnr ok.rl i
  have hot := own_take g.rules 0 i _ hr
  have hof := off_take g.rules 0 0 i hir
  obtain ⟨r, hrd⟩ : ∃ z, g.rules.getD i (0, [], 0) = z := ⟨_, rfl⟩
  rw [hrd] at hr hlt hrl hot ⊢
  clear hmem
  refine SX_next (S1_expr (EX_methB PySem.F.slot_list_append PySem.F.plainAttrs_list PySem.F.type_list_append (EX_index (EX_attr (EX_name (by rfl) (by rfl) ⟨_, _, _, .live T2.vx T2.vd, C.c_Grammar, C.a_Grammar _ (by decide), by rfl, EX_attr (EX_name (by rfl) (by rfl) ⟨_, _, _, .frozen, C.c_Rule, C.a_Rule _ (by decide), by rfl, ⟨_, _, _, .list, rfl, by (first | with_reducible assumption | exact Nat.lt_of_lt_of_le (by assumption) (by decide) | exact Nat.lt_of_le_of_lt (by assumption) (by decide) | lia | omega), (gr_by hlt), .lst (.live (T2.vl r.1 hlt)), EX_attr (EX_name (by rfl) (by rfl) ⟨_, _, _, .frozen, C.c_Rule, C.a_Rule _ (by decide), by rfl, OP_append (T2.vl r.1 hlt) ?_ ⟨rfl, rfl, ?_⟩⟩)⟩⟩)⟩)))))
  · rw [intL_len]
    exact Nat.lt_of_le_of_lt (pre_len g i r.1) (by (first | with_reducible assumption | exact Nat.lt_of_lt_of_le (by assumption) (by decide) | exact Nat.lt_of_le_of_lt (by assumption) (by decide) | lia | omega))
  have T3 := T2.setL hlt (l := intL (preL g i r.1) ++ [.int (i : Nat)])
  obtain ⟨G3, hG3⟩ : ∃ z, G2.put (L r.1) (.list (intL (preL g i r.1) ++ [.int (i : Nat)])) = z := ⟨_, rfl⟩
  rw [hG3] at T3 ⊢
  refine SX_next (S1_expr (EX_methB PySem.F.slot_list_append PySem.F.plainAttrs_list PySem.F.type_list_append (EX_attr (EX_name (by rfl) (by rfl) ⟨_, _, _, .live T3.vx T3.vd, C.c_Grammar, C.a_Grammar _ (by decide), by rfl, .lst (.live T3.vo), EX_call (C.cb (by rfl) (by rfl) (by rfl)) (.builtin _) (EX_attr (EX_name (by rfl) (by rfl) ⟨_, _, _, .live T3.vx T3.vd, C.c_Grammar, C.a_Grammar _ (by decide), by rfl, OP_len (.live T3.vw) (by rw [intL_len]; (first | with_reducible assumption | exact Nat.lt_of_lt_of_le (by assumption) (by decide) | exact Nat.lt_of_le_of_lt (by assumption) (by decide) | lia | omega)) (OP_append T3.vo ?_ ⟨rfl, rfl, ?_⟩)⟩))⟩))))
  · rw [intL_len]
    have := List.length_take_le i (offL g.rules 0)
    (first | with_reducible assumption | exact Nat.lt_of_lt_of_le (by assumption) (by decide) | exact Nat.lt_of_le_of_lt (by assumption) (by decide) | lia | omega)
  have T4 := T3.setO (l := intL ((offL g.rules 0).take i) ++ [.int ((intL (ownL (g.rules.take i) 0)).length : Nat)])
  obtain ⟨G4, hG4⟩ : ∃ z, G3.put bo (.list (intL ((offL g.rules 0).take i) ++ [.int ((intL (ownL (g.rules.take i) 0)).length : Nat)])) = z := ⟨_, rfl⟩
  rw [hG4] at T4 ⊢
  refine SX_next (S1_expr (EX_methB PySem.F.slot_list_extend PySem.F.plainAttrs_list PySem.F.type_list_extend (EX_attr (EX_name (by rfl) (by rfl) ⟨_, _, _, .live T4.vx T4.vd, C.c_Grammar, C.a_Grammar _ (by decide), by rfl, .lst (.live T4.vw), EX_bin (EX_listF (EX_attr (EX_name (by rfl) (by rfl) ⟨_, _, _, .frozen, C.c_Rule, C.a_Rule _ (by decide), by rfl, (by show 1 < 2 ^ 20; decide), EX_bin (EX_call (C.cb (by rfl) (by rfl) (by rfl)) (.builtin _) (EX_attr (EX_name (by rfl) (by rfl) ⟨_, _, _, .frozen, C.c_Rule, C.a_Rule _ (by decide), by rfl, OP_len .tup (by rw [intL_len]; (first | with_reducible assumption | exact Nat.lt_of_lt_of_le (by assumption) (by decide) | exact Nat.lt_of_le_of_lt (by assumption) (by decide) | lia | omega)) (EX_int (OP_add ?_))⟩)))⟩)))⟩))))
  rw [intL_len]
  refine OP_mulF rfl (k := r.2.1.length + 1) (by (first | with_reducible assumption | exact Nat.lt_of_lt_of_le (by assumption) (by decide) | exact Nat.lt_of_le_of_lt (by assumption) (by decide) | lia | omega)) (OP_extend T4.vw .frozen ?_ ⟨rfl, rfl, ?_⟩)
  · rw [intL_len, List.length_replicate]; (first | with_reducible assumption | exact Nat.lt_of_lt_of_le (by assumption) (by decide) | exact Nat.lt_of_le_of_lt (by assumption) (by decide) | lia | omega)
  have T5 := T4.setW (l := intL (ownL (g.rules.take i) 0) ++ List.replicate (r.2.1.length + 1) (.int (i : Nat)))
  have e1 : intL ((offL g.rules 0).take i) ++ [.int ((intL (ownL (g.rules.take i) 0)).length : Nat)] = intL ((offL g.rules 0).take (i + 1)) := by
    rw [List.take_succ, hof, intL_len, Nat.zero_add, Option.toList_some, intL_app]
  have e2 : intL (ownL (g.rules.take i) 0) ++ List.replicate (r.2.1.length + 1) (.int (i : Nat)) = intL (ownL (g.rules.take (i + 1)) 0) := by
    rw [hot, Nat.zero_add]; unfold intL; rw [List.map_append, List.map_replicate]
  rw [e1, pre_succ hrd] at T5
  exact SX_nil ⟨fun _ => ⟨_, rfl, e2 ▸ T5⟩, fun _ e => (nomatch e)⟩
theorem gr_end (C : Ctx w K a) (ok : g.Ok) {x dx bo bw : Addr} {L : Nat → Addr} {G2 : GH} {d : Option D} {f : Nat → List D} {P : D → GH → Prop} (hne : x ≠ dx)
    (q : ∀ G' fs fs', G' x = some (.inst a.Grammar dx) → G' dx = some (.attrs fs) → (∀ b c, G b = some c → G' b = some c) → MeltFs G' G fs fs' → g.d a = .obj a.Grammar fs' → Q .none G')
    (hf : ∀ j, j < g.names.length → f j = intL (preL g g.rules.length j))
    (T2 : GI a G G2 x dx bo bw g.names.length L (g9 a g (.list (xsL L g.names.length)) bo bw) f (intL (offL g.rules 0)) (intL (ownL g.rules 0))) :
    SX prog w K 1 (scopeF (inC (stT 22) 0)) tab_Grammar___init__ (grR a g x d) G2 ((bodyF (inC (stT 22) 0)).drop 10) (endQ (Q .none) P) := by
  have hol : (ownL g.rules 0).length ≤ 32 := ok.own
  refine SX_next (S1_assign (EX_call (C.cb (by rfl) (by rfl) (by rfl)) (.builtin _) (EX_attr (EX_name (by rfl) (by rfl) ⟨_, _, _, .live T2.vx T2.vd, C.c_Grammar, C.a_Grammar _ (by decide), by rfl, OP_len (.live T2.vw) (by rw [intL_len]; (first | with_reducible assumption | exact Nat.lt_of_lt_of_le (by assumption) (by decide) | exact Nat.lt_of_le_of_lt (by assumption) (by decide) | lia | omega)) (AX_attr (EX_name (by rfl) (by rfl) ⟨_, _, _, _, rfl, T2.vx, T2.vd, C.c_Grammar, C.a_Grammar _ (by decide), few rfl, rfl, ?_⟩))⟩))) (fun _ _ => swapsWith_plain rfl) (fun _ _ => rfl) rfl)
  have k1 : ∀ {b : Addr} {e : Cell}, b ≠ dx → G2 b = some e → (G2.put dx (.attrs (setF (g9 a g (.list (xsL L g.names.length)) bo bw) "item_count" (.int ((intL (ownL g.rules 0)).length : Nat))))) b = some e := fun n e => GH.put_at e n
  have nd : ∀ {b : Addr} {l : List D}, G2 b = some (.list l) → b ≠ dx := fun e => GH.apart e T2.vd rfl
  refine SX_nil ⟨fun _ => q _ _ _ (k1 hne T2.vx) GH.put_self (fun b c e => k1 (GH.new_ne e T2.f4.2.1) (T2.old b c e)) ?_ rfl, fun _ e => (nomatch e)⟩
  refine .cons (.same _) (.cons (.same _) (.cons (.same _) (.cons (.same _) (.cons (.same _) (.cons (.same _) (.cons (.list (meltAll_map fun j hj => ?_)) (.cons (.listG (k1 (nd T2.vo) T2.vo) T2.f4.2.2.1 (MeltAll.same _)) (.cons (.listG (k1 (nd T2.vw) T2.vw) T2.f4.2.2.2 (MeltAll.same _)) (.cons ?_ .nil)))))))))
  · have hj := List.mem_range.mp hj
    have v := T2.vl j hj
    rw [hf j hj] at v
    exact .listG (k1 (nd v) v) (T2.fl j hj) (MeltAll.same _)
  · rw [intL_len]; exact .same _
theorem w_grInit (C : Ctx w K a) (ok : g.Ok) {x dx : Addr} (hne : x ≠ dx) (h1 : G x = none) (h2 : G dx = none)
    (q : ∀ G' fs fs', G' x = some (.inst a.Grammar dx) → G' dx = some (.attrs fs) → (∀ b c, G b = some c → G' b = some c) → MeltFs G' G fs fs' → g.d a = .obj a.Grammar fs' → Q .none G') :
    FN prog w K 2 (objH G x dx a.Grammar []) a.grInit [.ref x, .list (g.names.map .str), .int (g.tc : Nat), .list (g.rules.mapIdx (ruleD a)), .dict [], .none, .int (g.start : Nat)] Q := by
  refine C.d_grInit.fn C.ok (by rfl) (by rfl) ?_
  have hns := ok.ns
  have hnr := ok.nr
  show SX _ _ _ _ _ _ (grR a g x none) _ _ _
  iterate 6
    refine SX_next (S1_assign (EX_name (by rfl) (by rfl) (AX_attr (EX_name (by rfl) (by rfl) ⟨_, _, _, _, rfl, objH_x, objH_dx hne, C.c_Grammar, C.a_Grammar _ (by decide), few rfl, rfl, ?_⟩))) (fun _ _ => swapsWith_plain rfl) (fun _ _ => rfl) rfl)
    rw [objH_put hne]
  show SX _ _ _ _ _ _ _ (objH G x dx a.Grammar (g6 a g)) _ _
  refine SX_next (S1_assign (EX_comp (tab' := tab_Grammar___init___c0) (comp_ok (by rfl)) (by rfl) (cap_of (by rfl) (by rfl)) (SRC_list (EX_attr (EX_name (by rfl) (by rfl) ⟨_, _, _, .live objH_x (objH_dx hne), C.c_Grammar, C.a_Grammar _ (by decide), by rfl, _, rfl, ?_⟩)))) (fun _ _ => rfl) (fun _ _ => rfl) rfl)
  refine CompX_ind (GrL (objH G x dx a.Grammar (g6 a g))) (fun i d acc ρ G' hi hJ => ?_) (fun acc ρ G' hJ => ?_) ⟨fun _ => x, none, rfl, ⟨fun j hj => absurd hj (Nat.not_lt_zero _), fun j k hj => absurd hj (Nat.not_lt_zero _), fun b c e => e⟩, rfl⟩
  · obtain ⟨L, d', rfl, B, rfl⟩ := hJ
    have hil := (List.getElem?_eq_some_iff.mp hi).1
    rw [List.length_map] at hil
    exact AX_name (by rfl) (tab_inj (by rfl)) (EX_listG ⟨by decide, fun c hc => ⟨by rw [xsL_len]; (first | with_reducible assumption | exact Nat.lt_of_lt_of_le (by assumption) (by decide) | exact Nat.lt_of_le_of_lt (by assumption) (by decide) | lia | omega), _, _, xsL_ext, B.add hc, rfl⟩⟩)
  · obtain ⟨L, d', rfl, B, rfl⟩ := hJ
    rw [List.length_map] at B ⊢
    have v1 := B.old x _ objH_x
    have v2 := B.old dx _ (objH_dx hne)
    refine AX_attr (EX_name (by rfl) (by rfl) ⟨_, _, _, _, rfl, v1, v2, C.c_Grammar, C.a_Grammar _ (by decide), few rfl, rfl, ?_⟩)
    refine SX_next (S1_assign (EX_listG ⟨by decide, fun bo hbo => ?_⟩) (fun _ _ => swapsWith_plain rfl) (fun _ _ => rfl) rfl)
    obtain ⟨o1, o2, _, _⟩ := B.away hne hbo
    refine AX_attr (EX_name (by rfl) (by rfl) ⟨x, _, dx, _, rfl, GH.put_at (GH.put_at v1 hne) o1.symm, GH.put_at GH.put_self o2.symm, C.c_Grammar, C.a_Grammar _ (by decide), few rfl, rfl, ?_⟩)
    refine SX_next (S1_assign (EX_listG ⟨by decide, fun bw hbw => ?_⟩) (fun _ _ => swapsWith_plain rfl) (fun _ _ => rfl) rfl)
    have T := GI.start (fs9 := g9 a g (.list (xsL L g.names.length)) bo bw) hne h1 h2 B hbo hbw
    refine AX_attr (EX_name (by rfl) (by rfl) ⟨x, _, dx, _, rfl, GH.put_at (GH.put_at (GH.put_at (GH.put_at v1 hne) o1.symm) hne) (fun z => by rw [← z] at hbw; rw [GH.put_ne hne, GH.put_ne o1.symm, GH.put_ne hne, v1] at hbw; cases hbw), GH.put_at GH.put_self (fun z => by rw [← z, GH.put_self] at hbw; cases hbw), C.c_Grammar, C.a_Grammar _ (by decide), few rfl, rfl, ?_⟩)
    refine SX_seq (GrJ a g G x dx bo bw L g.rules.length) (S1_for (SRC_list (EX_attr (EX_name (by rfl) (by rfl) ⟨_, _, _, .live T.vx T.vd, C.c_Grammar, C.a_Grammar _ (by decide), by rfl, _, rfl, ?_⟩)))) ?_
    · refine ForX_ind (GrJ a g G x dx bo bw L) (fun i d ρ G2 hi hJ => ?_) (fun ρ G2 hJ => ⟨rfl, by rw [List.length_mapIdx] at hJ; exact hJ⟩) ⟨none, rfl, T⟩
      obtain ⟨hir, rfl⟩ := rule_of_item hi
      obtain ⟨d, rfl, T2⟩ := hJ
      exact AX_name (by rfl) (tab_inj (by rfl)) (gr_turn C ok hir T2)
    · rintro ρ₁ G2 ⟨d, rfl, T2⟩
      have t1 : (offL g.rules 0).take g.rules.length = offL g.rules 0 := by rw [← offL_len g.rules 0, List.take_length]
      rw [List.take_length, t1] at T2
      exact gr_end C ok hne q (fun _ _ => rfl) T2
theorem w_Grammar (C : Ctx w K a) (ok : g.Ok) (q : Q (g.d a) G) : OP prog w K 3 G [.list (g.names.map .str), .int (g.tc : Nat), .list (g.rules.mapIdx (ruleD a)), .dict [], .none, .int (g.start : Nat)] (fun vs => call (.ref a.Grammar) vs) Q :=
  OP_newM C.n_Grammar fun x dx hne h1 h2 => w_grInit C ok hne h1 h2 fun G' fs fs' v1 v2 o m e => ⟨rfl, fs, fs', v1, v2, o, m, e ▸ q⟩
end
theorem MeltL.nil {G G'' : GH} {ρ : Loc} : MeltL G G'' ρ [] := fun i d e => by simp at e
theorem MeltL.none {G G'' : GH} {ρ ρ'' : Loc} {o : Option D} (h : MeltL G G'' ρ ρ'') : MeltL G G'' (o :: ρ) (none :: ρ'') := fun i d e => by
  cases i with
  | zero => cases e
  | succ i => exact h i d e
theorem MeltL.some {G G'' : GH} {ρ ρ'' : Loc} {d d' : D} (m : Melt G G'' d d') (h : MeltL G G'' ρ ρ'') : MeltL G G'' (some d :: ρ) (some d' :: ρ'') := fun i e q => by
  cases i with
  | zero => cases q; exact ⟨d, rfl, m⟩
  | succ i => exact h i e q
noncomputable def strL (l : List Str) : List D := l.map .str
theorem mem_strL {l : List Str} {x : Str} : D.str x ∈ strL l ↔ x ∈ l := by
  unfold strL
  rw [List.mem_map]
  constructor
  · rintro ⟨y, m, e⟩
    cases e; exact m
  · intro m; exact ⟨x, m, rfl⟩
theorem like_strs (l : List Str) (x : Str) : ∀ y ∈ strL l, Like 0 y (.str x) := fun y m => by
  obtain ⟨i, _, rfl⟩ := List.mem_map.mp m
  trivial
theorem strL_app (l : List Str) (x : Str) : strL (l ++ [x]) = strL l ++ [.str x] := by unfold strL; rw [List.map_append]; rfl
theorem strL_len (l : List Str) : (strL l).length = l.length := List.length_map ..
theorem strL_item {l : List Str} {i : Nat} {d : D} (h : (strL l)[i]? = some d) : ∃ x, l[i]? = some x ∧ d = .str x := by
  unfold strL at h
  rw [List.getElem?_map] at h
  cases z : l[i]? with
  | none => rw [z] at h; cases h
  | some p => rw [z] at h; cases h; exact ⟨p, rfl, rfl⟩
noncomputable def posOf (l : List Str) (x : Str) : Nat := l.findIdx (fun y => decide (y = x))
theorem posOf_lt {l : List Str} {x : Str} (h : x ∈ l) : posOf l x < l.length := List.findIdx_lt_length_of_exists ⟨x, h, decide_eq_true rfl⟩
theorem posOf_at {l : List Str} {x : Str} (h : x ∈ l) : l[posOf l x]? = some x := by
  have hl := posOf_lt h
  rw [List.getElem?_eq_getElem hl]
  have := List.findIdx_getElem (p := fun y => decide (y = x)) (w := hl)
  exact congrArg some (of_decide_eq_true this)
theorem posOf_first {l : List Str} {x : Str} {m : Nat} (h : m < posOf l x) : l[m]? ≠ some x := fun e => by
  obtain ⟨hm, e⟩ := List.getElem?_eq_some_iff.mp e
  have := List.not_of_lt_findIdx h
  rw [e] at this
  rw [decide_eq_true rfl] at this
  cases this
section
variable {prog : Program} {w : World} {K : Frag} {a : Ad} {n : Nat} {sc : Scope} {tab : Tab} {ρ : Loc} {G G' : GH} {Q : D → GH → Prop} {g : Gr}
theorem OP_pos {d : D} {l : List Str} {x : Str} (hd : LstD G d (strL l)) (h : x ∈ l) (hz : l.length < 2 ^ 40) (q : Q (.int (posOf l x : Nat)) G) : OP prog w K n G [d, .str x] (fun vs => call (.builtin "list.index") vs) Q :=
  OP_indexL (k := 0) (j := posOf l x) hd (like_strs l x) (by decide) (by rw [strL_len]; exact hz) (by unfold strL; rw [List.getElem?_map, posOf_at h]; rfl) (fun m hm e => by
    obtain ⟨y, e1, e2⟩ := strL_item e
    cases e2
    exact posOf_first hm e1) q
noncomputable def numF (l : List Str) (x : Str) : Int := if x ∈ l then ((posOf l x : Nat) : Int) else -1
theorem w_grNumber (C : Ctx w K a) (ok : g.Ok) {x : Str} (q : Q (.int (numF g.names x)) G) : FN prog w K 1 G a.grNumber [g.d a, .str x] Q := by
  refine C.d_grNumber.fn C.ok (by rfl) (by rfl) ?_
  have hns := ok.ns
  show SX _ _ _ _ _ _ [some (g.d a), some (.str x)] _ _ _
  refine SX_ret (EX_ite (TX_cmp (EX_name (by rfl) (by rfl) (EX_attr (EX_name (by rfl) (by rfl) ⟨_, _, _, .frozen, C.c_Grammar, C.a_Grammar _ (by decide), by rfl, OP_in (k := 0) (ds := strL g.names) .list (like_strs _ _) (by decide) fun t ht => ⟨_, rfl, fun hc => ?_, fun hc => ?_⟩⟩)))))
  · have hm := mem_strL.mp (ht.mp hc)
    refine EX_methB PySem.F.slot_list_index PySem.F.plainAttrs_list PySem.F.type_list_index (EX_attr (EX_name (by rfl) (by rfl) ⟨_, _, _, .frozen, C.c_Grammar, C.a_Grammar _ (by decide), by rfl, .lst .frozen, EX_name (by rfl) (by rfl) (OP_pos .frozen hm (by (first | with_reducible assumption | exact Nat.lt_of_lt_of_le (by assumption) (by decide) | exact Nat.lt_of_le_of_lt (by assumption) (by decide) | lia | omega)) ?_)⟩))
    unfold numF at q; rw [if_pos hm] at q; exact q
  · have hm : x ∉ g.names := fun m => by rw [ht.mpr (mem_strL.mpr m)] at hc; cases hc
    unfold numF at q; rw [if_neg hm] at q
    exact EX_neg q
noncomputable def lastS (tc : Nat) (f : Int) (x : Nat) : Int := if x < tc then ((x : Nat) : Int) else f
noncomputable def lastF (tc : Nat) (l : List Nat) : Int := l.foldl (lastS tc) (-1)
theorem w_last (C : Ctx w K a) {l : List Nat} {tc : Nat} (q : Q (.int (lastF tc l)) G) : FN prog w K 1 G a.last [.tup (intL l), .int (tc : Nat)] Q := by
  refine C.d_last.fn C.ok (by rfl) (by rfl) ?_
  show SX _ _ _ _ _ _ [some (.tup (intL l)), some (.int (tc : Nat)), none, none] _ _ _
  refine SX_next (S1_name (by rfl) (tab_inj (by rfl)) (EX_neg ⟨rfl, ?_⟩))
  let J : Nat → Loc → GH → Prop := fun i => Ex1 (fun d => [some (.tup (intL l)), some (.int (tc : Nat)), some (.int (lastF tc (l.take i))), d]) (G)
  refine SX_seq (J l.length) (S1_for (SRC_tup (EX_name (by rfl) (by rfl) ⟨_, rfl, ?_⟩))) ?_
  · refine ForX_ind J (fun i d ρ G2 hi hJ => ?_) (fun ρ G2 hJ => ⟨rfl, by rw [intL_len] at hJ; exact hJ⟩) ⟨none, rfl, rfl⟩
    obtain ⟨x, hx, rfl⟩ := intL_item hi
    obtain ⟨d, rfl, rfl⟩ := hJ
    have hst : lastF tc (l.take (i + 1)) = lastS tc (lastF tc (l.take i)) x := foldl_take _ _ _ _ _ hx
    refine AX_name (by rfl) (tab_inj (by rfl)) ?_
    show SX _ _ _ _ _ _ [some (.tup (intL l)), some (.int (tc : Nat)), some (.int (lastF tc (l.take i))), some (.int (x : Nat))] _ _ _
    refine SX_next (S1_if (TX_cmp (EX_name (by rfl) (by rfl) (EX_name (by rfl) (by rfl) (OP_lt ⟨_, rfl, fun hc => ?_, fun hc => ?_⟩)))))
    · have hc := Int.ofNat_lt.mp (of_decide_eq_true hc)
      refine SX_next (S1_name (by rfl) (tab_inj (by rfl)) (EX_name (by rfl) (by rfl) ⟨rfl, SX_nil ⟨rfl, SX_nil ⟨fun _ => ⟨some (.int (x : Nat)), ?_, rfl⟩, fun _ e => (nomatch e)⟩⟩⟩))
      rw [hst]; unfold lastS; rw [if_pos hc]; rfl
    · have hc : ¬ x < tc := fun z => (of_decide_eq_false hc) (Int.ofNat_lt.mpr z)
      refine SX_nil ⟨rfl, SX_nil ⟨fun _ => ⟨some (.int (x : Nat)), ?_, rfl⟩, fun _ e => (nomatch e)⟩⟩
      rw [hst]; unfold lastS; rw [if_neg hc]
  · rintro ρ₁ G₁ ⟨d, rfl, rfl⟩
    rw [List.take_length]
    exact SX_ret (EX_name (by rfl) (by rfl) q)
theorem EX_END (C : Ctx w K a) {pos : Pos} (hx : sc.names.lookup ("END" : Str) = some .globalImplicit) (q : Q (.int 0) G) : EX prog w K n sc tab ρ G (.Name "END" pos) Q := by
  obtain ⟨t, h⟩ := C.gEND
  exact EX_glob hx h (fun F _ => .int _ t) q
noncomputable def ownN : List Str := ["$end", "error", "$undefined"]
theorem EX_OWN (C : Ctx w K a) {pos : Pos} (hx : sc.names.lookup ("OWN_TERMINALS" : Str) = some .globalImplicit) (q : Q (.tup (strL ownN)) G) : EX prog w K n sc tab ρ G (.Name "OWN_TERMINALS" pos) Q := by
  obtain ⟨t1, t2, t3, m, h⟩ := C.own
  exact EX_glob hx C.gOWN (fun F hF => .tup (hF _ _ h) ⟨rfl, _, rfl⟩ (.cons (.str _ _) (.cons (.str _ _) (.cons (.str _ _) .nil)))) q
end
noncomputable abbrev Pr := List (Str × List Str)
noncomputable def leftS (acc : List Str) (p : Str × List Str) : List Str := if p.1 ∈ acc then acc else acc ++ [p.1]
noncomputable def leftsF (ps : Pr) : List Str := ps.foldl leftS []
noncomputable def termS (lefts acc : List Str) (x : Str) : List Str := if x ∉ lefts ∧ x ∉ acc then acc ++ [x] else acc
noncomputable def termP (lefts acc : List Str) (p : Str × List Str) : List Str := p.2.foldl (termS lefts) acc
noncomputable def termsF (lefts : List Str) (ps : Pr) : List Str := ps.foldl (termP lefts) ownN
noncomputable def namesF (ps : Pr) : List Str := termsF (leftsF ps) ps ++ (["$accept"] : List Str) ++ leftsF ps
noncomputable def tcF (ps : Pr) : Nat := (termsF (leftsF ps) ps).length
noncomputable def startF (ps : Pr) : Nat := posOf (namesF ps) ((leftsF ps).headD "")
noncomputable def ruleF (ps : Pr) (p : Str × List Str) : Nat × List Nat × Int := (posOf (namesF ps) p.1, p.2.map (posOf (namesF ps)), lastF (tcF ps) (p.2.map (posOf (namesF ps))))
noncomputable def plainG (ps : Pr) : Gr := { names := namesF ps, tc := tcF ps, rules := (tcF ps, [startF ps, 0], 0) :: ps.map (ruleF ps), start := startF ps }
noncomputable def pairD' (p : Str × List Str) : D := .tup [.str p.1, .list (strL p.2)]
noncomputable def pairsL (ps : Pr) : List D := ps.map pairD'
noncomputable def upN : List Str := ["S", "T", "U"]
noncomputable def allN : List Str := ["a", "b", "error", "S", "T", "U"]
structure PairsOk (ps : Pr) : Prop where
  ne : ps ≠ []
  left : ∀ p ∈ ps, p.1 ∈ upN
  part : ∀ p ∈ ps, ∀ x ∈ p.2, x ∈ allN
  len : ps.length ≤ 7
  few : ∀ p ∈ ps, p.2.length ≤ 3
set_option tactic.hygienic true in
theorem foldl_left_mem : ∀ (ps : Pr) (acc : List Str) (x : Str), x ∈ ps.foldl leftS acc ↔ x ∈ acc ∨ ∃ p ∈ ps, p.1 = x
  | [], acc, x => by simp
  | p :: ps, acc, x => by
    rw [List.foldl_cons, foldl_left_mem ps]
    have : x ∈ leftS acc p ↔ x ∈ acc ∨ p.1 = x := by
      unfold leftS
      split
      · rename_i h
        exact ⟨.inl, fun z => z.elim id fun e => e ▸ h⟩
      · rw [List.mem_append, List.mem_singleton, eq_comm]
    rw [this]
    simp only [List.mem_cons, exists_eq_or_imp, or_assoc]
theorem left_mem {ps : Pr} {x : Str} : x ∈ leftsF ps ↔ ∃ p ∈ ps, p.1 = x := by unfold leftsF; rw [foldl_left_mem]; simp
theorem foldl_left_len : ∀ (ps : Pr) (acc : List Str), (ps.foldl leftS acc).length ≤ acc.length + ps.length
  | [], acc => Nat.le_refl _
  | p :: ps, acc => by
    have h1 := foldl_left_len ps (leftS acc p)
    have h2 : (leftS acc p).length ≤ acc.length + 1 := by
      unfold leftS; split
      · (first | with_reducible assumption | exact Nat.lt_of_lt_of_le (by assumption) (by decide) | exact Nat.lt_of_le_of_lt (by assumption) (by decide) | lia | omega)
      · rw [List.length_append]; exact Nat.le_refl _
    rw [List.foldl_cons, List.length_cons]; (first | with_reducible assumption | exact Nat.lt_of_lt_of_le (by assumption) (by decide) | exact Nat.lt_of_le_of_lt (by assumption) (by decide) | lia | omega)
theorem foldl_term_mem (L : List Str) : ∀ (l acc : List Str) (x : Str), (x ∈ acc → x ∈ l.foldl (termS L) acc) ∧ (x ∈ l → x ∉ L → x ∈ l.foldl (termS L) acc) ∧ (x ∈ l.foldl (termS L) acc → x ∈ acc ∨ x ∈ l)
  | [], acc, x => ⟨id, (fun h => by cases h), .inl⟩
  | y :: l, acc, x => by
    obtain ⟨h1, h2, h3⟩ := foldl_term_mem L l (termS L acc y) x
    have up : x ∈ acc → x ∈ termS L acc y := fun m => by
      unfold termS; split
      · exact List.mem_append_left _ m
      · exact m
    refine ⟨fun m => h1 (up m), fun m n => ?_, fun m => ?_⟩
    · rcases List.mem_cons.mp m with rfl | m
      · refine h1 ?_
        unfold termS
        by_cases z : x ∈ acc
        · rw [if_neg fun q => q.2 z]; exact z
        · rw [if_pos ⟨n, z⟩]; simp
      · exact h2 m n
    · rcases h3 m with m | m
      · unfold termS at m
        split at m
        · rcases List.mem_append.mp m with m | m
          · exact .inl m
          · rw [List.mem_singleton.mp m]; exact .inr (.head _)
        · exact .inl m
      · exact .inr (.tail _ m)
theorem foldl_term_len (L : List Str) : ∀ (l acc : List Str), acc.length ≤ (l.foldl (termS L) acc).length ∧ (l.foldl (termS L) acc).length ≤ acc.length + l.length
  | [], acc => ⟨Nat.le_refl _, Nat.le_refl _⟩
  | y :: l, acc => by
    have h := foldl_term_len L l (termS L acc y)
    have h2 : acc.length ≤ (termS L acc y).length ∧ (termS L acc y).length ≤ acc.length + 1 := by
      unfold termS; split
      · rw [List.length_append]; exact ⟨Nat.le_add_right .., Nat.le_refl _⟩
      · exact ⟨Nat.le_refl _, Nat.le_succ _⟩
    rw [List.foldl_cons, List.length_cons]; (first | with_reducible assumption | exact Nat.lt_of_lt_of_le (by assumption) (by decide) | exact Nat.lt_of_le_of_lt (by assumption) (by decide) | lia | omega)
theorem foldl_termP_mem (L : List Str) : ∀ (ps : Pr) (acc : List Str) (x : Str), (x ∈ acc → x ∈ ps.foldl (termP L) acc) ∧ (∀ p ∈ ps, x ∈ p.2 → x ∉ L → x ∈ ps.foldl (termP L) acc) ∧ (x ∈ ps.foldl (termP L) acc → x ∈ acc ∨ ∃ p ∈ ps, x ∈ p.2)
  | [], acc, x => ⟨id, (fun p h => by cases h), .inl⟩
  | q :: ps, acc, x => by
    obtain ⟨h1, h2, h3⟩ := foldl_termP_mem L ps (termP L acc q) x
    obtain ⟨k1, k2, k3⟩ := foldl_term_mem L q.2 acc x
    refine ⟨fun m => h1 (k1 m), fun p m mx n => ?_, fun m => ?_⟩
    · rcases List.mem_cons.mp m with rfl | m
      · exact h1 (k2 mx n)
      · exact h2 p m mx n
    · rcases h3 m with m | ⟨p, m, mx⟩
      · rcases k3 m with m | m
        · exact .inl m
        · exact .inr ⟨q, .head _, m⟩
      · exact .inr ⟨p, .tail _ m, mx⟩
theorem foldl_termP_len (L : List Str) : ∀ (ps : Pr) (acc : List Str), (∀ p ∈ ps, p.2.length ≤ 3) → (ps.foldl (termP L) acc).length ≤ acc.length + 3 * ps.length
  | [], acc, _ => Nat.le_refl _
  | q :: ps, acc, h => by
    have h1 := foldl_termP_len L ps (termP L acc q) fun p m => h p (.tail _ m)
    have h2 : (termP L acc q).length ≤ acc.length + q.2.length := (foldl_term_len L q.2 acc).2
    have := h q (.head _)
    rw [List.foldl_cons, List.length_cons]; (first | with_reducible assumption | exact Nat.lt_of_lt_of_le (by assumption) (by decide) | exact Nat.lt_of_le_of_lt (by assumption) (by decide) | lia | omega)
section
variable {ps : Pr}
theorem PairsOk.lefts (h : PairsOk ps) : (leftsF ps).length ≤ 7 := by
  have := foldl_left_len ps []
  have := h.len
  unfold leftsF
  simp only [List.length_nil] at *
  (first | with_reducible assumption | exact Nat.lt_of_lt_of_le (by assumption) (by decide) | exact Nat.lt_of_le_of_lt (by assumption) (by decide) | lia | omega)
theorem PairsOk.terms (h : PairsOk ps) : tcF ps ≤ 24 := by
  have h1 := foldl_termP_len (leftsF ps) ps ownN h.few
  have := h.len
  unfold tcF termsF
  have h2 : ownN.length = 3 := rfl
  (first | with_reducible assumption | exact Nat.lt_of_lt_of_le (by assumption) (by decide) | exact Nat.lt_of_le_of_lt (by assumption) (by decide) | lia | omega)
theorem namesF_len (h : PairsOk ps) : (namesF ps).length ≤ 32 := by
  have h1 := h.lefts
  have h2 : (termsF (leftsF ps) ps).length ≤ 24 := h.terms
  unfold namesF
  rw [List.length_append, List.length_append, List.length_singleton]; (first | with_reducible assumption | exact Nat.lt_of_lt_of_le (by assumption) (by decide) | exact Nat.lt_of_le_of_lt (by assumption) (by decide) | lia | omega)
theorem left_in (h : PairsOk ps) {p : Str × List Str} (m : p ∈ ps) : p.1 ∈ namesF ps := by unfold namesF; exact List.mem_append_right _ (left_mem.mpr ⟨p, m, rfl⟩)
theorem part_in (h : PairsOk ps) {p : Str × List Str} (m : p ∈ ps) {x : Str} (mx : x ∈ p.2) : x ∈ namesF ps := by
  unfold namesF
  by_cases z : x ∈ leftsF ps
  · exact List.mem_append_right _ z
  · exact List.mem_append_left _ (List.mem_append_left _ ((foldl_termP_mem (leftsF ps) ps ownN x).2.1 p m mx z))
theorem start_in (h : PairsOk ps) : ∃ s t, leftsF ps = s :: t ∧ s ∈ namesF ps := by
  cases z : leftsF ps with
  | nil =>
    cases y : ps with
    | nil => exact absurd y h.ne
    | cons p r =>
      have : p.1 ∈ leftsF ps := left_mem.mpr ⟨p, by rw [y]; exact .head _, rfl⟩
      rw [z] at this; cases this
  | cons s t => exact ⟨s, t, rfl, by unfold namesF; rw [z]; exact List.mem_append_right _ (.head _)⟩
theorem plain_ok (h : PairsOk ps) : (plainG ps).Ok := by
  have hn := namesF_len h
  have hlen : tcF ps < (namesF ps).length := by
    unfold namesF tcF
    rw [List.length_append, List.length_append, List.length_singleton]; (first | with_reducible assumption | exact Nat.lt_of_lt_of_le (by assumption) (by decide) | exact Nat.lt_of_le_of_lt (by assumption) (by decide) | lia | omega)
  refine ⟨?_, fun r m => ?_, hn, fun r m => ?_, Nat.le_of_lt hlen⟩
  · show (_ :: ps.map (ruleF ps)).length ≤ 8
    rw [List.length_cons, List.length_map]; have := h.len; (first | with_reducible assumption | exact Nat.lt_of_lt_of_le (by assumption) (by decide) | exact Nat.lt_of_le_of_lt (by assumption) (by decide) | lia | omega)
  · rcases List.mem_cons.mp m with rfl | m
    · show [startF ps, 0].length ≤ 3
      exact Nat.le_of_ble_eq_true rfl
    · obtain ⟨p, mp, rfl⟩ := List.mem_map.mp m
      show (p.2.map _).length ≤ 3
      rw [List.length_map]; exact h.few p mp
  · rcases List.mem_cons.mp m with rfl | m
    · obtain ⟨s, t, e, hs⟩ := start_in h
      refine ⟨hlen, fun x mx => ?_⟩
      rcases List.mem_cons.mp mx with rfl | mx
      · unfold startF; rw [e]; exact posOf_lt hs
      · rw [List.mem_singleton.mp mx]; exact Nat.lt_of_le_of_lt (Nat.zero_le _) hlen
    · obtain ⟨p, mp, rfl⟩ := List.mem_map.mp m
      refine ⟨posOf_lt (left_in h mp), fun x mx => ?_⟩
      obtain ⟨y, my, rfl⟩ := List.mem_map.mp mx
      exact posOf_lt (part_in h mp my)
end
theorem up_fine {x : Str} (h : x ∈ upN) : (x == "error") = false ∧ x.length ≤ 1000 ∧ Txt.slice x none (some 1) ∉ (["", "$", "'"] : List Str) := by
  unfold upN at h
  rcases List.mem_cons.mp h with rfl | h
  · exact ⟨by decide, by decide, by decide⟩
  rcases List.mem_cons.mp h with rfl | h
  · exact ⟨by decide, by decide, by decide⟩
  rw [List.mem_singleton.mp h]
  exact ⟨by decide, by decide, by decide⟩
theorem all_fine {x : Str} (h : x ∈ allN) : x.length ≤ 1000 ∧ Txt.slice x none (some 1) ∉ (["", "$"] : List Str) := by
  unfold allN at h
  iterate 5
    rcases List.mem_cons.mp h with rfl | h
    · exact ⟨by decide, by decide⟩
  rw [List.mem_singleton.mp h]
  exact ⟨by decide, by decide⟩
theorem lefts_head : ∀ (ps : Pr) (p : Str × List Str), ∃ t, leftsF (p :: ps) = p.1 :: t := fun ps p => by
  have go : ∀ (ps : Pr) (x : Str) (l : List Str), ∃ t, ps.foldl leftS (x :: l) = x :: t := by
    intro ps
    induction ps with
    | nil => exact fun x l => ⟨l, rfl⟩
    | cons q ps ih =>
      intro x l
      rw [List.foldl_cons]
      unfold leftS
      split
      · exact ih x l
      · exact ih x (l ++ [q.1])
  unfold leftsF
  rw [List.foldl_cons]
  have : leftS [] p = [p.1] := rfl
  rw [this]
  exact go ps p.1 []
section
variable {prog : Program} {w : World} {K : Frag} {a : Ad} {n : Nat} {sc : Scope} {tab : Tab} {ρ : Loc} {G G' : GH} {Q : D → GH → Prop} {ps : Pr}
theorem pairsL_item {i : Nat} {d : D} (h : (pairsL ps)[i]? = some d) : ∃ p, ps[i]? = some p ∧ d = pairD' p := by
  unfold pairsL at h
  rw [List.getElem?_map] at h
  cases z : ps[i]? with
  | none => rw [z] at h; cases h
  | some p => rw [z] at h; cases h; exact ⟨p, rfl, rfl⟩
theorem not_in_strs {l : List Str} {x : Str} {b : Bool} (h : x ∉ l) (ht : b = true ↔ D.str x ∈ strL l) : b = false := by
  cases b with
  | false => rfl
  | true => exact absurd (mem_strL.mp (ht.mp rfl)) h
noncomputable abbrev noneL : Option D := none
noncomputable def plR (ps : Pr) (y0 y1 y2 y3 y4 y5 y6 y7 y8 : Option D) : Loc := [some (.list (pairsL ps)), some .none, y0, y1, y2, y3, y4, y5, y6, y7, y8]
theorem w_plain (C : Ctx w K a) (hp : PairsOk ps) (q : Q ((plainG ps).d a) G) : FN prog w K 4 G a.plain [.list (pairsL ps)] Q := by
  refine FN.melt (C.d_plain.fn C.ok (by rfl) (by rfl) ?_)
  have hlen := hp.len
  show SX _ _ _ _ _ _ (plR ps none none none none none none none none none) _ _ _
  refine SX_next (S1_name (by rfl) (tab_inj (by rfl)) (EX_listG ⟨by decide, fun bl hbl => ⟨rfl, ?_⟩⟩))
  let J1 : Nat → Loc → GH → Prop := fun i => Ex3 (fun d3 d4 d5 => (plR ps (some (.ref bl)) d3 d4 d5 none none none none none)) (G.put bl (.list (strL (leftsF (ps.take i)))))
  refine SX_seq (J1 ps.length) (S1_for (SRC_list (EX_name (by rfl) (by rfl) ⟨_, rfl, ?_⟩))) ?_
  · refine ForX_ind J1 (fun i d ρ G2 hi hJ => ?_) (fun ρ G2 hJ => ⟨rfl, by rw [show (pairsL ps).length = ps.length from List.length_map ..] at hJ; exact hJ⟩) ⟨none, none, none, rfl, rfl⟩
    obtain ⟨p, hpi, rfl⟩ := pairsL_item hi
    have hm := List.mem_of_getElem? hpi
    obtain ⟨d3, d4, d5, rfl, rfl⟩ := hJ
    obtain ⟨f1, f2, f3⟩ := up_fine (hp.left p hm)
    have hst : leftsF (ps.take (i + 1)) = leftS (leftsF (ps.take i)) p := foldl_take _ _ _ _ _ hpi
    have hll : (leftsF (ps.take i)).length ≤ 7 := by
      have := foldl_left_len (ps.take i) []
      have h2 := List.length_take_le' i ps
      unfold leftsF
      simp only [List.length_nil] at *
      (first | with_reducible assumption | exact Nat.lt_of_lt_of_le (by assumption) (by decide) | exact Nat.lt_of_le_of_lt (by assumption) (by decide) | lia | omega)
    refine AX_tuple rfl rfl (AX_name (by rfl) (tab_inj (by rfl)) (AX_name (by rfl) (tab_inj (by rfl)) ?_))
    show SX _ _ _ _ _ _ (plR ps (some (.ref bl)) (some (.str p.1)) (some (.list (strL p.2))) d5 none none none none none) _ _ _
    refine SX_next (S1_if (TX_or (TX_cmp (EX_name (by rfl) (by rfl) (EX_str (OP_eqS ⟨_, rfl, fun hc => ?_, fun _ => TX_cmp (EX_headS (EX_name (by rfl) (by rfl) (EX_int ⟨_, _, rfl, rfl, f2, EX_tuple (EX_str (EX_str (EX_str ⟨(by show 3 < 2 ^ 20; decide), OP_in (k := 0) (ds := strL ["", "$", "'"]) .tup (like_strs _ _) (by decide) fun t ht => ⟨_, rfl, fun hc => ?_, fun _ => ⟨fun e => (nomatch e), fun _ => ?_⟩⟩⟩)))⟩)))⟩))))))
    · rw [f1] at hc; cases hc
    · rw [not_in_strs f3 ht] at hc; cases hc
    · refine SX_nil ⟨rfl, ?_⟩
      refine SX_seq (fun ρ G' => ρ = (plR ps (some (.ref bl)) (some (.str p.1)) (some (.list (strL p.2))) d5 none none none none none) ∧ G' = G.put bl (.list (strL (leftsF (ps.take (i + 1)))))) (S1_if (TX_cmp (EX_name (by rfl) (by rfl) (EX_name (by rfl) (by rfl) (OP_notIn (k := 0) (.live GH.put_self) (like_strs _ _) (by decide) fun t ht => ⟨_, rfl, fun hc => ?_, fun hc => ?_⟩))))) ?_
      · have hn : p.1 ∉ leftsF (ps.take i) := fun m => (ht.mp hc) (mem_strL.mpr m)
        refine SX_next (S1_expr (EX_methB PySem.F.slot_list_append PySem.F.plainAttrs_list PySem.F.type_list_append (EX_name (by rfl) (by rfl) ⟨.lst (.live GH.put_self), EX_name (by rfl) (by rfl) (OP_append GH.put_self ?_ ⟨rfl, rfl, SX_nil ⟨rfl, rfl, ?_⟩⟩)⟩)))
        · rw [strL_len]; (first | with_reducible assumption | exact Nat.lt_of_lt_of_le (by assumption) (by decide) | exact Nat.lt_of_le_of_lt (by assumption) (by decide) | lia | omega)
        · rw [put_put, hst]; unfold leftS; rw [if_neg hn, strL_app]
      · have hn : p.1 ∈ leftsF (ps.take i) := by
          by_cases z : p.1 ∈ leftsF (ps.take i)
          · exact z
          · rw [ht.mpr fun m => z (mem_strL.mp m)] at hc; cases hc
        refine SX_nil ⟨rfl, rfl, ?_⟩
        rw [hst]; unfold leftS; rw [if_pos hn]
      · rintro ρ₁ G₁ ⟨rfl, rfl⟩
        let J : Nat → Loc → GH → Prop := fun j => Ex1 (fun d5 => (plR ps (some (.ref bl)) (some (.str p.1)) (some (.list (strL p.2))) d5 none none none none none)) (G.put bl (.list (strL (leftsF (ps.take (i + 1))))))
        refine SX_cons (S1_for (SRC_list (EX_name (by rfl) (by rfl) ⟨_, rfl, ?_⟩)))
        refine ForX_ind J (fun j d ρ G2 hj hJ => ?_) (fun ρ G2 hJ => ⟨fun _ => ?_, fun _ e => (nomatch e)⟩) ⟨d5, rfl, rfl⟩
        · obtain ⟨x, hx, rfl⟩ := strL_item hj
          obtain ⟨d5, rfl, rfl⟩ := hJ
          obtain ⟨k1, k2⟩ := all_fine (hp.part p hm x (List.mem_of_getElem? hx))
          refine AX_name (by rfl) (tab_inj (by rfl)) ?_
          show SX _ _ _ _ _ _ (plR ps (some (.ref bl)) (some (.str p.1)) (some (.list (strL p.2))) (some (.str x)) none none none none none) _ _ _
          refine SX_next (S1_if (TX_cmp (EX_headS (EX_name (by rfl) (by rfl) (EX_int ⟨_, _, rfl, rfl, k1, EX_tuple (EX_str (EX_str ⟨(by show 2 < 2 ^ 20; decide), OP_in (k := 0) (ds := strL ["", "$"]) .tup (like_strs _ _) (by decide) fun t ht => ⟨_, rfl, fun hc => ?_, fun _ => ?_⟩⟩))⟩)))))
          · rw [not_in_strs k2 ht] at hc; cases hc
          · exact SX_nil ⟨rfl, SX_nil ⟨fun _ => ⟨_, rfl, rfl⟩, fun _ e => (nomatch e)⟩⟩
        · obtain ⟨d5, rfl, rfl⟩ := hJ
          exact SX_nil ⟨fun _ => ⟨_, _, _, rfl, rfl⟩, fun _ e => (nomatch e)⟩
  · rintro ρ₁ G₁ ⟨d3, d4, d5, rfl, rfl⟩
    rw [List.take_length]
    obtain ⟨s, t, hs, hsn⟩ := start_in hp
    have hsd : (leftsF ps).headD "" = s := by rw [hs]; rfl
    have hll := hp.lefts
    have h0 : itemAt (strL (leftsF ps)) 0 = some (.str s) := by rw [hs]; rfl
    have hsm : s ∈ leftsF ps := by rw [hs]; exact .head _
    refine SX_next (S1_name (by rfl) (tab_inj (by rfl)) (EX_ite (TX_or (TX_cmp (EX_name (by rfl) (by rfl) (EX_none (OP_isNotNone ⟨_, rfl, fun hc => (by cases hc), fun _ => TX_cmp (EX_name (by rfl) (by rfl) (EX_listF ⟨by decide, OP_eqL (k := 0) (.live GH.put_self) .frozen (fun x _ y m => by cases m) (by decide) fun b hb => ⟨_, rfl, fun hc => ?_, fun _ => ⟨fun e => (nomatch e), fun _ => EX_index (EX_name (by rfl) (by rfl) (EX_int ⟨_, _, _, .live GH.put_self, rfl, by decide, h0, rfl, ?_⟩))⟩⟩⟩))⟩)))))))
    · have := hb.mp hc; rw [hs] at this; cases this
    refine SX_next (S1_if (TX_cmp (EX_name (by rfl) (by rfl) (EX_name (by rfl) (by rfl) (OP_notIn (k := 0) (.live GH.put_self) (like_strs _ _) (by decide) fun t ht => ⟨_, rfl, fun hc => absurd (mem_strL.mpr hsm) (ht.mp hc), fun _ => ?_⟩)))))
    refine SX_nil ⟨rfl, ?_⟩
    refine SX_next (S1_name (by rfl) (tab_inj (by rfl)) (EX_call (C.cb (by rfl) (by rfl) (by rfl)) (.type _) (EX_OWN C (by rfl) (OP_listG .tup (by decide) fun bn hbn => ⟨rfl, ?_⟩))))
    have nbl : bn ≠ bl := by rintro rfl; rw [GH.put_self] at hbn; cases hbn
    have hbn' : G bn = none := by rw [GH.put_ne nbl] at hbn; exact hbn
    let H : List Str → GH := fun l => (G.put bl (.list (strL (leftsF ps)))).put bn (.list (strL l))
    have hH1 : ∀ l, H l bl = some (.list (strL (leftsF ps))) := fun l => by show ((G.put bl _).put bn _) bl = _; rw [GH.put_ne nbl.symm]; exact GH.put_self
    have hH2 : ∀ l, H l bn = some (.list (strL l)) := fun l => GH.put_self
    let J2 : Nat → Loc → GH → Prop := fun i => Ex3 (fun d3 d4 d5 => (plR ps (some (.ref bl)) d3 d4 d5 (some (.str s)) (some (.ref bn)) none none none)) (H ((ps.take i).foldl (termP (leftsF ps)) ownN))
    refine SX_seq (J2 ps.length) (S1_for (SRC_list (EX_name (by rfl) (by rfl) ⟨_, rfl, ?_⟩))) ?_
    · refine ForX_ind J2 (fun i d ρ G2 hi hJ => ?_) (fun ρ G2 hJ => ⟨rfl, by rw [show (pairsL ps).length = ps.length from List.length_map ..] at hJ; exact hJ⟩) ⟨_, _, _, rfl, rfl⟩
      obtain ⟨p, hpi, rfl⟩ := pairsL_item hi
      have hm := List.mem_of_getElem? hpi
      obtain ⟨d3, d4, d5, rfl, rfl⟩ := hJ
      have hst : (ps.take (i + 1)).foldl (termP (leftsF ps)) ownN = termP (leftsF ps) ((ps.take i).foldl (termP (leftsF ps)) ownN) p := foldl_take _ _ _ _ _ hpi
      have hlt : ((ps.take i).foldl (termP (leftsF ps)) ownN).length ≤ 24 := by
        have h1 := foldl_termP_len (leftsF ps) (ps.take i) ownN fun p m => hp.few p (List.mem_of_mem_take m)
        have h2 := List.length_take_le' i ps
        have h3 : ownN.length = 3 := rfl
        (first | with_reducible assumption | exact Nat.lt_of_lt_of_le (by assumption) (by decide) | exact Nat.lt_of_le_of_lt (by assumption) (by decide) | lia | omega)
      generalize (ps.take i).foldl (termP (leftsF ps)) ownN = acc at hlt hst
      refine AX_tuple rfl rfl (AX_name (by rfl) (tab_inj (by rfl)) (AX_name (by rfl) (tab_inj (by rfl)) ?_))
      show SX _ _ _ _ _ _ (plR ps (some (.ref bl)) (some (.str p.1)) (some (.list (strL p.2))) d5 (some (.str s)) (some (.ref bn)) none none none) _ _ _
      let J : Nat → Loc → GH → Prop := fun j => Ex1 (fun d5 => (plR ps (some (.ref bl)) (some (.str p.1)) (some (.list (strL p.2))) d5 (some (.str s)) (some (.ref bn)) none none none)) (H ((p.2.take j).foldl (termS (leftsF ps)) acc))
      refine SX_cons (S1_for (SRC_list (EX_name (by rfl) (by rfl) ⟨_, rfl, ?_⟩)))
      refine ForX_ind J (fun j d ρ G2 hj hJ => ?_) (fun ρ G2 hJ => ⟨fun _ => ?_, fun _ e => (nomatch e)⟩) ⟨d5, rfl, rfl⟩
      · obtain ⟨x, hx, rfl⟩ := strL_item hj
        obtain ⟨d5, rfl, rfl⟩ := hJ
        have hst2 : (p.2.take (j + 1)).foldl (termS (leftsF ps)) acc = termS (leftsF ps) ((p.2.take j).foldl (termS (leftsF ps)) acc) x := foldl_take _ _ _ _ _ hx
        have hl2 : ((p.2.take j).foldl (termS (leftsF ps)) acc).length ≤ 27 := by
          have h1 := (foldl_term_len (leftsF ps) (p.2.take j) acc).2
          have h2 := List.length_take_le' j p.2
          have h3 := hp.few p hm
          (first | with_reducible assumption | exact Nat.lt_of_lt_of_le (by assumption) (by decide) | exact Nat.lt_of_le_of_lt (by assumption) (by decide) | lia | omega)
        generalize (p.2.take j).foldl (termS (leftsF ps)) acc = ac2 at hst2 hl2
        refine AX_name (by rfl) (tab_inj (by rfl)) ?_
        show SX _ _ _ _ _ _ (plR ps (some (.ref bl)) (some (.str p.1)) (some (.list (strL p.2))) (some (.str x)) (some (.str s)) (some (.ref bn)) none none none) _ _ _
        have no : ¬ (x ∉ leftsF ps ∧ x ∉ ac2) → J (j + 1) (plR ps (some (.ref bl)) (some (.str p.1)) (some (.list (strL p.2))) (some (.str x)) (some (.str s)) (some (.ref bn)) none none none) (H ac2) := fun z => ⟨_, rfl, by rw [hst2]; unfold termS; rw [if_neg z]⟩
        refine SX_next (S1_if (TX_and (TX_cmp (EX_name (by rfl) (by rfl) (EX_name (by rfl) (by rfl) (OP_notIn (k := 0) (.live (hH1 ac2)) (like_strs _ _) (by decide) fun t ht => ⟨_, rfl, fun hc => TX_cmp (EX_name (by rfl) (by rfl) (EX_name (by rfl) (by rfl) (OP_notIn (k := 0) (.live (hH2 ac2)) (like_strs _ _) (by decide) fun t2 ht2 => ⟨_, rfl, fun hc2 => ?_, fun hc2 => ?_⟩))), fun hc => ⟨fun e => (nomatch e), fun _ => ?_⟩⟩))))))
        · have n1 : x ∉ leftsF ps := fun m => (ht.mp hc) (mem_strL.mpr m)
          have n2 : x ∉ ac2 := fun m => (ht2.mp hc2) (mem_strL.mpr m)
          refine SX_next (S1_expr (EX_methB PySem.F.slot_list_append PySem.F.plainAttrs_list PySem.F.type_list_append (EX_name (by rfl) (by rfl) ⟨.lst (.live (hH2 ac2)), EX_name (by rfl) (by rfl) (OP_append (hH2 ac2) ?_ ⟨rfl, rfl, SX_nil ⟨rfl, SX_nil ⟨fun _ => ⟨some (.str x), rfl, ?_⟩, fun _ e => (nomatch e)⟩⟩⟩)⟩)))
          · rw [strL_len]; (first | with_reducible assumption | exact Nat.lt_of_lt_of_le (by assumption) (by decide) | exact Nat.lt_of_le_of_lt (by assumption) (by decide) | lia | omega)
          · rw [hst2]; unfold termS; rw [if_pos ⟨n1, n2⟩]
            show ((G.put bl _).put bn _).put bn _ = (G.put bl _).put bn _
            rw [put_put, strL_app]
        · have n2 : x ∈ ac2 := by
            by_cases z : x ∈ ac2
            · exact z
            · rw [ht2.mpr fun m => z (mem_strL.mp m)] at hc2; cases hc2
          exact SX_nil ⟨rfl, SX_nil ⟨fun _ => no fun z => z.2 n2, fun _ e => (nomatch e)⟩⟩
        · have n1 : x ∈ leftsF ps := by
            by_cases z : x ∈ leftsF ps
            · exact z
            · rw [ht.mpr fun m => z (mem_strL.mp m)] at hc; cases hc
          exact SX_nil ⟨rfl, SX_nil ⟨fun _ => no fun z => z.1 n1, fun _ e => (nomatch e)⟩⟩
      · obtain ⟨d5, rfl, rfl⟩ := hJ
        rw [strL_len, List.take_length]
        exact SX_nil ⟨fun _ => ⟨_, _, _, rfl, by rw [hst]; rfl⟩, fun _ e => (nomatch e)⟩
    · rintro ρ₁ G₁ ⟨d3, d4, d5, rfl, rfl⟩
      rw [List.take_length]
      show SX _ _ _ _ _ _ _ (H (termsF (leftsF ps) ps)) _ _
      have ht24 : (termsF (leftsF ps) ps).length ≤ 24 := hp.terms
      have hn32 := namesF_len hp
      refine SX_next (S1_name (by rfl) (tab_inj (by rfl)) (EX_call (C.cb (by rfl) (by rfl) (by rfl)) (.builtin _) (EX_name (by rfl) (by rfl) (OP_len (.live (hH2 _)) (by rw [strL_len]; (first | with_reducible assumption | exact Nat.lt_of_lt_of_le (by assumption) (by decide) | exact Nat.lt_of_le_of_lt (by assumption) (by decide) | lia | omega)) ⟨rfl, ?_⟩))))
      rw [strL_len]
      refine SX_next (S1_name (by rfl) (tab_inj (by rfl)) (EX_bin (EX_bin (EX_name (by rfl) (by rfl) (EX_listF (EX_str ⟨by decide, OP_addL (.live (hH2 _)) .frozen ?_ (EX_name (by rfl) (by rfl) (OP_addL .frozen (.live (hH1 _)) ?_ ⟨rfl, ?_⟩))⟩))))))
      · rw [strL_len]; show _ + 1 < _; (first | with_reducible assumption | exact Nat.lt_of_lt_of_le (by assumption) (by decide) | exact Nat.lt_of_le_of_lt (by assumption) (by decide) | lia | omega)
      · rw [List.length_append, strL_len, strL_len]; show _ + 1 + _ < _; (first | with_reducible assumption | exact Nat.lt_of_lt_of_le (by assumption) (by decide) | exact Nat.lt_of_le_of_lt (by assumption) (by decide) | lia | omega)
      have hnames : strL (termsF (leftsF ps) ps) ++ ([] ++ [D.str "$accept"]) ++ strL (leftsF ps) = strL (namesF ps) := by
        unfold namesF strL; rw [List.map_append, List.map_append]; rfl
      rw [hnames]
      have hG3 : ∀ b c, G b = some c → H (termsF (leftsF ps) ps) b = some c := fun b c e => by
        show ((G.put bl _).put bn _) b = _
        rw [GH.put_ne (by rintro rfl; rw [hbn'] at e; cases e), GH.put_ne (by rintro rfl; rw [hbl] at e; cases e)]; exact e
      generalize H (termsF (leftsF ps) ps) = G3 at hG3
      have hst : startF ps = posOf (namesF ps) s := by unfold startF; rw [hsd]
      have r0 : ((plainG ps).rules.take 1).mapIdx (ruleD a) = [ruleD a 0 (tcF ps, [startF ps, 0], 0)] := rfl
      have hidx : ∀ (x : Str) (hx : x ∈ namesF ps) {Q' : D → GH → Prop} {G' : GH}, Q' (.int (posOf (namesF ps) x : Nat)) G' → OP prog w K 3 G' [.list (strL (namesF ps)), .str x] (fun vs => call (.builtin "list.index") vs) Q' := fun x hx Q' G' q => OP_pos .frozen hx (by (first | with_reducible assumption | exact Nat.lt_of_lt_of_le (by assumption) (by decide) | exact Nat.lt_of_le_of_lt (by assumption) (by decide) | lia | omega)) q
      refine SX_next (S1_name (by rfl) (tab_inj (by rfl)) (EX_listG (EX_call (C.cg (by rfl) (by rfl) (by rfl)) (.of C.k_Rule) (EX_int (EX_name (by rfl) (by rfl) (EX_tuple (EX_methB PySem.F.slot_list_index PySem.F.plainAttrs_list PySem.F.type_list_index (EX_name (by rfl) (by rfl) ⟨.lst .frozen, EX_name (by rfl) (by rfl) (hidx s hsn (EX_END C (by rfl) ⟨(by show 2 < 2 ^ 20; decide), EX_END C (by rfl) ?_⟩))⟩))))))))
      rw [← hst]
      refine OP.le (w_Rule (i := 0) (r := (tcF ps, [startF ps, 0], 0)) C ⟨(by show 1 < 2 ^ 20; decide), fun br hbr => ⟨rfl, ?_⟩⟩) (by decide)
      have hbr' : G br = none := by
        cases z : G br with
        | none => rfl
        | some c => rw [hG3 br c z] at hbr; cases hbr
      let J3 : Nat → Loc → GH → Prop := fun i => Ex4 (fun d3 d4 d5 d10 => (plR ps (some (.ref bl)) d3 d4 d5 (some (.str s)) (some (.list (strL (namesF ps)))) (some (.int (tcF ps : Nat))) (some (.ref br)) d10)) (G3.put br (.list (((plainG ps).rules.take (i + 1)).mapIdx (ruleD a))))
      refine SX_seq (J3 ps.length) (S1_for (SRC_list (EX_name (by rfl) (by rfl) ⟨_, rfl, ?_⟩))) ?_
      · refine ForX_ind J3 (fun i d ρ G2 hi hJ => ?_) (fun ρ G2 hJ => ⟨rfl, by rw [show (pairsL ps).length = ps.length from List.length_map ..] at hJ; exact hJ⟩) ⟨_, _, _, _, rfl, rfl⟩
        obtain ⟨p, hpi, rfl⟩ := pairsL_item hi
        have hm := List.mem_of_getElem? hpi
        obtain ⟨d3, d4, d5, d10, rfl, rfl⟩ := hJ
        have hil := (List.getElem?_eq_some_iff.mp hpi).1
        have htk : (plainG ps).rules.take (i + 1 + 1) = (plainG ps).rules.take (i + 1) ++ [ruleF ps p] := by
          show (_ :: ps.map (ruleF ps)).take (i + 1 + 1) = (_ :: ps.map (ruleF ps)).take (i + 1) ++ _
          rw [List.take_succ, List.getElem?_cons_succ, List.getElem?_map, hpi]; rfl
        have hlr : ((plainG ps).rules.take (i + 1)).length = i + 1 := by
          rw [List.length_take]
          show min (i + 1) (_ :: ps.map (ruleF ps)).length = _
          rw [List.length_cons, List.length_map]; (first | with_reducible assumption | exact Nat.lt_of_lt_of_le (by assumption) (by decide) | exact Nat.lt_of_le_of_lt (by assumption) (by decide) | lia | omega)
        refine AX_tuple rfl rfl (AX_name (by rfl) (tab_inj (by rfl)) (AX_name (by rfl) (tab_inj (by rfl)) ?_))
        show SX _ _ _ _ _ _ (plR ps (some (.ref bl)) (some (.str p.1)) (some (.list (strL p.2))) d5 (some (.str s)) (some (.list (strL (namesF ps)))) (some (.int (tcF ps : Nat))) (some (.ref br)) d10) _ _ _
        have hright : (strL p.2).map (fun d => match d with | .str x => D.int (posOf (namesF ps) x : Nat) | _ => .none) = intL (p.2.map (posOf (namesF ps))) := by
          unfold strL intL; rw [List.map_map, List.map_map]; rfl
        refine SX_next (S1_name (by rfl) (tab_inj (by rfl)) (EX_call (C.cb (by rfl) (by rfl) (by rfl)) (.type _) (EX_comp (tab' := tab_plain_grammar_c0) (comp_ok (by rfl)) (by rfl) (cap_of (by rfl) (by rfl)) (SRC_list (EX_name (by rfl) (by rfl) ⟨_, rfl, ?_⟩)))))
        refine comp1 (d0 := none) (rest := [some (.list (strL (namesF ps)))]) (f := fun d => match d with | .str x => D.int (posOf (namesF ps) x : Nat) | _ => .none) (by rfl) (tab_inj (by rfl)) (by rw [strL_len]; have := hp.few p hm; (first | with_reducible assumption | exact Nat.lt_of_lt_of_le (by assumption) (by decide) | exact Nat.lt_of_le_of_lt (by assumption) (by decide) | lia | omega)) (fun d md R r => ?_) ?_
        · obtain ⟨x, mx, rfl⟩ := List.mem_map.mp md
          exact EX_methB PySem.F.slot_list_index PySem.F.plainAttrs_list PySem.F.type_list_index (EX_name (by rfl) (by rfl) ⟨.lst .frozen, EX_name (by rfl) (by rfl) (hidx x (part_in hp hm mx) r)⟩)
        · rw [hright]
          refine OP_tuple .frozen (by rw [intL_len, List.length_map]; have := hp.few p hm; (first | with_reducible assumption | exact Nat.lt_of_lt_of_le (by assumption) (by decide) | exact Nat.lt_of_le_of_lt (by assumption) (by decide) | lia | omega)) ⟨rfl, ?_⟩
          refine SX_next (S1_expr (EX_methB PySem.F.slot_list_append PySem.F.plainAttrs_list PySem.F.type_list_append (EX_name (by rfl) (by rfl) ⟨.lst (.live GH.put_self), EX_call (C.cg (by rfl) (by rfl) (by rfl)) (.of C.k_Rule) (EX_call (C.cb (by rfl) (by rfl) (by rfl)) (.builtin _) (EX_name (by rfl) (by rfl) (OP_len (.live GH.put_self) (by rw [List.length_mapIdx]; (first | with_reducible assumption | exact Nat.lt_of_lt_of_le (by assumption) (by decide) | exact Nat.lt_of_le_of_lt (by assumption) (by decide) | lia | omega)) ?_)))⟩)))
          rw [List.length_mapIdx, hlr]
          refine EX_methB PySem.F.slot_list_index PySem.F.plainAttrs_list PySem.F.type_list_index (EX_name (by rfl) (by rfl) ⟨.lst .frozen, EX_name (by rfl) (by rfl) (hidx p.1 (left_in hp hm) (EX_name (by rfl) (by rfl) (EX_call (C.cg (by rfl) (by rfl) (by rfl)) (.of C.d_last.keep) (EX_name (by rfl) (by rfl) (EX_name (by rfl) (by rfl) (FN.le (w_last C (OP.le (w_Rule (i := i + 1) (r := ruleF ps p) C (OP_append GH.put_self ?_ ⟨rfl, rfl, ?_⟩)) (by decide))) (by decide)).op)))))⟩)
          · rw [List.length_mapIdx]; (first | with_reducible assumption | exact Nat.lt_of_lt_of_le (by assumption) (by decide) | exact Nat.lt_of_le_of_lt (by assumption) (by decide) | lia | omega)
          · refine SX_nil ⟨fun _ => ⟨_, _, _, _, rfl, ?_⟩, fun _ e => (nomatch e)⟩
            rw [put_put, htk, List.mapIdx_append, hlr]; simp only [List.mapIdx_cons, List.mapIdx_nil, Nat.zero_add]
      · rintro ρ₁ G₁ ⟨d3, d4, d5, d10, rfl, rfl⟩
        have hall : (plainG ps).rules.take (ps.length + 1) = (plainG ps).rules := by
          have : (plainG ps).rules.length = ps.length + 1 := by
            show (_ :: ps.map (ruleF ps)).length = _
            rw [List.length_cons, List.length_map]
          rw [← this, List.take_length]
        rw [hall]
        have hold : ∀ b c, G b = some c → (G3.put br (.list ((plainG ps).rules.mapIdx (ruleD a)))) b = some c := fun b c e => by
          rw [GH.put_ne (by rintro rfl; rw [hbr'] at e; cases e)]; exact hG3 b c e
        refine SX_melt (G'' := G) (ρ'' := [none, none, none, none, none, none, some (.str s), some (.list (strL (namesF ps))), some (.int (tcF ps : Nat)), some (.list ((plainG ps).rules.mapIdx (ruleD a))), none]) (fun b c e => ⟨c, hold b c e, .same _⟩) (.none (.none (.none (.none (.none (.none (.some (.same _) (.some (.same _) (.some (.same _) (.some (.listG GH.put_self hbr' (MeltAll.same _)) (.none .nil))))))))))) ?_
        refine SX_ret (EX_call (C.cg (by rfl) (by rfl) (by rfl)) (.of C.k_Grammar) (EX_name (by rfl) (by rfl) (EX_name (by rfl) (by rfl) (EX_name (by rfl) (by rfl) (EX_dict0F (EX_none (EX_methB PySem.F.slot_list_index PySem.F.plainAttrs_list PySem.F.type_list_index (EX_name (by rfl) (by rfl) ⟨.lst .frozen, EX_name (by rfl) (by rfl) (hidx s hsn ?_)⟩))))))))
        rw [← hst]
        exact w_Grammar (g := plainG ps) C (plain_ok hp) ⟨G, _, fun b c e => ⟨c, e, .same _⟩, .same _, q⟩
end
noncomputable def Tp (l : List D) (k : Nat) : Prop := ∃ d s c : Int, l = [.int d, .int s, .int c] ∧ 0 ≤ d ∧ 0 ≤ s ∧ s < 1000000007 ∧ 0 ≤ c ∧ c ≤ k
theorem bits_small {x : Int} (h0 : 0 ≤ x) (h : x < 2 ^ 60) : (Builtin.Int.intBits x : Int) * 3 ≤ 2 ^ 27 := by
  have := intBits_le_64 (k := x) (by (first | with_reducible assumption | exact Nat.lt_of_lt_of_le (by assumption) (by decide) | exact Nat.lt_of_le_of_lt (by assumption) (by decide) | lia | omega)) (by (first | with_reducible assumption | exact Nat.lt_of_lt_of_le (by assumption) (by decide) | exact Nat.lt_of_le_of_lt (by assumption) (by decide) | lia | omega))
  (first | with_reducible assumption | exact Nat.lt_of_lt_of_le (by assumption) (by decide) | exact Nat.lt_of_le_of_lt (by assumption) (by decide) | lia | omega)
section
variable {prog : Program} {w : World} {K : Frag} {a : Ad} {n : Nat} {sc : Scope} {tab : Tab} {ρ : Loc} {G G' : GH} {Q : D → GH → Prop}
theorem w_draw (C : Ctx w K a) {b : Addr} {l : List D} {k many : Nat} (hb : G b = some (.list l)) (hT : Tp l k) (hk : k < 2 ^ 20) (hm : 0 < many) (hm2 : many < 2 ^ 20) (q : ∀ (i : Nat) (l' : List D), i < many → Tp l' (k + 1) → Q (.int (i : Nat)) (G.put b (.list l'))) : FN prog w K 1 G a.draw [.ref b, .int (many : Nat)] Q := by
  refine C.d_draw.fn C.ok (by rfl) (by rfl) ?_
  obtain ⟨d, s, c, rfl, hd, hs0, hs1, hc0, hc1⟩ := hT
  show SX _ _ _ _ _ _ [some (.ref b), some (.int (many : Nat)), none] _ _ _
  refine SX_seq (fun ρ G' => ρ = [some (.ref b), some (.int (many : Nat)), none] ∧ ∃ d c : Int, G' = G.put b (.list [.int d, .int s, .int c]) ∧ 0 ≤ d ∧ 0 ≤ c ∧ c ≤ (k + 1 : Nat)) (S1_if (TX_cmp (EX_index (EX_name (by rfl) (by rfl) (EX_int ⟨_, _, _, .live hb, rfl, by decide, rfl, EX_int (OP_eqi ⟨_, rfl, fun hc => ?_, fun hc => ?_⟩)⟩))))) ?_
  · refine SX_next (S1_assign (EX_bin (EX_index (EX_name (by rfl) (by rfl) (EX_int ⟨_, _, _, .live hb, rfl, by decide, rfl, EX_int (OP_add (AX_subL (EX_name (by rfl) (by rfl) (EX_int ⟨b, [.int d, .int s, .int c], _, rfl, hb, rfl, by decide, (by show (2 : Int) < 3; decide), by decide, rfl, ?_⟩))))⟩)))) (fun _ _ => swapsWith_plain rfl) (fun _ _ => rfl) rfl)
    show SX _ _ _ _ _ _ _ (G.put b (.list [.int d, .int s, .int (c + 1)])) _ _
    refine SX_next (S1_assign (EX_bin (EX_bin (EX_bin (EX_index (EX_name (by rfl) (by rfl) (EX_int ⟨_, _, _, .live GH.put_self, rfl, by decide, rfl, EX_bin (EX_int (EX_index (EX_name (by rfl) (by rfl) (EX_int ⟨_, _, _, .live GH.put_self, rfl, by decide, rfl, OP_mul (OP_add (EX_int (OP_pow (EX_int (OP_mod (AX_subL (EX_name (by rfl) (by rfl) (EX_int ⟨b, [.int d, .int s, .int (c + 1)], _, rfl, GH.put_self, rfl, by decide, (by show (0 : Int) < 3; decide), by decide, rfl, ?_⟩))) (by decide))) (by decide) ?_))) ?_⟩))))⟩)))))) (fun _ _ => swapsWith_plain rfl) (fun _ _ => rfl) rfl)
    · refine SX_nil ⟨rfl, rfl, _, c + 1, by rw [put_put]; rfl, ?_, by (first | with_reducible assumption | exact Nat.lt_of_lt_of_le (by assumption) (by decide) | exact Nat.lt_of_le_of_lt (by assumption) (by decide) | lia | omega), by (first | with_reducible assumption | exact Nat.lt_of_lt_of_le (by assumption) (by decide) | exact Nat.lt_of_le_of_lt (by assumption) (by decide) | lia | omega)⟩
      exact Int.fmod_nonneg_of_pos _ (by decide)
    · exact bits_small (by (first | with_reducible assumption | exact Nat.lt_of_lt_of_le (by assumption) (by decide) | exact Nat.lt_of_le_of_lt (by assumption) (by decide) | lia | omega)) (by (first | with_reducible assumption | exact Nat.lt_of_lt_of_le (by assumption) (by decide) | exact Nat.lt_of_le_of_lt (by assumption) (by decide) | lia | omega))
    · exact IntMulOk.of_left (by decide)
  · exact SX_nil ⟨rfl, rfl, d, c, by funext z; unfold GH.put; split <;> simp_all, hd, hc0, by (first | with_reducible assumption | exact Nat.lt_of_lt_of_le (by assumption) (by decide) | exact Nat.lt_of_le_of_lt (by assumption) (by decide) | lia | omega)⟩
  · rintro ρ₁ G₁ ⟨rfl, d, c, rfl, hd, hc0, hc1⟩
    have hm0 : (many : Int) ≠ 0 := by (first | with_reducible assumption | exact Nat.lt_of_lt_of_le (by assumption) (by decide) | exact Nat.lt_of_le_of_lt (by assumption) (by decide) | lia | omega)
    refine SX_next (S1_name (by rfl) (tab_inj (by rfl)) (EX_bin (EX_index (EX_name (by rfl) (by rfl) (EX_int ⟨_, _, _, .live GH.put_self, rfl, by decide, rfl, EX_name (by rfl) (by rfl) (OP_mod ⟨rfl, ?_⟩ hm0)⟩)))))
    refine SX_next (S1_assign (EX_bin (EX_index (EX_name (by rfl) (by rfl) (EX_int ⟨_, _, _, .live GH.put_self, rfl, by decide, rfl, EX_name (by rfl) (by rfl) (OP_fdiv (AX_subL (EX_name (by rfl) (by rfl) (EX_int ⟨b, [.int d, .int s, .int c], _, rfl, GH.put_self, rfl, by decide, (by show (0 : Int) < 3; decide), by decide, rfl, ?_⟩))) hm0 (by (first | with_reducible assumption | exact Nat.lt_of_lt_of_le (by assumption) (by decide) | exact Nat.lt_of_le_of_lt (by assumption) (by decide) | lia | omega)))⟩)))) (fun _ _ => swapsWith_plain rfl) (fun _ _ => rfl) rfl)
    rw [put_put]
    have h1 : 0 ≤ d.fmod (many : Nat) := Int.fmod_nonneg_of_pos _ (by (first | with_reducible assumption | exact Nat.lt_of_lt_of_le (by assumption) (by decide) | exact Nat.lt_of_le_of_lt (by assumption) (by decide) | lia | omega))
    have h2 : d.fmod (many : Nat) < (many : Nat) := Int.fmod_lt_of_pos _ (by (first | with_reducible assumption | exact Nat.lt_of_lt_of_le (by assumption) (by decide) | exact Nat.lt_of_le_of_lt (by assumption) (by decide) | lia | omega))
    refine SX_ret (EX_name (by rfl) (by rfl) ?_)
    have := q (d.fmod (many : Nat)).toNat [.int (d.fdiv (many : Nat)), .int s, .int c] (by (first | with_reducible assumption | exact Nat.lt_of_lt_of_le (by assumption) (by decide) | exact Nat.lt_of_le_of_lt (by assumption) (by decide) | lia | omega)) ⟨_, _, _, rfl, Int.fdiv_nonneg hd (by (first | with_reducible assumption | exact Nat.lt_of_lt_of_le (by assumption) (by decide) | exact Nat.lt_of_le_of_lt (by assumption) (by decide) | lia | omega)), hs0, hs1, hc0, hc1⟩
    rw [Int.toNat_of_nonneg h1] at this
    exact this
theorem w_tape (C : Ctx w K a) {ns : List Int} (hn : ns.length ≤ 63) (q : ∀ b l, G b = none → Tp l 0 → Q (.ref b) (G.put b (.list l))) : FN prog w K 1 G a.tape [.list (ns.map .int)] Q := by
  refine C.d_tape.fn C.ok (by rfl) (by rfl) ?_
  show SX _ _ _ _ _ _ [some (.list (ns.map .int)), none, none, none] _ _ _
  refine SX_next (S1_tuple rfl (EX_tuple (EX_int (EX_int ⟨by decide, _, rfl, rfl, AX_name (by rfl) (tab_inj (by rfl)) (AX_name (by rfl) (tab_inj (by rfl)) ⟨rfl, ?_⟩)⟩))) rfl (by intro env e; cases env; cases e; rfl))
  let J : Nat → Loc → GH → Prop := fun i ρ G' => ∃ (x s : Int) (d : Option D), ρ = [some (.list (ns.map .int)), some (.int x), some (.int s), d] ∧ G' = G ∧ 0 ≤ x ∧ 0 ≤ s ∧ s < 1000000007
  refine SX_seq (J (pickD (ns.map .int) none (some 63)).length) (S1_for (SRC_list (EX_slice (EX_name (by rfl) (by rfl) (EX_int ⟨_, rfl, _, .frozen, ?_, _, rfl, ?_⟩))))) ?_
  · rw [List.length_map]; (first | with_reducible assumption | exact Nat.lt_of_lt_of_le (by assumption) (by decide) | exact Nat.lt_of_le_of_lt (by assumption) (by decide) | lia | omega)
  · refine ForX_ind J (fun i d ρ G2 hi hJ => ?_) (fun ρ G2 hJ => ⟨rfl, hJ⟩) ⟨0, 0, none, rfl, rfl, by decide, by decide, by decide⟩
    have hm : d ∈ ns.map D.int := List.mem_of_mem_drop (List.mem_of_mem_take (List.mem_of_getElem? hi))
    obtain ⟨c, _, rfl⟩ := List.mem_map.mp hm
    obtain ⟨x, s, d, rfl, rfl, hx, hs0, hs1⟩ := hJ
    refine AX_name (by rfl) (tab_inj (by rfl)) ?_
    show SX _ _ _ _ _ _ [some (.list (ns.map .int)), some (.int x), some (.int s), some (.int c)] _ _ _
    refine SX_next (S1_name (by rfl) (tab_inj (by rfl)) (EX_bin (EX_bin (EX_name (by rfl) (by rfl) (EX_int (OP_mul (EX_call (C.cb (by rfl) (by rfl) (by rfl)) (.builtin _) (EX_call (C.cb (by rfl) (by rfl) (by rfl)) (.type _) (EX_name (by rfl) (by rfl) (OP_int (OP_abs (OP_add ⟨rfl, ?_⟩)))))) (IntMulOk.of_right (by decide))))))))
    refine SX_next (S1_name (by rfl) (tab_inj (by rfl)) (EX_bin (EX_bin (EX_bin (EX_name (by rfl) (by rfl) (EX_int (OP_mul (EX_call (C.cb (by rfl) (by rfl) (by rfl)) (.type _) (EX_name (by rfl) (by rfl) (OP_int (OP_add (EX_int (OP_mod ⟨rfl, ?_⟩ (by decide))))))) (IntMulOk.of_right (by decide)))))))))
    refine SX_nil ⟨fun _ => ⟨_, _, _, rfl, rfl, ?_, Int.fmod_nonneg_of_pos _ (by decide), Int.fmod_lt_of_pos _ (by decide)⟩, fun _ e => (nomatch e)⟩
    split <;> lia
  · rintro ρ₁ G₁ ⟨x, s, d, rfl, rfl, hx, hs0, hs1⟩
    exact SX_ret (EX_listG (EX_name (by rfl) (by rfl) (EX_name (by rfl) (by rfl) (EX_int ⟨(by show 3 < 2 ^ 20; decide), fun b hb => q b _ hb ⟨x, s, 0, rfl, hx, hs0, hs1, by decide, by decide⟩⟩))))
end
theorem put_comm {G : GH} {b c : Addr} {x y : Cell} (h : b ≠ c) : (G.put b x).put c y = (G.put c y).put b x := by
  funext z; unfold GH.put
  by_cases e1 : z = c
  · subst e1; rw [if_pos rfl, if_neg (fun q => h q.symm), if_pos rfl]
  · rw [if_neg e1]
    by_cases e2 : z = b
    · rw [if_pos e2, if_pos e2]
    · rw [if_neg e2, if_neg e2, if_neg e1]
structure Drawn (ps : Pr) (m t : Nat) : Prop where
  len : ps.length = m
  left : ∀ p ∈ ps, p.1 ∈ upN
  part : ∀ p ∈ ps, ∀ x ∈ p.2, x ∈ allN
  few : ∀ p ∈ ps, p.2.length ≤ 3
  sum : (ps.map fun p => p.2.length).sum ≤ t
theorem Drawn.add {ps : Pr} {m t j : Nat} (h : Drawn ps m t) {p : Str × List Str} (h1 : p.1 ∈ upN) (h2 : ∀ x ∈ p.2, x ∈ allN) (h3 : p.2.length ≤ j) (hj : j ≤ 3) : Drawn (ps ++ [p]) (m + 1) (t + j) := by
  refine ⟨by rw [List.length_append, h.len]; rfl, fun q m => ?_, fun q m => ?_, fun q m => ?_, ?_⟩
  · rcases List.mem_append.mp m with m | m
    · exact h.left q m
    · rw [List.mem_singleton.mp m]; exact h1
  · rcases List.mem_append.mp m with m | m
    · exact h.part q m
    · rw [List.mem_singleton.mp m]; exact h2
  · rcases List.mem_append.mp m with m | m
    · exact h.few q m
    · rw [List.mem_singleton.mp m]; (first | with_reducible assumption | exact Nat.lt_of_lt_of_le (by assumption) (by decide) | exact Nat.lt_of_le_of_lt (by assumption) (by decide) | lia | omega)
  · rw [List.map_append, List.sum_append]
    have := h.sum
    simp only [List.map_cons, List.map_nil, List.sum_cons, List.sum_nil]
    (first | with_reducible assumption | exact Nat.lt_of_lt_of_le (by assumption) (by decide) | exact Nat.lt_of_le_of_lt (by assumption) (by decide) | lia | omega)
section
variable {prog : Program} {w : World} {K : Frag} {a : Ad} {n : Nat} {sc : Scope} {tab : Tab} {ρ : Loc} {G G' : GH} {Q : D → GH → Prop}
theorem pick_up {i : Nat} (h : i < 3) : pickD (strL upN) none (some (1 + (i : Int))) = strL (upN.take (i + 1)) := by
  rcases i with _ | _ | _ | i
  · rfl
  · rfl
  · rfl
  · (first | with_reducible assumption | exact Nat.lt_of_lt_of_le (by assumption) (by decide) | exact Nat.lt_of_le_of_lt (by assumption) (by decide) | lia | omega)
theorem item_str {l : List Str} {i : Nat} (h : i < l.length) : ∃ x ∈ l, itemAt (strL l) (i : Nat) = some (.str x) := by
  refine ⟨l[i], List.getElem_mem h, ?_⟩
  unfold itemAt strL
  rw [if_pos (Int.natCast_nonneg _), Int.toNat_natCast, List.getElem?_map, List.getElem?_eq_getElem h]; rfl
set_option tactic.hygienic true in
theorem draw_list (C : Ctx w K a) {b : Addr} {sg : List Str} {lt : List D} {k m : Nat} {pS pD p1 p2 p3 p4 p5 p6 p7 : Pos} {d0 : Option D} {Q' : List D → GH → Prop}
    (htab : tab = tab__law_pairs_c1) (hd : sc.names.lookup ("_law_draw" : Str) = some .globalImplicit) (hl : sc.names.lookup ("len" : Str) = some .globalImplicit) (hb : G b = some (.list lt)) (hT : Tp lt k) (hk : k + m < 2 ^ 19) (hm : m ≤ 3) (hsg : 0 < sg.length) (hsz : sg.length < 100) (hall : ∀ x ∈ sg, x ∈ allN)
    (q : ∀ (xs : List Str) (lt' : List D), (∀ x ∈ xs, x ∈ allN) → xs.length = m → Tp lt' (k + m) → Q' (strL xs) (G.put b (.list lt'))) :
    CompX prog w K (n + 1) sc tab (.Name "spot" p1) [] (.Subscript (.Name "signs" p2) (.Call (.Name "_law_draw" p3) [.Name "tape" p4, .Call (.Name "len" p5) [.Name "signs" p6] [] p7] [] pD) pS) Q' ((List.range m).map fun i => D.int (i : Nat)) [] [d0, some (.list (strL sg)), some (.ref b)] G := by
  subst htab
  refine CompX_ind (fun i acc ρ G' => ∃ (xs : List Str) (lt' : List D) (d : Option D), acc = strL xs ∧ xs.length = i ∧ (∀ x ∈ xs, x ∈ allN) ∧ Tp lt' (k + i) ∧ G' = G.put b (.list lt') ∧ ρ = [d, some (.list (strL sg)), some (.ref b)]) (fun i d acc ρ G' hi hJ => ?_) (fun acc ρ G' hJ => ?_) ⟨[], lt, d0, rfl, rfl, fun x m => (by cases m), hT, ?_, rfl⟩
  · obtain ⟨xs, lt', d', rfl, hx, hxa, hT', rfl, rfl⟩ := hJ
    have him := (range_item hi).2
    refine AX_name (by rfl) (tab_inj (by rfl)) (EX_index (EX_name (by rfl) (by rfl) (EX_call (C.cg hd (by rfl) (by rfl)) (.of C.d_draw.keep) (EX_name (by rfl) (by rfl) (EX_call (C.cb hl (by rfl) (by rfl)) (.builtin _) (EX_name (by rfl) (by rfl) (OP_len .list (by rw [strL_len]; (first | with_reducible assumption | exact Nat.lt_of_lt_of_le (by assumption) (by decide) | exact Nat.lt_of_le_of_lt (by assumption) (by decide) | lia | omega)) ?_)))))))
    rw [strL_len sg]
    refine FN.op (FN.le (n := n + 1) (w_draw C GH.put_self hT' (by (first | with_reducible assumption | exact Nat.lt_of_lt_of_le (by assumption) (by decide) | exact Nat.lt_of_le_of_lt (by assumption) (by decide) | lia | omega)) hsg (by (first | with_reducible assumption | exact Nat.lt_of_lt_of_le (by assumption) (by decide) | exact Nat.lt_of_le_of_lt (by assumption) (by decide) | lia | omega)) fun j l2 hj hT2 => ?_) (Nat.succ_le_succ (Nat.zero_le n)))
    obtain ⟨x, hx2, e⟩ := item_str hj
    refine ⟨_, _, _, .list, rfl, by (first | with_reducible assumption | exact Nat.lt_of_lt_of_le (by assumption) (by decide) | exact Nat.lt_of_le_of_lt (by assumption) (by decide) | lia | omega), e, by rw [strL_len]; (first | with_reducible assumption | exact Nat.lt_of_lt_of_le (by assumption) (by decide) | exact Nat.lt_of_le_of_lt (by assumption) (by decide) | lia | omega), xs ++ [x], l2, _, (strL_app xs x).symm, by rw [List.length_append, hx]; rfl, fun y my => ?_, hT2, put_put, rfl⟩
    rcases List.mem_append.mp my with my | my
    · exact hxa y my
    · rw [List.mem_singleton.mp my]; exact hall x hx2
  · obtain ⟨xs, lt', d', rfl, hx, hxa, hT', rfl, rfl⟩ := hJ
    rw [List.length_map, List.length_range] at hx hT'
    exact q xs lt' hxa hx hT'
  · funext z; unfold GH.put; split
    · rename_i e; rw [e]; exact hb
    · rfl
theorem w_pairs (C : Ctx w K a) {b : Addr} {lt : List D} {k : Nat} (hb : G b = some (.list lt)) (hT : Tp lt k) (hk : k + 64 < 2 ^ 18)
    (q : ∀ (ps : Pr) (lt' : List D) (c : Addr) (m : Nat), 1 ≤ m → m ≤ 6 → Drawn ps m 15 → ps.head?.map (·.1) = some ("S" : Str) → Tp lt' (k + 64) → G c = none → Q (.ref c) ((G.put c (.list (pairsL ps))).put b (.list lt'))) : FN prog w K 4 G a.pairs [.ref b] Q := by
  refine C.d_pairs.fn C.ok (by rfl) (by rfl) ?_
  show SX _ _ _ _ _ _ [some (.ref b), none, none, none, none] _ _ _
  refine SX_next (S1_name (by rfl) (tab_inj (by rfl)) (EX_slice (EX_listF (EX_str (EX_str (EX_str ⟨(by show 3 < 2 ^ 20; decide), EX_bin (EX_int (EX_call (C.cg (by rfl) (by rfl) (by rfl)) (.of C.d_draw.keep) (EX_name (by rfl) (by rfl) (EX_int (FN.le (w_draw (many := 3) C hb hT (by (first | with_reducible assumption | exact Nat.lt_of_lt_of_le (by assumption) (by decide) | exact Nat.lt_of_le_of_lt (by assumption) (by decide) | lia | omega)) (by decide) (by decide) fun i l1 hi hT1 => OP_add ⟨_, rfl, strL upN, .frozen, (by show 3 < 2 ^ 20; decide), rfl, ?_⟩) (by decide)).op))))⟩))))))
  rw [pick_up hi]
  have hnl : (upN.take (i + 1)).length = i + 1 := by rw [List.length_take]; show min (i + 1) 3 = _; (first | with_reducible assumption | exact Nat.lt_of_lt_of_le (by assumption) (by decide) | exact Nat.lt_of_le_of_lt (by assumption) (by decide) | lia | omega)
  have hhead : (upN.take (i + 1)).head? = some ("S" : Str) := rfl
  have hsub : ∀ x ∈ upN.take (i + 1), x ∈ upN := fun x m => List.mem_of_mem_take m
  generalize upN.take (i + 1) = nl at hnl hhead hsub
  refine SX_next (S1_name (by rfl) (tab_inj (by rfl)) (EX_bin (EX_listF (EX_str (EX_str (EX_str ⟨(by show 3 < 2 ^ 20; decide), EX_name (by rfl) (by rfl) (OP_addL .frozen .frozen ?_ ⟨rfl, ?_⟩)⟩))))))
  · rw [strL_len]; show 3 + _ < _; (first | with_reducible assumption | exact Nat.lt_of_lt_of_le (by assumption) (by decide) | exact Nat.lt_of_le_of_lt (by assumption) (by decide) | lia | omega)
  have hsg : [D.str "a"] ++ [D.str "b"] ++ [D.str "error"] ++ strL nl = strL ((["a", "b", "error"] : List Str) ++ nl) := by unfold strL; rw [List.map_append]; rfl
  show SX _ _ _ _ _ _ [some (.ref b), some (.list (strL nl)), some (.list ([D.str "a"] ++ [D.str "b"] ++ [D.str "error"] ++ strL nl)), none, none] _ _ _
  rw [hsg]
  have hsl : ((["a", "b", "error"] : List Str) ++ nl).length = i + 4 := by rw [List.length_append, hnl]; show 3 + (i + 1) = _; (first | with_reducible assumption | exact Nat.lt_of_lt_of_le (by assumption) (by decide) | exact Nat.lt_of_le_of_lt (by assumption) (by decide) | lia | omega)
  have hsa : ∀ x ∈ (["a", "b", "error"] : List Str) ++ nl, x ∈ allN := fun x m => by
    rcases List.mem_append.mp m with m | m
    · exact List.mem_append_left (bs := upN) m
    · exact List.mem_append_right (as := (["a", "b", "error"] : List Str)) (hsub x m)
  generalize (["a", "b", "error"] : List Str) ++ nl = sg at hsl hsa
  refine SX_next (S1_compG (i := 3) (tab' := tab__law_pairs_c0) (by rfl) (tab_inj (by rfl)) (comp_ok (by rfl)) (by rfl) (cap_of (by rfl) (by rfl)) (SRC_list (EX_name (by rfl) (by rfl) ⟨_, rfl, ?_⟩)) (by intro _ _; rfl) (swaps_true (by rfl) (by rfl)))
  let J : Nat → List D → Loc → GH → Prop := fun j acc ρ G' => ∃ (ps : Pr) (l2 : List D) (d : Option D), acc = pairsL ps ∧ Drawn ps j (3 * j) ∧ (0 < j → ps.head?.map (·.1) = some ("S" : Str)) ∧ Tp l2 (k + 1 + 4 * j) ∧ G' = G.put b (.list l2) ∧ ρ = [d, some (.ref b), some (.list (strL sg))]
  refine CompX_ind J (fun j d acc ρ G' hj hJ => ?_) (fun acc ρ G' hJ => ?_) ⟨[], l1, none, rfl, ⟨rfl, fun p m => (by cases m), fun p m => (by cases m), fun p m => (by cases m), Nat.le_refl _⟩, fun h => absurd h (Nat.lt_irrefl _), hT1, rfl, rfl⟩
  · obtain ⟨x, hx, rfl⟩ := strL_item hj
    obtain ⟨ps, l2, d', rfl, hD, hS, hT2, rfl, rfl⟩ := hJ
    have hjl := (List.getElem?_eq_some_iff.mp hx).1
    refine AX_name (by rfl) (tab_inj (by rfl)) (EX_tuple (EX_name (by rfl) (by rfl) (EX_comp (tab' := tab__law_pairs_c0_c0) (comp_ok (by rfl)) (by rfl) (cap_of (by rfl) (by rfl)) (SRC_range (C.cb (by rfl) (by rfl) (by rfl)) (EX_call (C.cg (by rfl) (by rfl) (by rfl)) (.of C.d_draw.keep) (EX_name (by rfl) (by rfl) (EX_int (FN.op (FN.le (n := 3) (w_draw (many := 4) C GH.put_self hT2 (by (first | with_reducible assumption | exact Nat.lt_of_lt_of_le (by assumption) (by decide) | exact Nat.lt_of_le_of_lt (by assumption) (by decide) | lia | omega)) (by decide) (by decide) fun m l3 hm hT3 => ⟨m, rfl, by (first | with_reducible assumption | exact Nat.lt_of_lt_of_le (by assumption) (by decide) | exact Nat.lt_of_le_of_lt (by assumption) (by decide) | lia | omega), ?_⟩) (by decide))))))))))
    refine draw_list (n := 2) (m := m) (d0 := none) C (by rfl) (by rfl) (by rfl) GH.put_self hT3 (by (first | with_reducible assumption | exact Nat.lt_of_lt_of_le (by assumption) (by decide) | exact Nat.lt_of_le_of_lt (by assumption) (by decide) | lia | omega)) (by (first | with_reducible assumption | exact Nat.lt_of_lt_of_le (by assumption) (by decide) | exact Nat.lt_of_le_of_lt (by assumption) (by decide) | lia | omega)) (by (first | with_reducible assumption | exact Nat.lt_of_lt_of_le (by assumption) (by decide) | exact Nat.lt_of_le_of_lt (by assumption) (by decide) | lia | omega)) (by (first | with_reducible assumption | exact Nat.lt_of_lt_of_le (by assumption) (by decide) | exact Nat.lt_of_le_of_lt (by assumption) (by decide) | lia | omega)) hsa fun xs l4 hxa hxl hT4 => ⟨(by show 2 < 2 ^ 20; decide), ?_, ps ++ [(x, xs)], l4, _, ?_, ?_, fun _ => ?_, ?_, by rw [put_put, put_put], rfl⟩
    · unfold pairsL; rw [List.length_map, hD.len]; (first | with_reducible assumption | exact Nat.lt_of_lt_of_le (by assumption) (by decide) | exact Nat.lt_of_le_of_lt (by assumption) (by decide) | lia | omega)
    · unfold pairsL; rw [List.map_append]; rfl
    · exact hD.add (p := (x, xs)) (j := 3) (hsub x (List.mem_of_getElem? hx)) hxa (by show xs.length ≤ 3; (first | with_reducible assumption | exact Nat.lt_of_lt_of_le (by assumption) (by decide) | exact Nat.lt_of_le_of_lt (by assumption) (by decide) | lia | omega)) (Nat.le_refl _)
    · cases ps with
      | nil =>
        have : j = 0 := hD.len.symm
        subst this
        rw [← List.head?_eq_getElem?, hhead] at hx
        cases hx; rfl
      | cons p r => exact hS (by have := hD.len; rw [List.length_cons] at this; (first | with_reducible assumption | exact Nat.lt_of_lt_of_le (by assumption) (by decide) | exact Nat.lt_of_le_of_lt (by assumption) (by decide) | lia | omega))
    · obtain ⟨d1, s1, c1, e1, t1, t2, t3, t4, t5⟩ := hT4
      exact ⟨d1, s1, c1, e1, t1, t2, t3, t4, by (first | with_reducible assumption | exact Nat.lt_of_lt_of_le (by assumption) (by decide) | exact Nat.lt_of_le_of_lt (by assumption) (by decide) | lia | omega)⟩
  · obtain ⟨ps, l2, d', rfl, hD, hS, hT2, rfl, rfl⟩ := hJ
    rw [strL_len, hnl] at hD hS hT2
    intro c hc
    have hcb : c ≠ b := by rintro rfl; rw [GH.put_self] at hc; cases hc
    rw [GH.put_ne hcb] at hc
    rw [put_comm hcb.symm]
    refine ⟨rfl, ?_⟩
    let H : List D → Pr → GH := fun l ps => (G.put c (.list (pairsL ps))).put b (.list l)
    have hH1 : ∀ l ps, H l ps b = some (.list l) := fun l ps => GH.put_self
    have hH2 : ∀ l ps, H l ps c = some (.list (pairsL ps)) := fun l ps => by show ((G.put c _).put b _) c = _; rw [GH.put_ne hcb]; exact GH.put_self
    show SX _ _ _ _ _ _ [some (.ref b), some (.list (strL nl)), some (.list (strL sg)), some (.ref c), none] (H l2 ps) _ _
    have hS := hS (by (first | with_reducible assumption | exact Nat.lt_of_lt_of_le (by assumption) (by decide) | exact Nat.lt_of_le_of_lt (by assumption) (by decide) | lia | omega))
    let J2 : Nat → Loc → GH → Prop := fun j ρ G' => ∃ (ps : Pr) (l2 : List D) (d : Option D), ρ = [some (.ref b), some (.list (strL nl)), some (.list (strL sg)), some (.ref c), d] ∧ Drawn ps (i + 1 + j) (3 * (i + 1) + 2 * j) ∧ ps.head?.map (·.1) = some ("S" : Str) ∧ Tp l2 (k + 32 + 4 * j) ∧ G' = H l2 ps
    refine SX_seq (fun ρ G' => ∃ j, j ≤ 3 ∧ J2 j ρ G') (S1_for (SRC_range (C.cb (by rfl) (by rfl) (by rfl)) (EX_call (C.cg (by rfl) (by rfl) (by rfl)) (.of C.d_draw.keep) (EX_name (by rfl) (by rfl) (EX_int (FN.op (FN.le (n := 3) (w_draw (many := 4) C (hH1 l2 ps) hT2 (by (first | with_reducible assumption | exact Nat.lt_of_lt_of_le (by assumption) (by decide) | exact Nat.lt_of_le_of_lt (by assumption) (by decide) | lia | omega)) (by decide) (by decide) fun m l3 hm hT3 => ⟨m, rfl, by (first | with_reducible assumption | exact Nat.lt_of_lt_of_le (by assumption) (by decide) | exact Nat.lt_of_le_of_lt (by assumption) (by decide) | lia | omega), ?_⟩) (by decide)))))))) ?_
    · refine ForX_ind J2 (fun j d ρ G2 hj hJ => ?_) (fun ρ G2 hJ => ⟨rfl, m, by (first | with_reducible assumption | exact Nat.lt_of_lt_of_le (by assumption) (by decide) | exact Nat.lt_of_le_of_lt (by assumption) (by decide) | lia | omega), by rw [List.length_map, List.length_range] at hJ; exact hJ⟩) ⟨ps, l3, none, rfl, ⟨hD.len, hD.left, hD.part, hD.few, by have := hD.sum; (first | with_reducible assumption | exact Nat.lt_of_lt_of_le (by assumption) (by decide) | exact Nat.lt_of_le_of_lt (by assumption) (by decide) | lia | omega)⟩, hS, ?_, by show ((G.put c _).put b _).put b _ = (G.put c _).put b _; rw [put_put]⟩
      · obtain ⟨rfl, hjm⟩ := range_item hj
        obtain ⟨ps, l4, d', rfl, hD, hS, hT4, rfl⟩ := hJ
        refine AX_name (by rfl) (tab_inj (by rfl)) ?_
        show SX _ _ _ _ _ _ [some (.ref b), some (.list (strL nl)), some (.list (strL sg)), some (.ref c), some (.int (j : Nat))] _ _ _
        refine SX_next (S1_expr (EX_methB PySem.F.slot_list_append PySem.F.plainAttrs_list PySem.F.type_list_append (EX_name (by rfl) (by rfl) ⟨.lst (.live (hH2 l4 ps)), EX_tuple (EX_index (EX_name (by rfl) (by rfl) (EX_call (C.cg (by rfl) (by rfl) (by rfl)) (.of C.d_draw.keep) (EX_name (by rfl) (by rfl) (EX_call (C.cb (by rfl) (by rfl) (by rfl)) (.builtin _) (EX_name (by rfl) (by rfl) (OP_len .list (by rw [strL_len]; (first | with_reducible assumption | exact Nat.lt_of_lt_of_le (by assumption) (by decide) | exact Nat.lt_of_le_of_lt (by assumption) (by decide) | lia | omega)) ?_)))))))⟩)))
        rw [strL_len nl]
        refine FN.op (FN.le (n := 3) (w_draw C (hH1 l4 ps) hT4 (by (first | with_reducible assumption | exact Nat.lt_of_lt_of_le (by assumption) (by decide) | exact Nat.lt_of_le_of_lt (by assumption) (by decide) | lia | omega)) (by (first | with_reducible assumption | exact Nat.lt_of_lt_of_le (by assumption) (by decide) | exact Nat.lt_of_le_of_lt (by assumption) (by decide) | lia | omega)) (by (first | with_reducible assumption | exact Nat.lt_of_lt_of_le (by assumption) (by decide) | exact Nat.lt_of_le_of_lt (by assumption) (by decide) | lia | omega)) fun y l5 hy hT5 => ?_) (by decide))
        obtain ⟨x, hx2, e⟩ := item_str hy
        refine ⟨_, _, _, .list, rfl, by (first | with_reducible assumption | exact Nat.lt_of_lt_of_le (by assumption) (by decide) | exact Nat.lt_of_le_of_lt (by assumption) (by decide) | lia | omega), e, ?_⟩
        refine EX_comp (tab' := tab__law_pairs_c1) (comp_ok (by rfl)) (by rfl) (cap_of (by rfl) (by rfl)) (SRC_range (C.cb (by rfl) (by rfl) (by rfl)) (EX_call (C.cg (by rfl) (by rfl) (by rfl)) (.of C.d_draw.keep) (EX_name (by rfl) (by rfl) (EX_int (FN.op (FN.le (n := 3) (w_draw (many := 3) C GH.put_self hT5 (by (first | with_reducible assumption | exact Nat.lt_of_lt_of_le (by assumption) (by decide) | exact Nat.lt_of_le_of_lt (by assumption) (by decide) | lia | omega)) (by decide) (by decide) fun m2 l6 hm2 hT6 => ⟨m2, rfl, by (first | with_reducible assumption | exact Nat.lt_of_lt_of_le (by assumption) (by decide) | exact Nat.lt_of_le_of_lt (by assumption) (by decide) | lia | omega), ?_⟩) (by decide)))))))
        refine draw_list (n := 2) (m := m2) (d0 := none) C (by rfl) (by rfl) (by rfl) GH.put_self hT6 (by (first | with_reducible assumption | exact Nat.lt_of_lt_of_le (by assumption) (by decide) | exact Nat.lt_of_le_of_lt (by assumption) (by decide) | lia | omega)) (by (first | with_reducible assumption | exact Nat.lt_of_lt_of_le (by assumption) (by decide) | exact Nat.lt_of_le_of_lt (by assumption) (by decide) | lia | omega)) (by (first | with_reducible assumption | exact Nat.lt_of_lt_of_le (by assumption) (by decide) | exact Nat.lt_of_le_of_lt (by assumption) (by decide) | lia | omega)) (by (first | with_reducible assumption | exact Nat.lt_of_lt_of_le (by assumption) (by decide) | exact Nat.lt_of_le_of_lt (by assumption) (by decide) | lia | omega)) hsa fun xs l7 hxa hxl hT7 => ⟨(by show 2 < 2 ^ 20; decide), ?_⟩
        rw [put_put, put_put]
        have e1 : (H l4 ps).put b (.list l7) = H l7 ps := by show ((G.put c _).put b _).put b _ = (G.put c _).put b _; rw [put_put]
        rw [e1]
        refine OP_append (hH2 l7 ps) (by unfold pairsL; rw [List.length_map, hD.len]; (first | with_reducible assumption | exact Nat.lt_of_lt_of_le (by assumption) (by decide) | exact Nat.lt_of_le_of_lt (by assumption) (by decide) | lia | omega)) ⟨rfl, rfl, SX_nil ⟨fun _ => ⟨ps ++ [(x, xs)], l7, _, rfl, hD.add (p := (x, xs)) (j := 2) (hsub x hx2) hxa (by show xs.length ≤ 2; (first | with_reducible assumption | exact Nat.lt_of_lt_of_le (by assumption) (by decide) | exact Nat.lt_of_le_of_lt (by assumption) (by decide) | lia | omega)) (by decide), ?_, ?_, ?_⟩, fun _ e => (nomatch e)⟩⟩
        · cases ps with
          | nil => cases hS
          | cons p r => exact hS
        · obtain ⟨d1, s1, c1, e1, t1, t2, t3, t4, t5⟩ := hT7
          exact ⟨d1, s1, c1, e1, t1, t2, t3, t4, by (first | with_reducible assumption | exact Nat.lt_of_lt_of_le (by assumption) (by decide) | exact Nat.lt_of_le_of_lt (by assumption) (by decide) | lia | omega)⟩
        · show ((G.put c _).put b _).put c _ = (G.put c _).put b _
          rw [put_comm hcb.symm, put_put]
          unfold pairsL; rw [List.map_append]; rfl
      · obtain ⟨d1, s1, c1, e1, t1, t2, t3, t4, t5⟩ := hT3
        exact ⟨d1, s1, c1, e1, t1, t2, t3, t4, by (first | with_reducible assumption | exact Nat.lt_of_lt_of_le (by assumption) (by decide) | exact Nat.lt_of_le_of_lt (by assumption) (by decide) | lia | omega)⟩
    · rintro ρ₁ G₁ ⟨j, hj, ps, l3, d, rfl, hD, hS, hT, rfl⟩
      refine SX_ret (EX_name (by rfl) (by rfl) (q ps l3 c (i + 1 + j) (by (first | with_reducible assumption | exact Nat.lt_of_lt_of_le (by assumption) (by decide) | exact Nat.lt_of_le_of_lt (by assumption) (by decide) | lia | omega)) (by (first | with_reducible assumption | exact Nat.lt_of_lt_of_le (by assumption) (by decide) | exact Nat.lt_of_le_of_lt (by assumption) (by decide) | lia | omega)) ⟨hD.len, hD.left, hD.part, hD.few, by have := hD.sum; (first | with_reducible assumption | exact Nat.lt_of_lt_of_le (by assumption) (by decide) | exact Nat.lt_of_le_of_lt (by assumption) (by decide) | lia | omega)⟩ hS ?_ hc))
      obtain ⟨d1, s1, c1, e1, t1, t2, t3, t4, t5⟩ := hT
      exact ⟨d1, s1, c1, e1, t1, t2, t3, t4, by (first | with_reducible assumption | exact Nat.lt_of_lt_of_le (by assumption) (by decide) | exact Nat.lt_of_le_of_lt (by assumption) (by decide) | lia | omega)⟩
end
section
variable {prog : Program} {w : World} {K : Frag} {a : Ad} {n : Nat} {sc : Scope} {tab : Tab} {ρ : Loc} {G G' : GH} {Q : D → GH → Prop} {g : Gr} {N : Nat} {xs : List Nat}
noncomputable def movL (rows : List Mv) : List D := rows.map fun r => .dict (movD r)
theorem movL_item {rows : List Mv} {i : Nat} (h : i < rows.length) : itemAt (movL rows) (i : Nat) = some (.dict (movD (rows.getD i []))) := by
  unfold itemAt movL
  rw [if_pos (Int.natCast_nonneg _), Int.toNat_natCast, List.getElem?_map, List.getD_eq_getElem?_getD, List.getElem?_eq_getElem h]; rfl
theorem on_last {l : List Int} {m : Nat} (o : On N l m) (hl : l ≠ []) : itemAt (l.map D.int) (-1) = some (.int (m : Nat)) := by
  have hp := List.length_pos_iff.mpr hl
  unfold itemAt
  rw [if_neg (by decide), List.length_map, if_pos (by (first | with_reducible assumption | exact Nat.lt_of_lt_of_le (by assumption) (by decide) | exact Nat.lt_of_le_of_lt (by assumption) (by decide) | lia | omega)), List.getElem?_map]
  have e1 : (-1 + (l.length : Int)).toNat = l.length - 1 := by (first | with_reducible assumption | exact Nat.lt_of_lt_of_le (by assumption) (by decide) | exact Nat.lt_of_le_of_lt (by assumption) (by decide) | lia | omega)
  have e2 : l[l.length - 1]? = some ((m : Nat) : Int) := by
    rw [← List.getLast?_eq_getElem?]
    have := o.2.1
    rw [List.getLastD_eq_getLast?] at this
    cases z : l.getLast? with
    | none => rw [List.getLast?_eq_none_iff] at z; exact absurd z hl
    | some v => rw [z] at this; exact congrArg some this
  rw [e1, e2]; rfl
theorem off_last {l r : List Int} (o : Off l r) : itemAt (l.map D.int) (-1) = some (.int (-1)) := by
  unfold itemAt
  rw [o.1, if_neg (by decide), List.length_map, List.length_append, List.length_singleton, if_pos (by (first | with_reducible assumption | exact Nat.lt_of_lt_of_le (by assumption) (by decide) | exact Nat.lt_of_le_of_lt (by assumption) (by decide) | lia | omega)), List.getElem?_map]
  have e1 : (-1 + ((r.length + 1 : Nat) : Int)).toNat = r.length := by (first | with_reducible assumption | exact Nat.lt_of_lt_of_le (by assumption) (by decide) | exact Nat.lt_of_le_of_lt (by assumption) (by decide) | lia | omega)
  rw [e1, List.getElem?_append_right (Nat.le_refl _), Nat.sub_self]; rfl
noncomputable def leR (g : Gr) (N s : Nat) (xs : List Nat) (y0 y1 : Option D) : Loc := [some (.list (movL (bfs g N).2)), some (.int (s : Nat)), some (.list (intL xs)), y0, y1]
theorem w_led (C : Ctx w K a) (hN : N < 2 ^ 20) (hE : End g N) {s : Nat} (hs : s < N) (hz : xs.length < 1000) (q : Q (.list ((ledF g N s xs).map .int)) G) : FN prog w K 1 G a.led [.list (movL (bfs g N).2), .int (s : Nat), .list (intL xs)] Q := by
  refine FN.retL (C.d_led.fn C.ok (by rfl) (by rfl) ?_)
  show SX _ _ _ _ _ _ (leR g N s xs none none) _ _ _
  refine SX_next (S1_name (by rfl) (tab_inj (by rfl)) (EX_listG (EX_name (by rfl) (by rfl) ⟨by show 1 < 2 ^ 20; decide, fun b hb => ⟨rfl, ?_⟩⟩)))
  let J : Nat → Loc → GH → Prop := fun i => Ex1P (fun d => (leR g N s xs (some (.ref b)) d)) (G.put b (.list ((ledF g N s (xs.take i)).map .int))) ((ledF g N s (xs.take i)).length ≤ i + 1 ∧ ((∃ m, On N (ledF g N s (xs.take i)) m ∧ ledF g N s (xs.take i) ≠ []) ∨ ∃ r, Off (ledF g N s (xs.take i)) r))
  refine SX_cons (S1_for (SRC_list (EX_name (by rfl) (by rfl) ⟨_, rfl, ?_⟩)))
  refine ForX_ind J (fun i d ρ G' hi hJ => ?_) (fun ρ G' hJ => ⟨fun _ => ?_, fun _ e => (nomatch e)⟩) ⟨none, rfl, rfl, Nat.le_refl _, .inl ⟨s, ⟨hs, rfl, fun x m => ?_⟩, by simp [ledF]⟩⟩
  · obtain ⟨x, hx, rfl⟩ := intL_item hi
    obtain ⟨d, rfl, rfl, hl, hO⟩ := hJ
    have hst := led_take (g := g) (n := N) (s := s) hx
    have hil := (List.getElem?_eq_some_iff.mp hx).1
    generalize ledF g N s (xs.take i) = l at *
    refine AX_name (by rfl) (tab_inj (by rfl)) ?_
    show SX _ _ _ _ _ _ (leR g N s xs (some (.ref b)) (some (.int (x : Nat)))) _ _ _
    rcases hO with ⟨m, o, hne⟩ | ⟨r, o⟩
    · obtain ⟨h1, h2⟩ := led_on (x := x) hE o
      refine SX_next (S1_if (TX_cmp (EX_index (EX_name (by rfl) (by rfl) (EX_neg ⟨_, _, _, .live GH.put_self, rfl, by decide, on_last o hne, EX_int (OP_ge ⟨_, rfl, fun _ => ?_, fun hc => absurd (Int.natCast_nonneg m) (of_decide_eq_false hc)⟩)⟩)))))
      refine SX_next (S1_expr (EX_methB PySem.F.slot_list_append PySem.F.plainAttrs_list PySem.F.type_list_append (EX_name (by rfl) (by rfl) ⟨.lst (.live GH.put_self), EX_methB PySem.F.slot_dict_get PySem.F.plainAttrs_dict PySem.F.type_dict_get (EX_index (EX_name (by rfl) (by rfl) (EX_index (EX_name (by rfl) (by rfl) (EX_neg ⟨_, _, _, .live GH.put_self, rfl, by decide, on_last o hne, ⟨_, _, _, .list, rfl, by have := o.1; (first | with_reducible assumption | exact Nat.lt_of_lt_of_le (by assumption) (by decide) | exact Nat.lt_of_le_of_lt (by assumption) (by decide) | lia | omega), movL_item (by rw [bfs_rows]; exact o.1), .dic .frozen, EX_name (by rfl) (by rfl) (EX_neg (OP_get C.ok.sys .frozen ?_))⟩⟩)))))⟩)))
      have hg : (lookD (movD ((bfs g N).2.getD m [])) (x : Nat)).getD (.int (-1)) = .int (goX g N m x) := lookD_mov x _
      rw [hg]
      refine OP_append GH.put_self (by rw [List.length_map]; (first | with_reducible assumption | exact Nat.lt_of_lt_of_le (by assumption) (by decide) | exact Nat.lt_of_le_of_lt (by assumption) (by decide) | lia | omega)) ⟨rfl, rfl, SX_nil ⟨rfl, SX_nil ⟨fun _ => ⟨_, rfl, ?_, ?_, ?_⟩, fun _ e => (nomatch e)⟩⟩⟩
      · rw [put_put, hst, h1, List.map_append]; rfl
      · rw [hst, h1, List.length_append]; show _ + 1 ≤ _; (first | with_reducible assumption | exact Nat.lt_of_lt_of_le (by assumption) (by decide) | exact Nat.lt_of_le_of_lt (by assumption) (by decide) | lia | omega)
      · rw [hst, h1]
        rcases h2 with ⟨_, h2⟩ | ⟨k, _, h2⟩
        · exact .inr ⟨_, h2⟩
        · exact .inl ⟨k, h2, by simp⟩
    · have h1 := led_off (g := g) (n := N) (x := x) o
      refine SX_next (S1_if (TX_cmp (EX_index (EX_name (by rfl) (by rfl) (EX_neg ⟨_, _, _, .live GH.put_self, rfl, by decide, off_last o, EX_int (OP_ge ⟨_, rfl, fun hc => absurd (of_decide_eq_true hc) (by decide), fun _ => ?_⟩)⟩)))))
      refine SX_nil ⟨rfl, SX_nil ⟨fun _ => ⟨_, rfl, by rw [hst, h1], by rw [hst, h1]; (first | with_reducible assumption | exact Nat.lt_of_lt_of_le (by assumption) (by decide) | exact Nat.lt_of_le_of_lt (by assumption) (by decide) | lia | omega), by rw [hst, h1]; exact .inr ⟨r, o⟩⟩, fun _ e => (nomatch e)⟩⟩
  · obtain ⟨d, rfl, rfl, hl, hO⟩ := hJ
    rw [intL_len, List.take_length]
    exact SX_ret (EX_name (by rfl) (by rfl) ⟨b, _, rfl, hb, rfl, q⟩)
  · rw [List.mem_singleton.mp m]; exact Int.natCast_nonneg _
end
noncomputable def pairN (p : Nat × Nat) : D := .tup [.int (p.1 : Nat), .int (p.2 : Nat)]
noncomputable def pairL (l : List (Nat × Nat)) : List D := l.map pairN
noncomputable def toI (p : Nat × Nat) : Int × Int := ((p.1 : Nat), (p.2 : Nat))
theorem pairL_I (l : List (Nat × Nat)) : (l.map toI).map pairD = pairL l := by unfold pairL; rw [List.map_map]; rfl
theorem pairL_len (l : List (Nat × Nat)) : (pairL l).length = l.length := List.length_map ..
theorem pairL_app (l m : List (Nat × Nat)) : pairL (l ++ m) = pairL l ++ pairL m := List.map_append ..
theorem srt_I {l : List (Nat × Nat)} (hb : ∀ p ∈ l, p.2 < 1048576) {ks : List (Int × Int)} (hp : ks.Perm (l.map toI)) (hs : (ks.map pkey).Pairwise (· ≤ ·)) : ks = (srt l).map toI := by
  have back : ks = (ks.map fun z => (z.1.toNat, z.2.toNat)).map toI := by
    rw [List.map_map]
    have : ks.map (toI ∘ fun z => (z.1.toNat, z.2.toNat)) = ks.map id := List.map_congr_left fun z m => by
      obtain ⟨p, mp, e⟩ := List.mem_map.mp (hp.mem_iff.mp m)
      rw [← e]; rfl
    rw [this, List.map_id]
  have hp2 : (ks.map fun z => (z.1.toNat, z.2.toNat)).Perm l := by
    have := hp.map fun z : Int × Int => (z.1.toNat, z.2.toNat)
    rw [List.map_map] at this
    have e : l.map ((fun z : Int × Int => (z.1.toNat, z.2.toNat)) ∘ toI) = l.map id := List.map_congr_left fun p _ => rfl
    rw [e, List.map_id] at this
    exact this
  have hs2 : (ks.map fun z => (z.1.toNat, z.2.toNat)).Pairwise (fun p q => pk p ≤ pk q) := by
    have h : ((ks.map fun z => (z.1.toNat, z.2.toNat)).map toI).map pkey = ks.map pkey := by rw [← back]
    rw [← h, List.map_map, List.pairwise_map] at hs
    refine hs.imp fun {p q} h => ?_
    have h : ((p.1 : Nat) : Int) * 1048576 + (p.2 : Nat) ≤ ((q.1 : Nat) : Int) * 1048576 + (q.2 : Nat) := h
    unfold pk; (first | with_reducible assumption | exact Nat.lt_of_lt_of_le (by assumption) (by decide) | exact Nat.lt_of_le_of_lt (by assumption) (by decide) | lia | omega)
  rw [back, pairs_uniq (hp2.trans (srt_perm l).symm) hs2 (srt_sorted l) fun p m => hb p (hp2.mem_iff.mp m)]
noncomputable def ruleP (r : Nat × List Nat × Int) : D := .tup [.int (r.1 : Nat), .list (intL r.2.1)]
noncomputable def rulesL (g : Gr) : List D := g.rules.map ruleP
theorem ruleP_item {g : Gr} {i : Nat} (h : i < g.rules.length) : itemAt (rulesL g) (i : Nat) = some (.tup [.int (g.left i : Nat), .list (intL (g.right i))]) := by
  unfold itemAt rulesL
  rw [if_pos (Int.natCast_nonneg _), Int.toNat_natCast, List.getElem?_map, List.getElem?_eq_getElem h]
  have : g.rules.getD i (0, [], 0) = g.rules[i] := by rw [List.getD_eq_getElem?_getD, List.getElem?_eq_getElem h]; rfl
  unfold Gr.left Gr.right
  rw [this]; rfl
theorem pick_one (l : List Nat) (d : Nat) : pickD (intL l) (some (d : Nat)) (some ((d : Nat) + 1)) = intL (match l[d]? with | some x => [x] | none => []) := by
  unfold pickD kms_lo kms_hi
  dsimp only
  rw [if_neg (by (first | with_reducible assumption | exact Nat.lt_of_lt_of_le (by assumption) (by decide) | exact Nat.lt_of_le_of_lt (by assumption) (by decide) | lia | omega)), if_neg (by (first | with_reducible assumption | exact Nat.lt_of_lt_of_le (by assumption) (by decide) | exact Nat.lt_of_le_of_lt (by assumption) (by decide) | lia | omega)), intL_len, Int.toNat_natCast]
  have e : (((d : Nat) : Int) + 1).toNat = d + 1 := by (first | with_reducible assumption | exact Nat.lt_of_lt_of_le (by assumption) (by decide) | exact Nat.lt_of_le_of_lt (by assumption) (by decide) | lia | omega)
  rw [e]
  unfold intL
  by_cases h : d < l.length
  · rw [Nat.min_eq_left (Nat.le_of_lt h), Nat.min_eq_left h, List.getElem?_eq_getElem h, show d.succ - d = 1 by (first | with_reducible assumption | exact Nat.lt_of_lt_of_le (by assumption) (by decide) | exact Nat.lt_of_le_of_lt (by assumption) (by decide) | lia | omega), ← List.map_drop, ← List.map_take, List.drop_eq_getElem_cons h]; rfl
  · rw [List.getElem?_eq_none (by (first | with_reducible assumption | exact Nat.lt_of_lt_of_le (by assumption) (by decide) | exact Nat.lt_of_le_of_lt (by assumption) (by decide) | lia | omega)), Nat.min_eq_right (by (first | with_reducible assumption | exact Nat.lt_of_lt_of_le (by assumption) (by decide) | exact Nat.lt_of_le_of_lt (by assumption) (by decide) | lia | omega)), List.drop_of_length_le (by rw [List.length_map]; (first | with_reducible assumption | exact Nat.lt_of_lt_of_le (by assumption) (by decide) | exact Nat.lt_of_le_of_lt (by assumption) (by decide) | lia | omega)), List.take_nil]; rfl
theorem pick_take (l : List Nat) (d : Nat) (h : d ≤ l.length) : pickD (intL l) none (some (d : Nat)) = intL (l.take d) := by
  unfold pickD kms_lo kms_hi
  dsimp only
  rw [if_neg (by (first | with_reducible assumption | exact Nat.lt_of_lt_of_le (by assumption) (by decide) | exact Nat.lt_of_le_of_lt (by assumption) (by decide) | lia | omega)), intL_len, Int.toNat_natCast, Nat.min_eq_left h, List.drop_zero, Nat.sub_zero]
  unfold intL; rw [List.map_take]
noncomputable def ded (l : List Nat) : List Nat := (l.zipIdx.filter fun z => decide (z.1 ∉ l.take z.2)).map (·.1)
theorem ded_snoc (l : List Nat) (x : Nat) : ded (l ++ [x]) = if x ∈ l then ded l else ded l ++ [x] := by
  unfold ded
  rw [List.zipIdx_append, List.filter_append, List.map_append]
  have e1 : l.zipIdx.filter (fun z => decide (z.1 ∉ (l ++ [x]).take z.2)) = l.zipIdx.filter fun z => decide (z.1 ∉ l.take z.2) := List.filter_congr fun z m => by
    have := (List.mem_zipIdx m).2.1
    rw [List.take_append_of_le_length (by (first | with_reducible assumption | exact Nat.lt_of_lt_of_le (by assumption) (by decide) | exact Nat.lt_of_le_of_lt (by assumption) (by decide) | lia | omega))]
  rw [e1]
  have e2 : ([x].zipIdx (0 + l.length)) = [(x, l.length)] := by simp
  rw [e2]
  by_cases h : x ∈ l
  · rw [if_pos h, List.filter_cons_of_neg (by simp [h])]; simp
  · rw [if_neg h, List.filter_cons_of_pos (by simp [h])]; rfl
theorem ded_spec : ∀ (n : Nat) (l : List Nat), l.length = n → (ded l).Nodup ∧ ∀ x, x ∈ ded l ↔ x ∈ l
  | 0, l, h => by rw [List.length_eq_zero_iff.mp h]; exact ⟨List.nodup_nil, fun x => Iff.rfl⟩
  | n + 1, l, h => by
    obtain ⟨l', x, rfl⟩ : ∃ l' x, l = l' ++ [x] := by
      rcases List.eq_nil_or_concat l with e | ⟨l', x, e⟩
      · rw [e] at h; cases h
      · exact ⟨l', x, by rw [e, List.concat_eq_append]⟩
    rw [List.length_append] at h
    obtain ⟨h1, h2⟩ := ded_spec n l' (by simpa using h)
    rw [ded_snoc]
    by_cases m : x ∈ l'
    · rw [if_pos m]
      refine ⟨h1, fun y => ?_⟩
      rw [h2, List.mem_append, List.mem_singleton]
      exact ⟨.inl, fun z => z.elim id fun e => e ▸ m⟩
    · rw [if_neg m]
      refine ⟨?_, fun y => ?_⟩
      · rw [List.nodup_append]
        exact ⟨h1, by simp, fun p hp q hq e => by rw [List.mem_singleton.mp hq] at e; rw [e] at hp; exact m ((h2 x).mp hp)⟩
      · rw [List.mem_append, List.mem_append, h2]
theorem ded_sym (g : Gr) (its : List (Nat × Nat)) : sortN (ded (its.filterMap (nxt g))) = symN g its := by
  obtain ⟨h1, h2⟩ := ded_spec _ (its.filterMap (nxt g)) rfl
  refine sortN_uniq ((nodup_perm h1 (symsOf_nodup g its) fun x => ?_).trans (sortN_perm _).symm) (sortN_sorted _)
  rw [h2, symsOf_mem, List.mem_filterMap]
theorem filterMap_nxt (g : Gr) : ∀ (its : List (Nat × Nat)), (its.filter fun p => decide (p.2 < (g.right p.1).length)).map (fun p => D.int ((g.right p.1).getD p.2 0 : Nat)) = intL (its.filterMap (nxt g))
  | [] => rfl
  | p :: its => by
    have ih := filterMap_nxt g its
    by_cases h : p.2 < (g.right p.1).length
    · have e : nxt g p = some ((g.right p.1).getD p.2 0) := by
        unfold nxt; rw [List.getD_eq_getElem?_getD, List.getElem?_eq_getElem h]; rfl
      rw [List.filter_cons_of_pos (p := fun p : Nat × Nat => decide (p.2 < (g.right p.1).length)) (decide_eq_true h), List.map_cons, ih, List.filterMap_cons, e]; rfl
    · have e : nxt g p = none := List.getElem?_eq_none (by (first | with_reducible assumption | exact Nat.lt_of_lt_of_le (by assumption) (by decide) | exact Nat.lt_of_le_of_lt (by assumption) (by decide) | lia | omega))
      rw [List.filter_cons_of_neg (by simpa using h), ih, List.filterMap_cons, e]
section
variable {prog : Program} {w : World} {K : Frag} {a : Ad} {n : Nat} {sc : Scope} {tab : Tab} {ρ : Loc} {G G' : GH} {Q : D → GH → Prop} {g : Gr} {its : List (Nat × Nat)}
theorem OP_srt {d : D} {l : List (Nat × Nat)} (hd : SeqD G d (pairL l)) (hb : ∀ p ∈ l, p.2 < 1048576) (hz : l.length < 64) (q : Q (.list (pairL (srt l))) G) : OP prog w K n G [d] (fun vs => call (.builtin "sorted") vs) Q := by
  refine OP_sortP (ks := l.map toI) (by rw [pairL_I]; exact hd) (fun k m => ?_) (by rw [List.length_map]; exact hz) fun ks hp hs => ?_
  · obtain ⟨p, mp, rfl⟩ := List.mem_map.mp m
    have := hb p mp
    show (0 : Int) ≤ (p.2 : Nat) ∧ ((p.2 : Nat) : Int) < 1048576
    (first | with_reducible assumption | exact Nat.lt_of_lt_of_le (by assumption) (by decide) | exact Nat.lt_of_le_of_lt (by assumption) (by decide) | lia | omega)
  · rw [srt_I hb hp hs, pairL_I]; exact q
theorem its_small {g : Gr} (ok : g.Ok) {l : List (Nat × Nat)} (h : g.Its l) : ∀ p ∈ l, p.2 < 1048576 := fun p m => by
  have := (h p m).bound ok
  (first | with_reducible assumption | exact Nat.lt_of_lt_of_le (by assumption) (by decide) | exact Nat.lt_of_le_of_lt (by assumption) (by decide) | lia | omega)
theorem w_lbehind (C : Ctx w K a) (ok : g.Ok) (hk : g.Its its) (hz : its.length < 64) (q : Q (.list ((symN g its).map fun x => .tup [.int (x : Nat), .list (pairL (behS g its x))])) G) : FN prog w K 1 G a.lbehind [.list (rulesL g), .list (pairL its)] Q := by
  refine C.d_lbehind.fn C.ok (by rfl) (by rfl) ?_
  show SX _ _ _ _ _ _ [some (.list (rulesL g)), some (.list (pairL its)), none, none] _ _ _
  have hpos : ∀ p ∈ its, (p.1 < g.rules.length ∧ p.2 < 2 ^ 60 ∧ p.1 < 2 ^ 60 ∧ (g.right p.1).length < 100) := fun p m => by
    have h := hk p m
    have hb := h.bound ok
    have hnr := ok.nr
    have h1 := h.1
    have hr : (g.right p.1).length ≤ 3 := ok.rl _ (by
      rw [List.getD_eq_getElem?_getD, List.getElem?_eq_getElem h.1]; exact List.getElem_mem _)
    exact ⟨h.1, by (first | with_reducible assumption | exact Nat.lt_of_lt_of_le (by assumption) (by decide) | exact Nat.lt_of_le_of_lt (by assumption) (by decide) | lia | omega), by (first | with_reducible assumption | exact Nat.lt_of_lt_of_le (by assumption) (by decide) | exact Nat.lt_of_le_of_lt (by assumption) (by decide) | lia | omega), by (first | with_reducible assumption | exact Nat.lt_of_lt_of_le (by assumption) (by decide) | exact Nat.lt_of_le_of_lt (by assumption) (by decide) | lia | omega)⟩
  refine SX_next (S1_assign (EX_comp (tab' := tab__law_behind_c0) (comp_ok (by rfl)) (by rfl) (cap_of (by rfl) (by rfl)) (SRC_list (EX_name (by rfl) (by rfl) ⟨_, rfl, ?_⟩))) (swaps_false (by rfl)) (fun _ _ => rfl) rfl)
  refine comp2F (d0 := none) (d1 := none) (rest := [some (.list (rulesL g))]) (l := its) (fun p => decide (p.2 < (g.right p.1).length)) (fun p => D.int ((g.right p.1).getD p.2 0 : Nat)) (by rfl) (by rfl) (tab_inj (by rfl)) (by (first | with_reducible assumption | exact Nat.lt_of_lt_of_le (by assumption) (by decide) | exact Nat.lt_of_le_of_lt (by assumption) (by decide) | lia | omega)) (fun p mp R r => ?_) (fun p mp hc R r => ?_) ?_
  · obtain ⟨h1, h2, h3, h4⟩ := hpos p mp
    refine TX_cmp (EX_name (by rfl) (by rfl) (EX_call (C.cb (by rfl) (by rfl) (by rfl)) (.builtin _) (EX_index (EX_index (EX_name (by rfl) (by rfl) (EX_name (by rfl) (by rfl) ⟨_, _, _, .list, rfl, by (first | with_reducible assumption | exact Nat.lt_of_lt_of_le (by assumption) (by decide) | exact Nat.lt_of_le_of_lt (by assumption) (by decide) | lia | omega), ruleP_item h1, EX_int ⟨_, _, _, .tup, rfl, by decide, rfl, OP_len .list (by rw [intL_len]; (first | with_reducible assumption | exact Nat.lt_of_lt_of_le (by assumption) (by decide) | exact Nat.lt_of_le_of_lt (by assumption) (by decide) | lia | omega)) (OP_lt ⟨_, rfl, ?_⟩)⟩⟩))))))
    rw [intL_len]
    have : decide (((p.2 : Nat) : Int) < ((g.right p.1).length : Nat)) = decide (p.2 < (g.right p.1).length) := by simp
    rw [this]; exact r
  · obtain ⟨h1, h2, h3, h4⟩ := hpos p mp
    have hc := of_decide_eq_true hc
    exact EX_index (EX_index (EX_index (EX_name (by rfl) (by rfl) (EX_name (by rfl) (by rfl) ⟨_, _, _, .list, rfl, by (first | with_reducible assumption | exact Nat.lt_of_lt_of_le (by assumption) (by decide) | exact Nat.lt_of_le_of_lt (by assumption) (by decide) | lia | omega), ruleP_item h1, EX_int ⟨_, _, _, .tup, rfl, by decide, rfl, EX_name (by rfl) (by rfl) ⟨_, _, _, .list, rfl, by (first | with_reducible assumption | exact Nat.lt_of_lt_of_le (by assumption) (by decide) | exact Nat.lt_of_le_of_lt (by assumption) (by decide) | lia | omega), getD_item hc, r⟩⟩⟩))))
  · rw [filterMap_nxt]
    refine AX_name (by rfl) (tab_inj (by rfl)) ⟨rfl, ?_⟩
    have hsl : (its.filterMap (nxt g)).length ≤ its.length := List.length_filterMap_le ..
    have hds := ded_sym g its
    generalize hseq : its.filterMap (nxt g) = seq at hsl hds
    show SX _ _ _ _ _ _ [some (.list (rulesL g)), some (.list (pairL its)), some (.list (intL seq)), none] _ _ _
    refine SX_next (S1_name (by rfl) (tab_inj (by rfl)) (EX_call (C.cb (by rfl) (by rfl) (by rfl)) (.builtin _) (EX_comp (tab' := tab__law_behind_c1) (comp_ok (by rfl)) (by rfl) (cap_of (by rfl) (by rfl)) (SRC_enum (C.cb (by rfl) (by rfl) (by rfl)) (EX_name (by rfl) (by rfl) ⟨_, rfl, ?_⟩)))))
    have hen : ((intL seq).mapIdx fun i d => D.tup [.int (i : Nat), d]) = seq.zipIdx.map fun z => .tup [.int (z.2 : Nat), .int (z.1 : Nat)] := by
      rw [List.mapIdx_eq_zipIdx_map]
      unfold intL
      rw [List.zipIdx_map, List.map_map]; rfl
    rw [hen]
    refine comp2F (d0 := none) (d1 := none) (rest := [some (.list (intL seq))]) (l := seq.zipIdx) (fun z => decide (z.1 ∉ seq.take z.2)) (fun z => D.int (z.1 : Nat)) (by rfl) (by rfl) (tab_inj (by rfl)) (by rw [List.length_zipIdx]; (first | with_reducible assumption | exact Nat.lt_of_lt_of_le (by assumption) (by decide) | exact Nat.lt_of_le_of_lt (by assumption) (by decide) | lia | omega)) (fun z mz R r => ?_) (fun z mz hc R r => EX_name (by rfl) (by rfl) r) ?_
    · have hlt := (List.mem_zipIdx mz).2.1
      refine TX_cmp (EX_name (by rfl) (by rfl) (EX_slice (EX_name (by rfl) (by rfl) (EX_name (by rfl) (by rfl) ⟨_, rfl, _, .frozen, by rw [intL_len]; (first | with_reducible assumption | exact Nat.lt_of_lt_of_le (by assumption) (by decide) | exact Nat.lt_of_le_of_lt (by assumption) (by decide) | lia | omega), ?_⟩))))
      rw [pick_take _ _ (by (first | with_reducible assumption | exact Nat.lt_of_lt_of_le (by assumption) (by decide) | exact Nat.lt_of_le_of_lt (by assumption) (by decide) | lia | omega))]
      refine OP_notIn (k := 0) .list (like_ints _ _) (by decide) fun t ht => ⟨_, rfl, ?_⟩
      have : t = decide (z.1 ∉ seq.take z.2) := by
        rw [Bool.eq_iff_iff, ht, decide_eq_true_iff, mem_intL]
      rw [this]; exact r
    · have hdl : (ded seq).length ≤ seq.length := by
        unfold ded
        rw [List.length_map]
        have := List.length_filter_le (fun z : Nat × Nat => decide (z.1 ∉ seq.take z.2)) seq.zipIdx
        rw [List.length_zipIdx] at this; exact this
      have hmap : (seq.zipIdx.filter fun z => decide (z.1 ∉ seq.take z.2)).map (fun z => D.int (z.1 : Nat)) = intL (ded seq) := by
        unfold ded intL; rw [List.map_map]; rfl
      rw [hmap]
      refine OP_sortI (ns := zL (ded seq)) (by rw [zL_int]; exact .list) (by unfold zL; rw [List.length_map]; (first | with_reducible assumption | exact Nat.lt_of_lt_of_le (by assumption) (by decide) | exact Nat.lt_of_le_of_lt (by assumption) (by decide) | lia | omega)) fun ns hp hs => ⟨rfl, ?_⟩
      rw [sort_eqD hp hs, hds]
      show SX _ _ _ _ _ _ [some (.list (rulesL g)), some (.list (pairL its)), some (.list (intL seq)), some (.list (intL (symN g its)))] _ _ _
      have hsn := symN_len ok its
      refine SX_ret (EX_comp (tab' := tab__law_behind_c2) (comp_ok (by rfl)) (by rfl) (cap_of (by rfl) (by rfl)) (SRC_list (EX_name (by rfl) (by rfl) ⟨_, rfl, ?_⟩)))
      refine comp1 (d0 := none) (rest := [some (.list (pairL its)), some (.list (rulesL g))]) (f := fun d => match d with | .int x => .tup [.int x, .list (pairL (behS g its x.toNat))] | _ => .none) (by rfl) (tab_inj (by rfl)) (by rw [intL_len]; (first | with_reducible assumption | exact Nat.lt_of_lt_of_le (by assumption) (by decide) | exact Nat.lt_of_le_of_lt (by assumption) (by decide) | lia | omega)) (fun d md R r => ?_) ?_
      · obtain ⟨x, mx, rfl⟩ := List.mem_map.mp md
        refine EX_tuple (EX_name (by rfl) (by rfl) (EX_call (C.cb (by rfl) (by rfl) (by rfl)) (.builtin _) (EX_comp (tab' := tab__law_behind_c2_c0) (comp_ok (by rfl)) (by rfl) (cap_of (by rfl) (by rfl)) (SRC_list (EX_name (by rfl) (by rfl) ⟨_, rfl, ?_⟩)))))
        refine comp2F (d0 := none) (d1 := none) (rest := [some (.list (rulesL g)), some (.int (x : Nat))]) (l := its) (fun p => decide (nxt g p = some x)) (fun p => pairN (p.1, p.2 + 1)) (by rfl) (by rfl) (tab_inj (by rfl)) (by (first | with_reducible assumption | exact Nat.lt_of_lt_of_le (by assumption) (by decide) | exact Nat.lt_of_le_of_lt (by assumption) (by decide) | lia | omega)) (fun p mp R r => ?_) (fun p mp hc R r => ?_) ?_
        · obtain ⟨h1, h2, h3, h4⟩ := hpos p mp
          refine TX_cmp (EX_slice (EX_index (EX_index (EX_name (by rfl) (by rfl) (EX_name (by rfl) (by rfl) ⟨_, _, _, .list, rfl, by (first | with_reducible assumption | exact Nat.lt_of_lt_of_le (by assumption) (by decide) | exact Nat.lt_of_le_of_lt (by assumption) (by decide) | lia | omega), ruleP_item h1, EX_int ⟨_, _, _, .tup, rfl, by decide, rfl, EX_name (by rfl) (by rfl) ⟨_, rfl, EX_bin (EX_name (by rfl) (by rfl) (EX_int (OP_add ⟨_, rfl, _, .frozen, by rw [intL_len]; (first | with_reducible assumption | exact Nat.lt_of_lt_of_le (by assumption) (by decide) | exact Nat.lt_of_le_of_lt (by assumption) (by decide) | lia | omega), ?_⟩)))⟩⟩⟩)))))
          rw [pick_one]
          refine EX_listF (EX_name (by rfl) (by rfl) ⟨(by show 1 < 2 ^ 20; decide), OP_eqL (k := 0) .frozen .frozen (fun u mu v mv => ?_) (by decide) fun b hb => ⟨_, rfl, ?_⟩⟩)
          · obtain ⟨_, _, rfl⟩ := List.mem_map.mp mu
            rw [List.mem_singleton.mp mv]; trivial
          · have : b = decide (nxt g p = some x) := by
              rw [Bool.eq_iff_iff, hb, decide_eq_true_iff]
              unfold nxt
              cases z : (g.right p.1)[p.2]? with
              | none => constructor <;> intro h <;> cases h
              | some y =>
                constructor
                · intro h
                  injection h with h _
                  injection h with h
                  rw [Int.ofNat.inj h]
                · intro h
                  cases h; rfl
            rw [this]; exact r
        · refine EX_tuple (EX_name (by rfl) (by rfl) (EX_bin (EX_name (by rfl) (by rfl) (EX_int (OP_add ⟨(by show 2 < 2 ^ 20; decide), ?_⟩)))))
          exact r
        · have e : (its.filter fun p => decide (nxt g p = some x)).map (fun p => pairN (p.1, p.2 + 1)) = pairL (behindOf g x its) := by
            unfold pairL behindOf; rw [List.map_map]; rfl
          have hbl : (behindOf g x its).length ≤ its.length := by unfold behindOf; rw [List.length_map]; exact List.length_filter_le ..
          rw [e]
          exact OP_srt .list (its_small ok (behind_its hk x)) (by (first | with_reducible assumption | exact Nat.lt_of_lt_of_le (by assumption) (by decide) | exact Nat.lt_of_le_of_lt (by assumption) (by decide) | lia | omega)) ⟨(by show 2 < 2 ^ 20; decide), r⟩
      · have e : (intL (symN g its)).map (fun d => match d with | .int x => D.tup [.int x, .list (pairL (behS g its x.toNat))] | _ => .none) = (symN g its).map fun x => .tup [.int (x : Nat), .list (pairL (behS g its x))] := by
          unfold intL; rw [List.map_map]; rfl
        rw [e]; exact q
end
noncomputable def zer (e : List Nat) : List (Nat × Nat) := e.map fun i => (i, 0)
structure Fnd (g : Gr) (k : List (Nat × Nat)) (e : List Nat) : Prop where
  nd : e.Nodup
  lt : ∀ i ∈ e, i < g.rules.length
  new : ∀ i ∈ e, (i, 0) ∉ k
  rch : ∀ i ∈ e, Rch g k (i, 0)
theorem zer_len (e : List Nat) : (zer e).length = e.length := List.length_map ..
theorem mem_zer {e : List Nat} {p : Nat × Nat} : p ∈ zer e ↔ p.2 = 0 ∧ p.1 ∈ e := by
  unfold zer
  rw [List.mem_map]
  constructor
  · rintro ⟨i, m, rfl⟩; exact ⟨rfl, m⟩
  · rintro ⟨h, m⟩
    obtain ⟨p1, p2⟩ := p
    cases h; exact ⟨p1, m, rfl⟩
theorem Fnd.nil {g : Gr} {k : List (Nat × Nat)} : Fnd g k [] := ⟨List.nodup_nil, fun _ m => (nomatch m), fun _ m => (nomatch m), fun _ m => (nomatch m)⟩
theorem Fnd.len {g : Gr} {k : List (Nat × Nat)} {e : List Nat} (h : Fnd g k e) : e.length ≤ g.rules.length := nodup_le _ _ h.nd h.lt
theorem Fnd.all {g : Gr} {k : List (Nat × Nat)} {e : List Nat} (h : Fnd g k e) {p : Nat × Nat} (m : p ∈ k ++ zer e) : Rch g k p := by
  rcases List.mem_append.mp m with m | m
  · exact .base m
  · obtain ⟨h0, m⟩ := mem_zer.mp m
    obtain ⟨p1, p2⟩ := p
    cases h0; exact h.rch _ m
theorem Fnd.add {g : Gr} {k : List (Nat × Nat)} {e : List Nat} (h : Fnd g k e) {p : Nat × Nat} {i : Nat} (m : p ∈ k ++ zer e) (hi : i < g.rules.length) (hn : nxt g p = some (g.left i)) (hf : (i, 0) ∉ k ++ zer e) : Fnd g k (e ++ [i]) := by
  have hk : (i, 0) ∉ k := fun z => hf (List.mem_append_left _ z)
  have he : i ∉ e := fun z => hf (List.mem_append_right _ (mem_zer.mpr ⟨rfl, z⟩))
  refine ⟨List.nodup_append.mpr ⟨h.nd, List.nodup_cons.mpr ⟨List.not_mem_nil, List.nodup_nil⟩, fun x mx y my => ?_⟩, fun x mx => ?_, fun x mx => ?_, fun x mx => ?_⟩
  · rw [List.mem_singleton.mp my]; rintro rfl; exact he mx
  all_goals
    rcases List.mem_append.mp mx with mx | mx
  · exact h.lt x mx
  · rw [List.mem_singleton.mp mx]; exact hi
  · exact h.new x mx
  · rw [List.mem_singleton.mp mx]; exact hk
  · exact h.rch x mx
  · rw [List.mem_singleton.mp mx]; exact .step (h.all m) hi hn
theorem Fnd.full {g : Gr} (ok : g.Ok) {k : List (Nat × Nat)} {e : List Nat} (h : Fnd g k e) (hc : ∀ p ∈ k ++ zer e, ∀ i, i < g.rules.length → nxt g p = some (g.left i) → (i, 0) ∈ k ++ zer e) : srt (zer e) = addL g k := by
  have hr : ∀ p, Rch g k p → p ∈ k ++ zer e := by
    intro p hp
    induction hp with
    | base m => exact List.mem_append_left _ m
    | step _ hi hn ih => exact hc _ ih _ hi hn
  have ndz : (zer e).Nodup := by
    unfold zer List.Nodup
    rw [List.pairwise_map]
    exact List.Pairwise.imp (fun {a b} h e => h (congrArg Prod.fst e)) h.nd
  have hm : ∀ p, p ∈ zer e ↔ p ∈ addL g k := fun p => by
    rw [mem_zer, addL_mem]
    obtain ⟨i, d⟩ := p
    constructor
    · rintro ⟨h0, m⟩
      have h0 : d = 0 := h0
      subst h0
      exact ⟨rfl, h.lt i m, h.new i m, (rch_iff ok (h.lt i m) (h.new i m)).mp (h.rch i m)⟩
    · rintro ⟨h0, hl, hk, hw⟩
      have h0 : d = 0 := h0
      subst h0
      refine ⟨rfl, ?_⟩
      rcases List.mem_append.mp (hr _ ((rch_iff ok hl hk).mpr hw)) with m | m
      · exact absurd m hk
      · exact (mem_zer.mp m).2
  refine pairs_uniq ((srt_perm _).trans ((List.perm_ext_iff_of_nodup ndz addL_nodup).mpr hm)) (srt_sorted _) addL_sorted fun p m => ?_
  rw [(mem_zer.mp ((srt_perm _).mem_iff.mp m)).1]; decide
theorem pairN_inj {p q : Nat × Nat} (h : pairN p = pairN q) : p = q := by
  unfold pairN at h
  injection h with h
  injection h with h1 h2
  injection h2 with h2
  injection h1 with h1
  injection h2 with h2
  exact Prod.ext (Int.ofNat.inj h1) (Int.ofNat.inj h2)
theorem mem_pairL {l : List (Nat × Nat)} {p : Nat × Nat} : pairN p ∈ pairL l ↔ p ∈ l := by
  unfold pairL
  rw [List.mem_map]
  constructor
  · rintro ⟨q, m, e⟩; rw [← pairN_inj e]; exact m
  · intro m; exact ⟨p, m, rfl⟩
theorem like_pair (p q : Nat × Nat) : Like 1 (pairN p) (pairN q) := by
  intro x mx y my
  have hx : ∃ i, x = .int i := by
    rcases List.mem_cons.mp mx with rfl | mx
    · exact ⟨_, rfl⟩
    · rw [List.mem_singleton.mp mx]; exact ⟨_, rfl⟩
  have hy : ∃ i, y = .int i := by
    rcases List.mem_cons.mp my with rfl | my
    · exact ⟨_, rfl⟩
    · rw [List.mem_singleton.mp my]; exact ⟨_, rfl⟩
  obtain ⟨i, rfl⟩ := hx
  obtain ⟨j, rfl⟩ := hy
  trivial
theorem like_pairs (l : List (Nat × Nat)) (p : Nat × Nat) : ∀ x ∈ pairL l, Like 1 x (pairN p) := fun x m => by
  obtain ⟨q, _, rfl⟩ := List.mem_map.mp m
  exact like_pair q p
theorem pairL_item {l : List (Nat × Nat)} {i : Nat} {p : Nat × Nat} (h : l[i]? = some p) : itemAt (pairL l) (i : Nat) = some (pairN p) := by
  unfold itemAt pairL
  rw [if_pos (Int.natCast_nonneg _), Int.toNat_natCast, List.getElem?_map, h]; rfl
theorem rulesL_enum (g : Gr) {i : Nat} {d : D} (h : ((rulesL g).mapIdx fun i d => D.tup [.int (i : Nat), d])[i]? = some d) : i < g.rules.length ∧ d = .tup [.int (i : Nat), .tup [.int (g.left i : Nat), .list (intL (g.right i))]] := by
  rw [List.getElem?_mapIdx] at h
  unfold rulesL at h
  rw [List.getElem?_map] at h
  cases z : g.rules[i]? with
  | none => rw [z] at h; cases h
  | some r =>
    rw [z] at h
    cases h
    refine ⟨(List.getElem?_eq_some_iff.mp z).1, ?_⟩
    unfold ruleP Gr.left Gr.right
    rw [List.getD_eq_getElem?_getD, z]; rfl

section
variable {prog : Program} {w : World} {K : Frag} {a : Ad} {n : Nat} {sc : Scope} {tab : Tab} {ρ : Loc} {G G' : GH} {Q : D → GH → Prop} {g : Gr} {k : List (Nat × Nat)}
noncomputable def clR (g : Gr) (k : List (Nat × Nat)) (y0 y1 y2 y3 y4 y5 : Option D) : Loc := [some (.list (rulesL g)), some (.list (pairL k)), y0, y1, y2, y3, y4, y5]
noncomputable def kz (k : List (Nat × Nat)) (e : List Nat) : List (Nat × Nat) := k ++ zer e
theorem kz_len (k : List (Nat × Nat)) (e : List Nat) : (kz k e).length = k.length + e.length := by unfold kz; rw [List.length_append, zer_len]
theorem kz_app (k : List (Nat × Nat)) (e t : List Nat) : kz k (e ++ t) = kz k e ++ zer t := by unfold kz zer; rw [List.map_append, List.append_assoc]
theorem kz_up {k : List (Nat × Nat)} {e t : List Nat} {r : Nat × Nat} (h : r ∈ kz k e) : r ∈ kz k (e ++ t) := by rw [kz_app]; exact List.mem_append_left _ h
theorem kz_its {e : List Nat} (hk : g.Its k) (hF : Fnd g k e) : g.Its (kz k e) := fun p mp => by
  rcases List.mem_append.mp mp with mp | mp
  · exact hk p mp
  · obtain ⟨h0, mp⟩ := mem_zer.mp mp
    exact ⟨hF.lt _ mp, by rw [h0]; exact Nat.zero_le _⟩
noncomputable def Cov (g : Gr) (k : List (Nat × Nat)) (e : List Nat) (p : Nat × Nat) (j : Nat) : Prop := ∀ i, i < j → nxt g p = some (g.left i) → (i, 0) ∈ kz k e
theorem Cov.up {e t : List Nat} {p : Nat × Nat} {j : Nat} (h : Cov g k e p j) : Cov g k (e ++ t) p j := fun i hi hn => kz_up (h i hi hn)
theorem Cov.succ {e : List Nat} {p : Nat × Nat} {j : Nat} (h : Cov g k e p j) (hs : nxt g p = some (g.left j) → (j, 0) ∈ kz k e) : Cov g k e p (j + 1) := fun i hi hn => by
  rcases Nat.lt_succ_iff_lt_or_eq.mp hi with hi | rfl
  · exact h i hi hn
  · exact hs hn
inductive ClJ (g : Gr) (k : List (Nat × Nat)) (b : Addr) (G : GH) (m : Nat) (ρ : Loc) (G' : GH) : Prop
  | mk (e : List Nat) (pl : Nat) (d4 d5 d6 d7 : Option D) : ρ = clR g k (some (.ref b)) (some (.int (pl : Nat))) d4 d5 d6 d7 → G' = G.put b (.list (pairL (kz k e))) → Fnd g k e → m + pl = k.length + g.rules.length → (∀ j, j < pl → ∀ p, (kz k e)[j]? = some p → Cov g k e p g.rules.length) → ClJ g k b G m ρ G'
inductive ClE (g : Gr) (k : List (Nat × Nat)) (b : Addr) (G : GH) (ρ : Loc) (G' : GH) : Prop
  | mk (e : List Nat) (d3 d4 d5 d6 d7 : Option D) : ρ = clR g k (some (.ref b)) d3 d4 d5 d6 d7 → G' = G.put b (.list (pairL (kz k e))) → Fnd g k e → srt (zer e) = addL g k → ClE g k b G ρ G'
noncomputable def clP (g : Gr) (k : List (Nat × Nat)) (b : Addr) (pl : Nat) (p : Nat × Nat) (d6 d7 : Option D) : Loc := clR g k (some (.ref b)) (some (.int ((pl + 1 : Nat) : Int))) (some (.int (p.1 : Nat))) (some (.int (p.2 : Nat))) d6 d7
inductive ClI (g : Gr) (k : List (Nat × Nat)) (b : Addr) (G : GH) (e : List Nat) (pl : Nat) (p : Nat × Nat) (j : Nat) (ρ : Loc) (G' : GH) : Prop
  | mk (t : List Nat) (d6 d7 : Option D) : ρ = clP g k b pl p d6 d7 → G' = G.put b (.list (pairL (kz k (e ++ t)))) → Fnd g k (e ++ t) → Cov g k (e ++ t) p j → ClI g k b G e pl p j ρ G'
noncomputable def clF (k : List (Nat × Nat)) (d : D) : Bool := match d with
  | .tup [.int x, .int y] => decide ((x.toNat, y.toNat) ∉ k)
  | _ => true
theorem clF_at {k : List (Nat × Nat)} {p : Nat × Nat} : clF k (pairN p) = decide (p ∉ k) := rfl
theorem clF_all {e : List Nat} (hF : Fnd g k e) : ((pairL (kz k e)).filter (clF k)).map (fun d => d) = pairL (zer e) := by
  rw [List.map_id']
  unfold pairL kz
  rw [List.filter_map, List.filter_append]
  have f1 : k.filter (clF k ∘ pairN) = [] := List.filter_eq_nil_iff.mpr fun p mp => by
    show ¬ (decide (p ∉ k) = true)
    rw [decide_eq_true_iff]; exact fun z => z mp
  have f2 : (zer e).filter (clF k ∘ pairN) = zer e := List.filter_eq_self.mpr fun p mp => by
    show decide (p ∉ k) = true
    obtain ⟨h0, mp⟩ := mem_zer.mp mp
    obtain ⟨p1, p2⟩ := p
    cases h0
    exact decide_eq_true (hF.new _ mp)
  rw [f1, f2]; rfl
theorem cl_end (C : Ctx w K a) (ok : g.Ok) (hk : g.Its k) (hz : k.length < 40) {b : Addr} {P : GH → Prop} {e : List Nat} {d3 d4 d5 d6 d7 : Option D} (hb : G b = none) (hF : Fnd g k e) (hfull : srt (zer e) = addL g k) (q : Q (.list (pairL (clo g k))) G) :
    SX prog w K 0 (scopeF (stT 29)) tab__law_closed (clR g k (some (.ref b)) d3 d4 d5 d6 d7) (G.put b (.list (pairL (kz k e)))) ((bodyF (stT 29)).drop 2) (endQ P Q) := by
  have hel := hF.len
  have hnr := ok.nr
  have hfl := kz_len k e
  refine SX_melt (G'' := G) (ρ'' := [none, some (.list (pairL k)), some (.list (pairL (kz k e)))]) (fun c x hx => ⟨x, GH.put_at hx (GH.new_ne hx hb), .same _⟩) (.none (.some (.same _) (.some (.listG GH.put_self hb (MeltAll.same _)) .nil))) ?_
  refine SX_ret (EX_bin (EX_call (C.cb (by rfl) (by rfl) (by rfl)) (.builtin _) (EX_name (by rfl) (by rfl) (OP_srt .list (its_small ok hk) (by (first | with_reducible assumption | exact Nat.lt_of_lt_of_le (by assumption) (by decide) | exact Nat.lt_of_le_of_lt (by assumption) (by decide) | lia | omega)) (EX_call (C.cb (by rfl) (by rfl) (by rfl)) (.builtin _) (EX_comp (tab' := tab__law_closed_c0) (comp_ok (by rfl)) (by rfl) (cap_of (by rfl) (by rfl)) (SRC_list (EX_name (by rfl) (by rfl) ⟨_, rfl, ?_⟩))))))))
  refine comp1F (d0 := none) (rest := [some (.list (pairL k))]) (c := clF k) (f := fun d => d) (by rfl) (tab_inj (by rfl)) (by rw [pairL_len]; (first | with_reducible assumption | exact Nat.lt_of_lt_of_le (by assumption) (by decide) | exact Nat.lt_of_le_of_lt (by assumption) (by decide) | lia | omega)) (fun d md R r => ?_) (fun d md hc R r => EX_name (by rfl) (by rfl) r) ?_
  · obtain ⟨p, mp, rfl⟩ := List.mem_map.mp md
    refine TX_cmp (EX_name (by rfl) (by rfl) (EX_name (by rfl) (by rfl) (OP_notIn (k := 1) .list (like_pairs _ p) (by decide) fun c hc => ⟨_, rfl, ?_⟩)))
    have : c = clF k (pairN p) := by
      rw [clF_at, Bool.eq_iff_iff, hc, decide_eq_true_iff, mem_pairL]
    rw [this]; exact r
  · rw [clF_all hF]
    refine OP_srt .list (fun p mp => by rw [(mem_zer.mp mp).1]; decide) (by rw [zer_len]; (first | with_reducible assumption | exact Nat.lt_of_lt_of_le (by assumption) (by decide) | exact Nat.lt_of_le_of_lt (by assumption) (by decide) | lia | omega)) ?_
    rw [hfull]
    have hal := addL_len ok (k := k)
    have hsl : (srt k).length = k.length := (srt_perm k).length_eq
    refine OP_addL .frozen .frozen (by rw [pairL_len, pairL_len]; (first | with_reducible assumption | exact Nat.lt_of_lt_of_le (by assumption) (by decide) | exact Nat.lt_of_le_of_lt (by assumption) (by decide) | lia | omega)) ?_
    rw [← pairL_app]; exact q
theorem cl_look (C : Ctx w K a) (ok : g.Ok) (hz : k.length < 40) {b : Addr} {e t : List Nat} {pl j : Nat} {p : Nat × Nat} {P : Fl → Loc → GH → Prop} (hF2 : Fnd g k (e ++ t)) (mp : p ∈ kz k (e ++ t)) (hI : g.It p.1 p.2) (hjr : j < g.rules.length) (hd2 : Cov g k (e ++ t) p j) :
    SX prog w K 0 (scopeF (stT 29)) tab__law_closed (clP g k b pl p (some (.int (j : Nat))) (some (.tup [.int (g.left j : Nat), .list (intL (g.right j))]))) (G.put b (.list (pairL (kz k (e ++ t))))) (subB (subB (bodyF (stT 29))[1]?)[2]?) (lbQ (ClI g k b G e pl p) j P) := by
  have hel2 := hF2.len
  have hnr := ok.nr
  have hI1 := hI.1
  have hbd := hI.bound ok
  have hrl : (g.right p.1).length ≤ 3 := ok.rl _ (by
    rw [List.getD_eq_getElem?_getD, List.getElem?_eq_getElem hI.1]; exact List.getElem_mem _)
  have stay : ∀ {d6 d7 : Option D}, (nxt g p = some (g.left j) → (j, 0) ∈ kz k (e ++ t)) → ClI g k b G e pl p (j + 1) (clP g k b pl p d6 d7) (G.put b (.list (pairL (kz k (e ++ t))))) := fun hs => ⟨t, _, _, rfl, rfl, hF2, hd2.succ hs⟩
  refine SX_next (S1_if (TX_and (TX_cmp (EX_slice (EX_index (EX_index (EX_name (by rfl) (by rfl) (EX_name (by rfl) (by rfl) ⟨_, _, _, .list, rfl, by (first | with_reducible assumption | exact Nat.lt_of_lt_of_le (by assumption) (by decide) | exact Nat.lt_of_le_of_lt (by assumption) (by decide) | lia | omega), ruleP_item hI.1, EX_int ⟨_, _, _, .tup, rfl, by decide, rfl, EX_name (by rfl) (by rfl) ⟨_, rfl, EX_bin (EX_name (by rfl) (by rfl) (EX_int (OP_add ⟨_, rfl, _, .frozen, by rw [intL_len]; (first | with_reducible assumption | exact Nat.lt_of_lt_of_le (by assumption) (by decide) | exact Nat.lt_of_le_of_lt (by assumption) (by decide) | lia | omega), ?_⟩)))⟩⟩⟩))))))))
  rw [pick_one]
  refine EX_listF (EX_index (EX_name (by rfl) (by rfl) (EX_int ⟨_, _, _, .tup, rfl, by decide, rfl, (by show 1 < 2 ^ 20; decide), OP_eqL (k := 0) .frozen .frozen (fun u mu v mv => ?_) (by decide) fun bb hb => ⟨_, rfl, fun ht => ?_, fun ht => ⟨(fun z => by cases z), fun _ => ?_⟩⟩⟩)))
  · obtain ⟨_, _, rfl⟩ := List.mem_map.mp mu
    rw [List.mem_singleton.mp mv]; trivial
  · have hn : nxt g p = some (g.left j) := by
      have h := hb.mp ht
      unfold nxt
      cases z : (g.right p.1)[p.2]? with
      | none => rw [z] at h; cases h
      | some y =>
        rw [z] at h
        injection h with h _
        injection h with h
        rw [Int.ofNat.inj h]
    refine TX_cmp (EX_tuple (EX_name (by rfl) (by rfl) (EX_int ⟨(by show 2 < 2 ^ 20; decide), EX_name (by rfl) (by rfl) (OP_notIn (k := 1) (.live GH.put_self) (like_pairs _ (j, 0)) (by decide) fun c hc => ⟨_, rfl, fun e1 => ?_, fun e1 => ?_⟩)⟩)))
    · have hc := hc.mp e1
      have hnew : (j, 0) ∉ kz k (e ++ t) := fun z => hc (mem_pairL.mpr z)
      have hF3 := hF2.add (p := p) mp hjr hn hnew
      refine SX_next (S1_expr (EX_methB PySem.F.slot_list_append PySem.F.plainAttrs_list PySem.F.type_list_append (EX_name (by rfl) (by rfl) ⟨.lst (.live GH.put_self), EX_tuple (EX_name (by rfl) (by rfl) (EX_int ⟨(by show 2 < 2 ^ 20; decide), OP_append GH.put_self (by rw [pairL_len, kz_len]; (first | with_reducible assumption | exact Nat.lt_of_lt_of_le (by assumption) (by decide) | exact Nat.lt_of_le_of_lt (by assumption) (by decide) | lia | omega)) ⟨rfl, rfl, SX_nil ⟨rfl, SX_nil ⟨fun _ => ?_, fun _ h => (nomatch h)⟩⟩⟩⟩))⟩)))
      have e3 : pairL (kz k (e ++ t)) ++ [D.tup ([] ++ [D.int (j : Nat)] ++ [D.int 0])] = pairL (kz k (e ++ (t ++ [j]))) := by
        rw [← List.append_assoc, kz_app k (e ++ t), pairL_app]; rfl
      rw [put_put, e3]
      refine ⟨t ++ [j], _, _, rfl, rfl, by rw [← List.append_assoc]; exact hF3, ?_⟩
      rw [← List.append_assoc]
      exact hd2.up.succ fun _ => by rw [kz_app]; exact List.mem_append_right _ (mem_zer.mpr ⟨rfl, .head _⟩)
    · refine SX_nil ⟨rfl, SX_nil ⟨fun _ => stay fun _ => ?_, fun _ h => (nomatch h)⟩⟩
      by_cases z : (j, 0) ∈ kz k (e ++ t)
      · exact z
      · rw [hc.mpr fun z' => z (mem_pairL.mp z')] at e1; cases e1
  · refine SX_nil ⟨rfl, SX_nil ⟨fun _ => stay fun hn => ?_, fun _ h => (nomatch h)⟩⟩
    have : bb = true := hb.mpr (by
      unfold nxt at hn
      rw [hn]; rfl)
    rw [this] at ht; cases ht
theorem cl_turn (C : Ctx w K a) (ok : g.Ok) (hk : g.Its k) (hz : k.length < 40) {b : Addr} {e : List Nat} {pl m : Nat} {p : Nat × Nat} {d4 d5 d6 d7 : Option D} {P : Fl → Loc → GH → Prop} (hF : Fnd g k e) (hp : (kz k e)[pl]? = some p) (hm : m + pl = k.length + g.rules.length) (hd : ∀ j, j < pl → ∀ p, (kz k e)[j]? = some p → Cov g k e p g.rules.length) :
    SX prog w K 0 (scopeF (stT 29)) tab__law_closed (clR g k (some (.ref b)) (some (.int (pl : Nat))) d4 d5 d6 d7) (G.put b (.list (pairL (kz k e)))) (subB (bodyF (stT 29))[1]?) (whbQ (ClJ g k b G) m P) := by
  have hel := hF.len
  have hnr := ok.nr
  have hfl := kz_len k e
  have hpl := (List.getElem?_eq_some_iff.mp hp).1
  have mp := List.mem_of_getElem? hp
  have hI := kz_its hk hF p mp
  have hbd := hI.bound ok
  refine SX_next (S1_tuple (by rfl) (EX_index (EX_name (by rfl) (by rfl) (EX_name (by rfl) (by rfl) ⟨_, _, _, .live GH.put_self, rfl, by (first | with_reducible assumption | exact Nat.lt_of_lt_of_le (by assumption) (by decide) | exact Nat.lt_of_le_of_lt (by assumption) (by decide) | lia | omega), pairL_item hp, _, rfl, rfl, AX_name (by rfl) (tab_inj (by rfl)) (AX_name (by rfl) (tab_inj (by rfl)) ⟨rfl, ?_⟩)⟩))))
  show SX _ _ _ _ _ _ (clR g k (some (.ref b)) (some (.int (pl : Nat))) (some (.int (p.1 : Nat))) (some (.int (p.2 : Nat))) d6 d7) _ _ _
  refine SX_next (S1_name (by rfl) (tab_inj (by rfl)) (EX_bin (EX_name (by rfl) (by rfl) (EX_int (OP_add ⟨rfl, ?_⟩)))))
  show SX _ _ _ _ _ _ (clP g k b pl p d6 d7) _ _ _
  refine SX_seq (ClI g k b G e pl p g.rules.length) (S1_for (SRC_enum (C.cb (by rfl) (by rfl) (by rfl)) (EX_name (by rfl) (by rfl) ⟨_, rfl, ?_⟩))) fun ρ G' hJ => ?_
  rotate_left
  · obtain ⟨t, d6, d7, rfl, rfl, hF2, hd2⟩ := hJ
    refine SX_nil ⟨fun _ => ⟨m - 1, by (first | with_reducible assumption | exact Nat.lt_of_lt_of_le (by assumption) (by decide) | exact Nat.lt_of_le_of_lt (by assumption) (by decide) | lia | omega), e ++ t, pl + 1, _, _, _, _, rfl, rfl, hF2, by (first | with_reducible assumption | exact Nat.lt_of_lt_of_le (by assumption) (by decide) | exact Nat.lt_of_le_of_lt (by assumption) (by decide) | lia | omega), fun j hj r hr => ?_⟩, fun _ h => (nomatch h)⟩
    rw [kz_app, List.getElem?_append_left (by (first | with_reducible assumption | exact Nat.lt_of_lt_of_le (by assumption) (by decide) | exact Nat.lt_of_le_of_lt (by assumption) (by decide) | lia | omega))] at hr
    rcases Nat.lt_succ_iff_lt_or_eq.mp hj with hj | rfl
    · exact (hd j hj r hr).up
    · rw [hp] at hr; cases hr
      exact hd2
  have hlen : ((rulesL g).mapIdx fun i d => D.tup [.int (i : Nat), d]).length = g.rules.length := by rw [List.length_mapIdx]; exact List.length_map ..
  refine ForX_ind (ClI g k b G e pl p) (fun j d ρ G' hj hJ => ?_) (fun ρ G' hJ => ⟨rfl, hlen ▸ hJ⟩) ⟨[], _, _, rfl, by rw [List.append_nil], by rw [List.append_nil]; exact hF, fun i h => absurd h (Nat.not_lt_zero _)⟩
  obtain ⟨hjr, rfl⟩ := rulesL_enum g hj
  obtain ⟨t, d6, d7, rfl, rfl, hF2, hd2⟩ := hJ
  refine AX_tuple rfl rfl (AX_name (by rfl) (tab_inj (by rfl)) (AX_name (by rfl) (tab_inj (by rfl)) ?_))
  exact cl_look C ok hz hF2 (kz_up mp) hI hjr hd2
theorem w_closed (C : Ctx w K a) (ok : g.Ok) (hk : g.Its k) (hz : k.length < 40) (q : Q (.list (pairL (clo g k))) G) : FN prog w K 1 G a.closed [.list (rulesL g), .list (pairL k)] Q := by
  refine C.d_closed.fn C.ok (by rfl) (by rfl) ?_
  show SX _ _ _ _ _ _ (clR g k none none none none none none) _ _ _
  have hnr := ok.nr
  refine SX_next (S1_swap2 (i := 2) (j := 3) (by rfl) (by rfl) (tab_inj (by rfl)) (by rfl) (by rfl) (EX_tuple (EX_call (C.cb (by rfl) (by rfl) (by rfl)) (.type _) (EX_name (by rfl) (by rfl) (OP_listG .list (by rw [pairL_len]; (first | with_reducible assumption | exact Nat.lt_of_lt_of_le (by assumption) (by decide) | exact Nat.lt_of_le_of_lt (by assumption) (by decide) | lia | omega)) fun b hb => EX_int ⟨(by show 2 < 2 ^ 20; decide), _, _, rfl, rfl, ?_⟩)))) (hw := fun env h => by cases env; cases h; rfl))
  show SX _ _ _ _ _ _ (clR g k (some (.ref b)) (some (.int ((0 : Nat) : Int))) none none none none) _ _ _
  refine SX_seq (ClE g k b G) (S1_while (ClJ g k b G) (k.length + g.rules.length) ⟨[], 0, _, _, _, _, rfl, by unfold kz; rw [show zer [] = [] from rfl, List.append_nil], .nil, rfl, fun j h => absurd h (Nat.not_lt_zero _)⟩ fun m ρ G' hJ => ?_) fun ρ G' hJ => ?_
  rotate_left
  · obtain ⟨e, d3, d4, d5, d6, d7, rfl, rfl, hF, hfull⟩ := hJ
    exact cl_end C ok hk hz hb hF hfull q
  obtain ⟨e, pl, d4, d5, d6, d7, rfl, rfl, hF, hm, hd⟩ := hJ
  have hel := hF.len
  have hfl := kz_len k e
  refine TX_cmp (EX_name (by rfl) (by rfl) (EX_call (C.cb (by rfl) (by rfl) (by rfl)) (.builtin _) (EX_name (by rfl) (by rfl) (OP_len (.live GH.put_self) (by rw [pairL_len]; (first | with_reducible assumption | exact Nat.lt_of_lt_of_le (by assumption) (by decide) | exact Nat.lt_of_le_of_lt (by assumption) (by decide) | lia | omega)) (OP_lt ⟨_, rfl, fun hc => ?_, fun hc => ?_⟩)))))
  · have hc := of_decide_eq_true hc
    rw [pairL_len] at hc
    exact cl_turn C ok hk hz hF (List.getElem?_eq_getElem (Int.ofNat_lt.mp hc)) hm hd
  · have hc := of_decide_eq_false hc
    rw [pairL_len] at hc
    have hcl : ∀ p ∈ kz k e, ∀ i, i < g.rules.length → nxt g p = some (g.left i) → (i, 0) ∈ kz k e := fun p mp i hi hn => by
      obtain ⟨j, hj, hp⟩ := List.getElem_of_mem mp
      exact hd j (by (first | with_reducible assumption | exact Nat.lt_of_lt_of_le (by assumption) (by decide) | exact Nat.lt_of_le_of_lt (by assumption) (by decide) | lia | omega)) p (by rw [List.getElem?_eq_getElem hj, hp]) i hi hn
    exact ⟨rfl, e, _, _, _, _, _, rfl, rfl, hF, hF.full ok hcl⟩
end
theorem swapped_many {ts vs : List Expr} {k k' : Nat} {p p' : Pos} {env : Env} (h : (ts.length == 2 || ts.length == 3) = false) : swappedStores [.Tuple ts k p] (.Tuple vs k' p') env = pure none := by
  unfold swappedStores
  simp only [h, Bool.not_false, Bool.true_or, if_true]
noncomputable def kerD (k : List (Nat × Nat)) : D := .list (pairL k)
noncomputable def kerL (ks : Ks) : List D := ks.map kerD
noncomputable def itsL (g : Gr) (n : Nat) : List D := (List.range n).map fun i => kerD (clo g ((bfs g n).1.getD i []))
theorem kerL_len (ks : Ks) : (kerL ks).length = ks.length := List.length_map ..
theorem kerL_item {ks : Ks} {i : Nat} (h : i < ks.length) : itemAt (kerL ks) (i : Nat) = some (kerD (ks.getD i [])) := by
  unfold itemAt kerL
  rw [if_pos (Int.natCast_nonneg _), Int.toNat_natCast, List.getElem?_map, List.getD_eq_getElem?_getD, List.getElem?_eq_getElem h]; rfl
theorem itsL_len (g : Gr) (n : Nat) : (itsL g n).length = n := by unfold itsL; rw [List.length_map, List.length_range]
theorem itsL_succ {g : Gr} {n : Nat} (h : n < (bfs g n).1.length) : itsL g (n + 1) = itsL g n ++ [kerD (clo g ((bfs g n).1.getD n []))] := by
  unfold itsL
  rw [List.range_succ, List.map_append]
  have e1 : (List.range n).map (fun i => kerD (clo g ((bfs g (n + 1)).1.getD i []))) = (List.range n).map fun i => kerD (clo g ((bfs g n).1.getD i [])) := List.map_congr_left fun i m => by
    have := List.mem_range.mp m
    rw [bfs_at (by (first | with_reducible assumption | exact Nat.lt_of_lt_of_le (by assumption) (by decide) | exact Nat.lt_of_le_of_lt (by assumption) (by decide) | lia | omega))]
  rw [e1]
  show _ ++ [kerD (clo g ((bfs g (n + 1)).1.getD n []))] = _
  rw [bfs_at h]
theorem last_item (l : List D) (d : D) : itemAt (l ++ [d]) (l.length : Nat) = some d := by
  unfold itemAt
  rw [if_pos (Int.natCast_nonneg _), Int.toNat_natCast, List.getElem?_append_right (Nat.le_refl _), Nat.sub_self]; rfl
theorem pairL_inj {k l : List (Nat × Nat)} (h : pairL k = pairL l) : k = l := by
  induction k generalizing l with
  | nil =>
    cases l with
    | nil => rfl
    | cons q l => cases h
  | cons p k ih =>
    cases l with
    | nil => cases h
    | cons q l =>
      injection h with h1 h2
      rw [pairN_inj h1, ih h2]
theorem kerD_inj {k l : List (Nat × Nat)} (h : kerD k = kerD l) : k = l := by
  unfold kerD at h
  injection h with h
  exact pairL_inj h
theorem mem_kerL {ks : Ks} {k : List (Nat × Nat)} : kerD k ∈ kerL ks ↔ k ∈ ks := by
  unfold kerL
  rw [List.mem_map]
  constructor
  · rintro ⟨q, m, e⟩; rw [← kerD_inj e]; exact m
  · intro m; exact ⟨k, m, rfl⟩
theorem like_kers (ks : Ks) (k : List (Nat × Nat)) : ∀ x ∈ kerL ks, Like 2 x (kerD k) := fun x m => by
  obtain ⟨l, _, rfl⟩ := List.mem_map.mp m
  intro u mu v mv
  obtain ⟨p, _, rfl⟩ := List.mem_map.mp mu
  obtain ⟨q, _, rfl⟩ := List.mem_map.mp mv
  exact like_pair p q
theorem idx_at {ks : Ks} {k : List (Nat × Nat)} (h : k ∈ ks) : ks[ks.idxOf k]? = some k := by
  have hl : ks.findIdx (· == k) < ks.length := List.findIdx_lt_length_of_exists ⟨k, h, beq_self_eq_true k⟩
  show ks[ks.findIdx (· == k)]? = some k
  rw [List.getElem?_eq_getElem hl]
  have := List.findIdx_getElem (p := (· == k)) (w := hl)
  exact congrArg some (eq_of_beq this)
theorem idx_first {ks : Ks} {k : List (Nat × Nat)} {m : Nat} (h : m < ks.idxOf k) : ks[m]? ≠ some k := fun e => by
  obtain ⟨hm, e⟩ := List.getElem?_eq_some_iff.mp e
  have h : m < ks.findIdx (· == k) := h
  have := List.not_of_lt_findIdx h
  rw [e, beq_self_eq_true] at this
  cases this
theorem MeltAll.snoc {G G'' : GH} {d d' : D} (m : Melt G G'' d d') : ∀ l : List D, MeltAll G G'' (l ++ [d]) (l ++ [d'])
  | [] => .cons m .nil
  | x :: l => .cons (.same x) (MeltAll.snoc m l)

section
variable {prog : Program} {w : World} {K : Frag} {a : Ad} {n : Nat} {sc : Scope} {tab : Tab} {ρ : Loc} {G G' : GH} {Q : D → GH → Prop} {g : Gr} {k : List (Nat × Nat)}
theorem OP_kidx {d : D} {ks : Ks} (hd : LstD G d (kerL ks)) (h : k ∈ ks) (hz : ks.length < 2 ^ 40) (q : Q (.int (ks.idxOf k : Nat)) G) : OP prog w K n G [d, kerD k] (fun vs => call (.builtin "list.index") vs) Q :=
  OP_indexL (k := 2) (j := ks.idxOf k) hd (like_kers ks k) (by decide) (by rw [kerL_len]; exact hz) (by unfold kerL; rw [List.getElem?_map, idx_at h]; rfl) (fun m hm e => by
    unfold kerL at e
    rw [List.getElem?_map] at e
    cases z : ks[m]? with
    | none => rw [z] at e; cases e
    | some l =>
      rw [z] at e
      refine idx_first hm ?_
      rw [z]
      exact congrArg some (kerD_inj (Option.some.inj e))) q

noncomputable def H3 (G : GH) (b1 b2 b3 : Addr) (l1 l2 l3 : List D) : GH := ((G.put b1 (.list l1)).put b2 (.list l2)).put b3 (.list l3)
structure Ap3 (G : GH) (b1 b2 b3 : Addr) : Prop where
  n12 : b1 ≠ b2
  n13 : b1 ≠ b3
  n23 : b2 ≠ b3
  f1 : G b1 = none
  f2 : G b2 = none
  f3 : G b3 = none
section
variable {b1 b2 b3 b4 : Addr} {l1 l2 l3 l : List D}
theorem H3_1 (A : Ap3 G b1 b2 b3) : H3 G b1 b2 b3 l1 l2 l3 b1 = some (.list l1) := by unfold H3; rw [GH.put_ne A.n13, GH.put_ne A.n12]; exact GH.put_self
theorem H3_2 (A : Ap3 G b1 b2 b3) : H3 G b1 b2 b3 l1 l2 l3 b2 = some (.list l2) := by unfold H3; rw [GH.put_ne A.n23]; exact GH.put_self
theorem H3_3 : H3 G b1 b2 b3 l1 l2 l3 b3 = some (.list l3) := GH.put_self
theorem H3_n {b : Addr} (h1 : b ≠ b1) (h2 : b ≠ b2) (h3 : b ≠ b3) : H3 G b1 b2 b3 l1 l2 l3 b = G b := by unfold H3; rw [GH.put_ne h3, GH.put_ne h2, GH.put_ne h1]
theorem H3_p1 (A : Ap3 G b1 b2 b3) : (H3 G b1 b2 b3 l1 l2 l3).put b1 (.list l) = H3 G b1 b2 b3 l l2 l3 := by unfold H3; rw [put_comm A.n13.symm, put_comm A.n12.symm, put_put]
theorem H3_p2 (A : Ap3 G b1 b2 b3) : (H3 G b1 b2 b3 l1 l2 l3).put b2 (.list l) = H3 G b1 b2 b3 l1 l l3 := by unfold H3; rw [put_comm A.n23.symm, put_put]
theorem H3_p3 : (H3 G b1 b2 b3 l1 l2 l3).put b3 (.list l) = H3 G b1 b2 b3 l1 l2 l := put_put
theorem H3_free {b : Addr} (A : Ap3 G b1 b2 b3) (h : H3 G b1 b2 b3 l1 l2 l3 b = none) : b ≠ b1 ∧ b ≠ b2 ∧ b ≠ b3 := by
  refine ⟨?_, ?_, ?_⟩ <;> rintro rfl
  · rw [H3_1 A] at h; cases h
  · rw [H3_2 A] at h; cases h
  · rw [H3_3] at h; cases h
end

noncomputable def saR (g : Gr) (y0 y1 y2 y3 y4 y5 : Option D) : Loc := [some (.list (rulesL g)), y0, y1, y2, y3, y4, y5]
theorem w_states (C : Ctx w K a) (ok : g.Ok) (h0 : 0 < g.rules.length) (hB : ∀ n, (bfs g n).1.length + 64 < 2 ^ 20) (q : ∀ n, End g n → Q (.tup [.list (kerL (bfs g n).1), .list (itsL g n), .list (movL (bfs g n).2)]) G) : FN prog w K 2 G a.states [.list (rulesL g)] Q := by
  refine C.d_states.fn C.ok (by rfl) (by rfl) ?_
  show SX _ _ _ _ _ _ (saR g none none none none none none) _ _ _
  refine SX_next ?_
  refine S1_tuple (by rfl) (EX_tuple (EX_listG (EX_listF (EX_tuple (EX_int (EX_int ⟨(by show 2 < 2 ^ 20; decide), (by show 1 < 2 ^ 20; decide), (by show 1 < 2 ^ 20; decide), fun b1 hb1 => EX_int (EX_listG ⟨by decide, fun b2 hb2 => EX_listG ⟨by decide, fun b3 hb3 => ⟨(by show 4 < 2 ^ 20; decide), _, rfl, rfl, AX_name (by rfl) (tab_inj (by rfl)) (AX_name (by rfl) (tab_inj (by rfl)) (AX_name (by rfl) (tab_inj (by rfl)) (AX_name (by rfl) (tab_inj (by rfl)) ⟨rfl, ?_⟩)))⟩⟩⟩)⟩)))))) (hw := fun _ _ => swapped_many (by rfl))
  have A : Ap3 G b1 b2 b3 := by
    have n12 : b1 ≠ b2 := by rintro rfl; rw [GH.put_self] at hb2; cases hb2
    have n23 : b2 ≠ b3 := by rintro rfl; rw [GH.put_self] at hb3; cases hb3
    have n13 : b1 ≠ b3 := by rintro rfl; rw [GH.put_ne n12, GH.put_self] at hb3; cases hb3
    rw [GH.put_ne n12.symm] at hb2
    rw [GH.put_ne n23.symm, GH.put_ne n13.symm] at hb3
    exact ⟨n12, n13, n23, hb1, hb2, hb3⟩
  show SX _ _ _ _ _ _ (saR g (some (.ref b1)) (some (.int ((0 : Nat) : Int))) (some (.ref b2)) (some (.ref b3)) none none) (H3 G b1 b2 b3 (kerL (bfs g 0).1) (itsL g 0) (movL (bfs g 0).2)) _ _
  let J : Nat → Loc → GH → Prop := fun m ρ G' => ∃ (n : Nat) (d5 d6 : Option D), ρ = (saR g (some (.ref b1)) (some (.int (n : Nat))) (some (.ref b2)) (some (.ref b3)) d5 d6) ∧ G' = H3 G b1 b2 b3 (kerL (bfs g n).1) (itsL g n) (movL (bfs g n).2) ∧ n + m = 2 ^ 20 ∧ n ≤ (bfs g n).1.length ∧ ∀ m, m < n → m < (bfs g m).1.length
  refine SX_cons (S1_while J (2 ^ 20) ⟨0, _, _, rfl, rfl, by (first | with_reducible assumption | exact Nat.lt_of_lt_of_le (by assumption) (by decide) | exact Nat.lt_of_le_of_lt (by assumption) (by decide) | lia | omega), Nat.zero_le _, fun m hm => absurd hm (Nat.not_lt_zero _)⟩ fun m ρ G' hJ => ?_)
  obtain ⟨n, d5, d6, rfl, rfl, hm, hn, hE⟩ := hJ
  have hb := hB n
  have hrows := bfs_rows g n
  refine TX_cmp (EX_name (by rfl) (by rfl) (EX_call (C.cb (by rfl) (by rfl) (by rfl)) (.builtin _) (EX_name (by rfl) (by rfl) (OP_len (.live (H3_1 A)) (by rw [kerL_len]; (first | with_reducible assumption | exact Nat.lt_of_lt_of_le (by assumption) (by decide) | exact Nat.lt_of_le_of_lt (by assumption) (by decide) | lia | omega)) (OP_lt ⟨_, rfl, fun hc => ?_, fun hc => ?_⟩)))))
  · rw [kerL_len] at hc
    have hc : n < (bfs g n).1.length := Int.ofNat_lt.mp (of_decide_eq_true hc)
    have hi : (bfs g n).1[n]? = some ((bfs g n).1.getD n []) := by rw [List.getD_eq_getElem?_getD, List.getElem?_eq_getElem hc]; rfl
    have hmem := List.mem_of_getElem? hi
    have hkI := bfs_its h0 n _ hmem
    have hkl := its_len ok hkI (bfs_nodup n _ hmem)
    have hcI := clo_its hkI
    have hcl : (clo g ((bfs g n).1.getD n [])).length < 64 := by
      unfold clo
      rw [List.length_append, (srt_perm _).length_eq]
      have := addL_len ok (k := (bfs g n).1.getD n [])
      (first | with_reducible assumption | exact Nat.lt_of_lt_of_le (by assumption) (by decide) | exact Nat.lt_of_le_of_lt (by assumption) (by decide) | lia | omega)
    have hil := itsL_len g n
    refine SX_next (S1_expr (EX_methB PySem.F.slot_list_append PySem.F.plainAttrs_list PySem.F.type_list_append (EX_name (by rfl) (by rfl) ⟨.lst (.live (H3_2 A)), EX_call (C.cg (by rfl) (by rfl) (by rfl)) (.of C.d_closed.keep) (EX_name (by rfl) (by rfl) (EX_index (EX_name (by rfl) (by rfl) (EX_name (by rfl) (by rfl) ⟨_, _, _, .live (H3_1 A), rfl, by (first | with_reducible assumption | exact Nat.lt_of_lt_of_le (by assumption) (by decide) | exact Nat.lt_of_le_of_lt (by assumption) (by decide) | lia | omega), kerL_item hc, (FN.le (w_closed C ok hkI (by (first | with_reducible assumption | exact Nat.lt_of_lt_of_le (by assumption) (by decide) | exact Nat.lt_of_le_of_lt (by assumption) (by decide) | lia | omega)) (OP_append (H3_2 A) (by (first | with_reducible assumption | exact Nat.lt_of_lt_of_le (by assumption) (by decide) | exact Nat.lt_of_le_of_lt (by assumption) (by decide) | lia | omega)) ⟨rfl, rfl, ?_⟩)) (by decide)).op⟩))))⟩)))
    rw [H3_p2 A]
    refine SX_next (S1_expr (EX_methB PySem.F.slot_list_append PySem.F.plainAttrs_list PySem.F.type_list_append (EX_name (by rfl) (by rfl) ⟨.lst (.live H3_3), EX_dict0 fun b4 hb4 => ?_⟩)))
    obtain ⟨n41, n42, n43⟩ := H3_free A hb4
    have f4 : G b4 = none := by rw [H3_n n41 n42 n43] at hb4; exact hb4
    refine OP_append (by rw [GH.put_ne n43.symm]; exact H3_3) (by unfold movL; rw [List.length_map]; (first | with_reducible assumption | exact Nat.lt_of_lt_of_le (by assumption) (by decide) | exact Nat.lt_of_le_of_lt (by assumption) (by decide) | lia | omega)) ⟨rfl, rfl, ?_⟩
    rw [put_comm n43, H3_p3]
    have e2 : itsL g n ++ [D.list (pairL (clo g ((bfs g n).1.getD n [])))] = itsL g (n + 1) := (itsL_succ hc).symm
    have hlast : itemAt (itsL g (n + 1)) (n : Nat) = some (kerD (clo g ((bfs g n).1.getD n []))) := by
      rw [itsL_succ hc]
      have := last_item (itsL g n) (kerD (clo g ((bfs g n).1.getD n [])))
      rw [hil] at this; exact this
    rw [e2]
    have hmlen : (movL (bfs g n).2).length = n := by unfold movL; rw [List.length_map]; exact hrows
    have hmlast : itemAt (movL (bfs g n).2 ++ [.ref b4]) (n : Nat) = some (.ref b4) := by
      have := last_item (movL (bfs g n).2) (.ref b4)
      rw [hmlen] at this; exact this
    have hk0 : kerL (bfs g n).1 = kerL (bfs g n).1 := rfl
    have hnx : (bfs g (n + 1)).1 = (nexts g (bfs g n).1 ((bfs g n).1.getD n [])).1 ∧ (bfs g (n + 1)).2 = (bfs g n).2 ++ [(nexts g (bfs g n).1 ((bfs g n).1.getD n [])).2] := ⟨rfl, rfl⟩
    have hksI := bfs_its h0 n
    have hb2 := hB (n + 1)
    unfold nexts at hnx
    generalize clo g ((bfs g n).1.getD n []) = its at *
    generalize hks : (bfs g n).1 = ks at *
    generalize hrw : (bfs g n).2 = rows at *
    let st : Nat → Ks × Mv := fun j => ((symN g its).take j).foldl (expS (behS g its)) (ks, [])
    let J2 : Nat → Loc → GH → Prop := fun j => Ex2 (fun d5 d6 => (saR g (some (.ref b1)) (some (.int (n : Nat))) (some (.ref b2)) (some (.ref b3)) d5 d6)) ((H3 G b1 b2 b3 (kerL (st j).1) (itsL g (n + 1)) (movL rows ++ [.ref b4])).put b4 (.dict (movD (st j).2)))
    refine SX_cons (S1_for (SRC_list (EX_call (C.cg (by rfl) (by rfl) (by rfl)) (.of C.d_lbehind.keep) (EX_name (by rfl) (by rfl) (EX_index (EX_name (by rfl) (by rfl) (EX_name (by rfl) (by rfl) ⟨_, _, _, .live (by rw [GH.put_ne n42.symm]; exact H3_2 A), rfl, by (first | with_reducible assumption | exact Nat.lt_of_lt_of_le (by assumption) (by decide) | exact Nat.lt_of_le_of_lt (by assumption) (by decide) | lia | omega), hlast, (FN.le (w_lbehind C ok hcI hcl ⟨_, rfl, ?_⟩) (by decide)).op⟩)))))))
    refine ForX_ind J2 (fun j d ρ G3 hj hJ => ?_) (fun ρ G3 hJ => ⟨fun _ => ?_, fun _ e => (nomatch e)⟩) ⟨_, _, rfl, rfl⟩
    · rw [List.getElem?_map] at hj
      obtain ⟨y, hy, rfl⟩ := Option.map_eq_some_iff.mp hj
      obtain ⟨d5, d6, rfl, rfl⟩ := hJ
      have hjl := (List.getElem?_eq_some_iff.mp hy).1
      have hs32 := symN_len ok its
      have hst : st (j + 1) = expS (behS g its) (st j) y := foldl_take _ _ _ _ _ hy
      have hle : (st j).1.length ≤ ks.length + 32 := by
        have := exp_len (behS g its) ((symN g its).take j) (ks, [])
        have h2 := List.length_take_le' j (symN g its)
        show (((symN g its).take j).foldl (expS (behS g its)) (ks, [])).1.length ≤ _
        dsimp only at this
        (first | with_reducible assumption | exact Nat.lt_of_lt_of_le (by assumption) (by decide) | exact Nat.lt_of_le_of_lt (by assumption) (by decide) | lia | omega)
      have hmv : (st j).2.map (·.1) = (symN g its).take j := by
        have := exp_mv (behS g its) ((symN g its).take j) (ks, [])
        rw [List.map_nil, List.nil_append] at this; exact this
      have hmvz : (st j).2.length ≤ 32 := by
        have := congrArg List.length hmv
        rw [List.length_map] at this
        have h2 := List.length_take_le' j (symN g its)
        (first | with_reducible assumption | exact Nat.lt_of_lt_of_le (by assumption) (by decide) | exact Nat.lt_of_le_of_lt (by assumption) (by decide) | lia | omega)
      have hfresh : ∀ p ∈ (st j).2, p.1 ≠ y := fun p mp e => by
        have := List.mem_map_of_mem (f := (·.1)) mp
        rw [hmv, e] at this
        exact not_before (symN_nodup g its) hy this
      refine AX_tuple rfl rfl (AX_name (by rfl) (tab_inj (by rfl)) (AX_name (by rfl) (tab_inj (by rfl)) ?_))
      generalize hbe : behS g its y = be
      show SX _ _ _ _ _ _ (saR g (some (.ref b1)) (some (.int (n : Nat))) (some (.ref b2)) (some (.ref b3)) (some (.int (y : Nat))) (some (kerD be))) _ _ _
      refine SX_seq (fun ρ G' => ρ = (saR g (some (.ref b1)) (some (.int (n : Nat))) (some (.ref b2)) (some (.ref b3)) (some (.int (y : Nat))) (some (kerD be))) ∧ G' = (H3 G b1 b2 b3 (kerL (addK (st j).1 be)) (itsL g (n + 1)) (movL rows ++ [.ref b4])).put b4 (.dict (movD (st j).2))) (S1_if (TX_cmp (EX_name (by rfl) (by rfl) (EX_name (by rfl) (by rfl) (OP_notIn (k := 2) (.inl (.live (by rw [GH.put_ne n41.symm]; exact H3_1 A))) (like_kers _ be) (by decide) fun c hc => ⟨_, rfl, fun e1 => ?_, fun e1 => ?_⟩))))) fun ρ G' hJ => ?_
      · have hnew : be ∉ (st j).1 := fun z => (hc.mp e1) (mem_kerL.mpr z)
        refine SX_next (S1_expr (EX_methB PySem.F.slot_list_append PySem.F.plainAttrs_list PySem.F.type_list_append (EX_name (by rfl) (by rfl) ⟨.lst (.live (by rw [GH.put_ne n41.symm]; exact H3_1 A)), EX_name (by rfl) (by rfl) (OP_append (by rw [GH.put_ne n41.symm]; exact H3_1 A) (by rw [kerL_len]; (first | with_reducible assumption | exact Nat.lt_of_lt_of_le (by assumption) (by decide) | exact Nat.lt_of_le_of_lt (by assumption) (by decide) | lia | omega)) ⟨rfl, rfl, SX_nil ⟨rfl, rfl, ?_⟩⟩)⟩)))
        rw [put_comm n41, H3_p1 A]
        unfold addK
        rw [if_neg hnew]
        unfold kerL
        rw [List.map_append]; rfl
      · have hold : be ∈ (st j).1 := by
          by_cases z : be ∈ (st j).1
          · exact z
          · rw [hc.mpr fun z' => z (mem_kerL.mp z')] at e1; cases e1
        refine SX_nil ⟨rfl, rfl, ?_⟩
        unfold addK
        rw [if_pos hold]
      · obtain ⟨rfl, rfl⟩ := hJ
        have hal := addK_len (st j).1 be
        refine SX_next (S1_assign (EX_methB PySem.F.slot_list_index PySem.F.plainAttrs_list PySem.F.type_list_index (EX_name (by rfl) (by rfl) ⟨.lst (.live (by rw [GH.put_ne n41.symm]; exact H3_1 A)), EX_name (by rfl) (by rfl) (OP_kidx (.live (by rw [GH.put_ne n41.symm]; exact H3_1 A)) addK_mem (by (first | with_reducible assumption | exact Nat.lt_of_lt_of_le (by assumption) (by decide) | exact Nat.lt_of_le_of_lt (by assumption) (by decide) | lia | omega)) ?_)⟩)) (fun _ _ => swapsWith_plain rfl) (fun _ _ => rfl) rfl)
        refine AX_subD (EX_index (EX_name (by rfl) (by rfl) (EX_name (by rfl) (by rfl) ⟨_, _, _, .inl (.live (by rw [GH.put_ne n43.symm]; exact H3_3)), rfl, by (first | with_reducible assumption | exact Nat.lt_of_lt_of_le (by assumption) (by decide) | exact Nat.lt_of_le_of_lt (by assumption) (by decide) | lia | omega), hmlast, EX_name (by rfl) (by rfl) ⟨b4, _, _, rfl, GH.put_self, rfl, by rw [movD_len]; (first | with_reducible assumption | exact Nat.lt_of_lt_of_le (by assumption) (by decide) | exact Nat.lt_of_le_of_lt (by assumption) (by decide) | lia | omega), rfl, SX_nil ⟨fun _ => ⟨_, _, rfl, ?_⟩, fun _ e => (nomatch e)⟩⟩⟩)))
        rw [movD_store hfresh, put_put, hst]
        unfold expS
        rw [hbe]
    · obtain ⟨d5, d6, rfl, rfl⟩ := hJ
      rw [List.length_map]
      have hst : st (symN g its).length = expF ks (behS g its) (symN g its) := by
        show ((symN g its).take _).foldl _ _ = _
        rw [List.take_length]; rfl
      rw [hst]
      refine SX_melt (G'' := H3 G b1 b2 b3 (kerL (bfs g (n + 1)).1) (itsL g (n + 1)) (movL (bfs g (n + 1)).2)) (ρ'' := (saR g (some (.ref b1)) (some (.int (n : Nat))) (some (.ref b2)) (some (.ref b3)) none none)) (fun c x hx => ?_) (.some (.same _) (.some (.same _) (.some (.same _) (.some (.same _) (.some (.same _) (.none (.none .nil))))))) ?_
      · have g4 : H3 G b1 b2 b3 (kerL (bfs g (n + 1)).1) (itsL g (n + 1)) (movL (bfs g (n + 1)).2) b4 = none := by rw [H3_n n41 n42 n43]; exact f4
        by_cases c3 : c = b3
        · subst c3
          rw [H3_3] at hx
          cases hx
          refine ⟨_, by rw [GH.put_ne n43.symm]; exact H3_3, ?_⟩
          rw [hnx.2]
          unfold movL
          rw [List.map_append]
          refine .list (MeltAll.snoc (.dictG GH.put_self ?_ (MeltKv.same _)) _)
          rw [H3_n n41 n42 n43]; exact f4
        · have c4 : c ≠ b4 := by rintro rfl; rw [g4] at hx; cases hx
          refine ⟨x, ?_, .same _⟩
          rw [GH.put_ne c4, ← hx, hnx.1]
          unfold H3
          rw [GH.put_ne c3, GH.put_ne c3]
      · refine SX_next (S1_name (by rfl) (tab_inj (by rfl)) (EX_bin (EX_name (by rfl) (by rfl) (EX_int (OP_add ⟨rfl, SX_nil ⟨fun _ => ⟨m - 1, by (first | with_reducible assumption | exact Nat.lt_of_lt_of_le (by assumption) (by decide) | exact Nat.lt_of_le_of_lt (by assumption) (by decide) | lia | omega), n + 1, _, _, rfl, rfl, by (first | with_reducible assumption | exact Nat.lt_of_lt_of_le (by assumption) (by decide) | exact Nat.lt_of_le_of_lt (by assumption) (by decide) | lia | omega), ?_, fun m' hm' => ?_⟩, fun _ e => (nomatch e)⟩⟩)))))
        · have := bfs_le g n; rw [hks] at this; (first | with_reducible assumption | exact Nat.lt_of_lt_of_le (by assumption) (by decide) | exact Nat.lt_of_le_of_lt (by assumption) (by decide) | lia | omega)
        · by_cases e : m' = n
          · rw [e, hks]; exact hc
          · exact hE m' (by (first | with_reducible assumption | exact Nat.lt_of_lt_of_le (by assumption) (by decide) | exact Nat.lt_of_le_of_lt (by assumption) (by decide) | lia | omega))
  · rw [kerL_len] at hc
    have hc := of_decide_eq_false hc
    have hc : ¬ n < (bfs g n).1.length := fun z => hc (Int.ofNat_lt.mpr z)
    refine ⟨fun _ => ?_, fun _ h => (nomatch h)⟩
    refine SX_melt (G'' := G) (ρ'' := [none, some (.list (kerL (bfs g n).1)), none, some (.list (itsL g n)), some (.list (movL (bfs g n).2))]) (fun c x hx => ⟨x, ?_, .same _⟩) (.none (.some (.listG (H3_1 A) A.f1 (MeltAll.same _)) (.none (.some (.listG (H3_2 A) A.f2 (MeltAll.same _)) (.some (.listG H3_3 A.f3 (MeltAll.same _)) .nil))))) ?_
    · rw [H3_n]
      · exact hx
      · rintro rfl; rw [A.f1] at hx; cases hx
      · rintro rfl; rw [A.f2] at hx; cases hx
      · rintro rfl; rw [A.f3] at hx; cases hx
    · exact SX_ret (EX_tuple (EX_name (by rfl) (by rfl) (EX_name (by rfl) (by rfl) (EX_name (by rfl) (by rfl) ⟨(by show 3 < 2 ^ 20; decide), q n ⟨by (first | with_reducible assumption | exact Nat.lt_of_lt_of_le (by assumption) (by decide) | exact Nat.lt_of_le_of_lt (by assumption) (by decide) | lia | omega), hE⟩⟩))))
end
theorem num_in {l : List Str} {x : Str} (h : x ∈ l) : numF l x = ((posOf l x : Nat) : Int) := if_pos h
theorem pos_is {l : List Str} {x : Str} {i : Nat} (h : l[i]? = some x) (hf : ∀ j, j < i → l[j]? ≠ some x) : posOf l x = i := by
  have hm := List.mem_of_getElem? h
  rcases Nat.lt_trichotomy (posOf l x) i with z | z | z
  · exact absurd (posOf_at hm) (hf _ z)
  · exact z
  · exact absurd h (posOf_first z)
theorem terms_not {ps : Pr} (hp : PairsOk ps) {x : Str} (h1 : x ∉ ownN) (h2 : x ∉ allN) : x ∉ termsF (leftsF ps) ps := fun m => by
  rcases (foldl_termP_mem (leftsF ps) ps ownN x).2.2 m with m | ⟨p, mp, m⟩
  · exact h1 m
  · exact h2 (hp.part p mp x m)
theorem accept_in (ps : Pr) : ("$accept" : Str) ∈ namesF ps := List.mem_append_left _ (List.mem_append_right _ (.head _))
theorem accept_pos {ps : Pr} (hp : PairsOk ps) : posOf (namesF ps) "$accept" = tcF ps := by
  refine pos_is ?_ fun j hj e => ?_
  · unfold namesF tcF
    rw [List.append_assoc, List.getElem?_append_right (Nat.le_refl _), Nat.sub_self]; rfl
  · unfold namesF at e
    unfold tcF at hj
    rw [List.append_assoc, List.getElem?_append_left hj] at e
    exact terms_not hp (by decide) (by decide) (List.mem_of_getElem? e)
theorem foldl_term_pre (L : List Str) : ∀ (l acc : List Str), ∃ t, l.foldl (termS L) acc = acc ++ t
  | [], acc => ⟨[], (List.append_nil _).symm⟩
  | x :: l, acc => by
    obtain ⟨t, e⟩ := foldl_term_pre L l (termS L acc x)
    rw [List.foldl_cons, e]
    unfold termS
    split
    · exact ⟨[x] ++ t, List.append_assoc ..⟩
    · exact ⟨t, rfl⟩
theorem foldl_termP_pre (L : List Str) : ∀ (ps : Pr) (acc : List Str), ∃ t, ps.foldl (termP L) acc = acc ++ t
  | [], acc => ⟨[], (List.append_nil _).symm⟩
  | p :: ps, acc => by
    obtain ⟨t, e⟩ := foldl_termP_pre L ps (termP L acc p)
    obtain ⟨t', e'⟩ := foldl_term_pre L p.2 acc
    rw [List.foldl_cons, e]
    refine ⟨t' ++ t, ?_⟩
    rw [← List.append_assoc, ← e']; rfl
theorem names_own (ps : Pr) : ∃ t, namesF ps = ownN ++ t := by
  obtain ⟨t, e⟩ := foldl_termP_pre (leftsF ps) ps ownN
  refine ⟨t ++ ((["$accept"] : List Str) ++ leftsF ps), ?_⟩
  unfold namesF termsF
  rw [e, List.append_assoc, List.append_assoc]
theorem end_in (ps : Pr) : ("$end" : Str) ∈ namesF ps := by
  obtain ⟨t, e⟩ := names_own ps
  rw [e]; exact List.mem_append_left _ (.head _)
theorem end_pos (ps : Pr) : posOf (namesF ps) "$end" = 0 := by
  obtain ⟨t, e⟩ := names_own ps
  refine pos_is ?_ fun j hj => absurd hj (Nat.not_lt_zero _)
  rw [e]; rfl
theorem head_left {ps : Pr} (h : ps.head?.map (·.1) = some ("S" : Str)) : (leftsF ps).headD "" = "S" ∧ ("S" : Str) ∈ namesF ps := by
  cases ps with
  | nil => cases h
  | cons p r =>
    have h : p.1 = "S" := Option.some.inj h
    obtain ⟨t, e⟩ := lefts_head r p
    refine ⟨by rw [e, h]; rfl, List.mem_append_right _ (left_mem.mpr ⟨p, .head _, h⟩)⟩
theorem Drawn.ok {ps : Pr} {m t : Nat} (h : Drawn ps m t) (h1 : 1 ≤ m) (h2 : m ≤ 6) : PairsOk ps :=
  ⟨fun e => by have := h.len; rw [e] at this; rw [← this] at h1; exact absurd h1 (by decide), h.left, h.part, by rw [h.len]; (first | with_reducible assumption | exact Nat.lt_of_lt_of_le (by assumption) (by decide) | exact Nat.lt_of_le_of_lt (by assumption) (by decide) | lia | omega), h.few⟩

theorem srt_perm_eq {k l : List (Nat × Nat)} (p : k.Perm l) (hb : ∀ x ∈ k, x.2 < 1048576) : srt k = srt l :=
  pairs_uniq ((srt_perm k).trans (p.trans (srt_perm l).symm)) (srt_sorted k) (srt_sorted l) fun x m => hb x ((srt_perm k).mem_iff.mp m)
theorem wnt_perm {g : Gr} {k l : List (Nat × Nat)} (p : k.Perm l) (x : Nat) : Wnt g k x ↔ Wnt g l x := by
  unfold Wnt
  constructor <;> rintro ⟨q, m, h⟩
  · exact ⟨q, p.mem_iff.mp m, h⟩
  · exact ⟨q, p.mem_iff.mpr m, h⟩
theorem clo_perm {g : Gr} {k l : List (Nat × Nat)} (p : k.Perm l) (hb : ∀ x ∈ k, x.2 < 1048576) : clo g k = clo g l := by
  unfold clo
  rw [srt_perm_eq p hb]
  congr 1
  unfold addL
  congr 1
  refine List.filter_congr fun i _ => ?_
  rw [decide_eq_decide, p.mem_iff, wnt_perm p]
theorem encL_rev (g : Gr) (k : List (Nat × Nat)) : (encL g k).reverse = encL g k.reverse := by unfold encL intL; rw [List.map_reverse, List.map_reverse]
noncomputable def sumR (rs : List (Nat × List Nat × Int)) (i : Nat) : Nat := ((rs.take i).map fun r => r.2.1.length).sum
theorem sumR_step {g : Gr} {i : Nat} (h : i < g.rules.length) : sumR g.rules (i + 1) = sumR g.rules i + (g.right i).length := by
  unfold sumR Gr.right
  rw [List.take_add_one, List.getD_eq_getElem?_getD, List.getElem?_eq_getElem h, List.map_append, List.sum_append]
  rfl
theorem sumR_mono {g : Gr} : ∀ (k i : Nat), i + k ≤ g.rules.length → sumR g.rules i ≤ sumR g.rules (i + k)
  | 0, _, _ => Nat.le_refl _
  | k + 1, i, h => by
    have h1 := sumR_mono (g := g) k i (by (first | with_reducible assumption | exact Nat.lt_of_lt_of_le (by assumption) (by decide) | exact Nat.lt_of_le_of_lt (by assumption) (by decide) | lia | omega))
    have h2 := sumR_step (g := g) (i := i + k) (by (first | with_reducible assumption | exact Nat.lt_of_lt_of_le (by assumption) (by decide) | exact Nat.lt_of_le_of_lt (by assumption) (by decide) | lia | omega))
    rw [← Nat.add_assoc]; (first | with_reducible assumption | exact Nat.lt_of_lt_of_le (by assumption) (by decide) | exact Nat.lt_of_le_of_lt (by assumption) (by decide) | lia | omega)
noncomputable def cdI (g : Gr) (p : Nat × Nat) : Nat := sumR g.rules p.1 + (p.2 - 1)
theorem cdI_lt {g : Gr} {p : Nat × Nat} (h : g.It p.1 p.2) (h1 : 1 ≤ p.2) : cdI g p + 1 ≤ sumR g.rules (p.1 + 1) := by
  have := sumR_step h.1
  have := h.2
  unfold cdI; (first | with_reducible assumption | exact Nat.lt_of_lt_of_le (by assumption) (by decide) | exact Nat.lt_of_le_of_lt (by assumption) (by decide) | lia | omega)
theorem cdI_inj {g : Gr} {p q : Nat × Nat} (hp : g.It p.1 p.2) (hq : g.It q.1 q.2) (p1 : 1 ≤ p.2) (q1 : 1 ≤ q.2) (e : cdI g p = cdI g q) : p = q := by
  have a := cdI_lt hp p1
  have b := cdI_lt hq q1
  have hp1 := hp.1
  have hq1 := hq.1
  rcases Nat.lt_trichotomy p.1 q.1 with l | l | l
  · obtain ⟨k, hk⟩ := Nat.le.dest l
    have := sumR_mono (g := g) k (p.1 + 1) (by (first | with_reducible assumption | exact Nat.lt_of_lt_of_le (by assumption) (by decide) | exact Nat.lt_of_le_of_lt (by assumption) (by decide) | lia | omega))
    rw [hk] at this
    unfold cdI at e a b; (first | with_reducible assumption | exact Nat.lt_of_lt_of_le (by assumption) (by decide) | exact Nat.lt_of_le_of_lt (by assumption) (by decide) | lia | omega)
  · obtain ⟨p, d⟩ := p
    obtain ⟨q, d'⟩ := q
    have l : p = q := l
    subst l
    unfold cdI at e
    dsimp only at *
    have : d = d' := by (first | with_reducible assumption | exact Nat.lt_of_lt_of_le (by assumption) (by decide) | exact Nat.lt_of_le_of_lt (by assumption) (by decide) | lia | omega)
    rw [this]
  · obtain ⟨k, hk⟩ := Nat.le.dest l
    have := sumR_mono (g := g) k (q.1 + 1) (by (first | with_reducible assumption | exact Nat.lt_of_lt_of_le (by assumption) (by decide) | exact Nat.lt_of_le_of_lt (by assumption) (by decide) | lia | omega))
    rw [hk] at this
    unfold cdI at e a b; (first | with_reducible assumption | exact Nat.lt_of_lt_of_le (by assumption) (by decide) | exact Nat.lt_of_le_of_lt (by assumption) (by decide) | lia | omega)
noncomputable def codeK (g : Gr) : List (Nat × Nat) → Nat
  | [] => 0
  | p :: k => codeK g k ||| 2 ^ cdI g p
theorem codeK_bit (g : Gr) (j : Nat) : ∀ k : List (Nat × Nat), (codeK g k).testBit j = true ↔ ∃ p ∈ k, cdI g p = j
  | [] => by
    unfold codeK
    rw [Nat.zero_testBit]
    constructor
    · intro h; cases h
    · rintro ⟨p, m, _⟩; cases m
  | p :: k => by
    unfold codeK
    rw [Nat.testBit_or, Bool.or_eq_true, codeK_bit g j k, Nat.testBit_two_pow]
    constructor
    · rintro (⟨q, m, e⟩ | h)
      · exact ⟨q, .tail _ m, e⟩
      · exact ⟨p, .head _, of_decide_eq_true h⟩
    · rintro ⟨q, m, e⟩
      rcases List.mem_cons.mp m with rfl | m
      · exact .inr (decide_eq_true e)
      · exact .inl ⟨q, m, e⟩
theorem codeK_lt {g : Gr} {N : Nat} : ∀ k : List (Nat × Nat), (∀ p ∈ k, cdI g p < N) → codeK g k < 2 ^ N
  | [], _ => Nat.pow_pos (by decide)
  | p :: k, h => by
    unfold codeK
    exact Nat.or_lt_two_pow (codeK_lt k fun q m => h q (.tail _ m)) (Nat.pow_lt_pow_right (by decide) (h p (.head _)))
noncomputable def Late (k : List (Nat × Nat)) : Prop := (∀ p ∈ k, 1 ≤ p.2) ∧ k.Pairwise (fun p q => pk p ≤ pk q)
theorem codeK_inj {g : Gr} (ok : g.Ok) {k l : List (Nat × Nat)} (hk : g.Its k) (hl : g.Its l) (nk : k.Nodup) (nl : l.Nodup) (k1 : Late k) (l1 : Late l) (e : codeK g k = codeK g l) : k = l := by
  have half : ∀ {k l : List (Nat × Nat)}, g.Its k → g.Its l → Late k → Late l → codeK g k = codeK g l → ∀ p ∈ k, p ∈ l := fun {k l} hk hl k1 l1 e p m => by
    have := (codeK_bit g (cdI g p) k).mpr ⟨p, m, rfl⟩
    rw [e] at this
    obtain ⟨q, mq, h⟩ := (codeK_bit g (cdI g p) l).mp this
    rw [← cdI_inj (hl q mq) (hk p m) (l1.1 q mq) (k1.1 p m) h]; exact mq
  refine pairs_uniq ((List.perm_ext_iff_of_nodup nk nl).mpr fun p => ⟨half hk hl k1 l1 e p, half hl hk l1 k1 e.symm p⟩) k1.2 l1.2 fun p m => ?_
  have := (hk p m).bound ok
  (first | with_reducible assumption | exact Nat.lt_of_lt_of_le (by assumption) (by decide) | exact Nat.lt_of_le_of_lt (by assumption) (by decide) | lia | omega)
theorem behS_late {g : Gr} (its : List (Nat × Nat)) (x : Nat) : Late (behS g its x) := by
  refine ⟨fun p m => ?_, srt_sorted _⟩
  have m := (srt_perm _).mem_iff.mp m
  unfold behindOf at m
  obtain ⟨q, _, rfl⟩ := List.mem_map.mp m
  exact Nat.succ_le_succ (Nat.zero_le _)
theorem bfs_late {g : Gr} : ∀ n, ∀ l ∈ (bfs g n).1, l = [(0, 0)] ∨ Late l
  | 0, l, m => .inl (List.mem_singleton.mp m)
  | n + 1, l, m => exp_all (P := fun l => l = [(0, 0)] ∨ Late l) (fun x => .inr (behS_late _ x)) _ ((bfs g n).1, []) (bfs_late n) l m
set_option tactic.hygienic true in
theorem addK_nodup {ks : Ks} {k : List (Nat × Nat)} (h : ks.Nodup) : (addK ks k).Nodup := by
  unfold addK
  split
  · exact h
  · rename_i hn
    refine List.nodup_append.mpr ⟨h, List.nodup_cons.mpr ⟨List.not_mem_nil, List.nodup_nil⟩, fun x mx y my => ?_⟩
    rw [List.mem_singleton.mp my]; rintro rfl; exact hn mx
theorem exp_nodup (b : Nat → List (Nat × Nat)) : ∀ (xs : List Nat) (st : Ks × Mv), st.1.Nodup → (xs.foldl (expS b) st).1.Nodup
  | [], _, h => h
  | x :: xs, st, h => exp_nodup b xs _ (addK_nodup h)
theorem bfs_distinct (g : Gr) : ∀ n, (bfs g n).1.Nodup
  | 0 => List.nodup_cons.mpr ⟨List.not_mem_nil, List.nodup_nil⟩
  | n + 1 => exp_nodup _ _ ((bfs g n).1, []) (bfs_distinct g n)
open Classical in
noncomputable def codeA (g : Gr) (k : List (Nat × Nat)) : Nat := if k = [(0, 0)] then 2 ^ 17 else codeK g k
set_option tactic.hygienic true in
theorem bfs_few {g : Gr} (ok : g.Ok) (h0 : 0 < g.rules.length) (hs : sumR g.rules g.rules.length ≤ 17) (n : Nat) : (bfs g n).1.length ≤ 2 ^ 17 + 1 := by
  have hI := bfs_its (g := g) h0 n
  have hN := bfs_nodup (g := g) n
  have hL := bfs_late (g := g) n
  have hlt : ∀ k ∈ (bfs g n).1, k ≠ [(0, 0)] → codeK g k < 2 ^ 17 := fun k m ne => by
    have late := (hL k m).resolve_left ne
    refine codeK_lt k fun p mp => ?_
    have a := cdI_lt (hI k m p mp) (late.1 p mp)
    have hp1 := (hI k m p mp).1
    obtain ⟨j, hj⟩ := Nat.le.dest (Nat.succ_le_of_lt hp1)
    have := sumR_mono (g := g) j (p.1 + 1) (by (first | with_reducible assumption | exact Nat.lt_of_lt_of_le (by assumption) (by decide) | exact Nat.lt_of_le_of_lt (by assumption) (by decide) | lia | omega))
    rw [show p.1 + 1 + j = g.rules.length from hj] at this
    (first | with_reducible assumption | exact Nat.lt_of_lt_of_le (by assumption) (by decide) | exact Nat.lt_of_le_of_lt (by assumption) (by decide) | lia | omega)
  have h1 : ((bfs g n).1.map (codeA g)).Nodup := by
    unfold List.Nodup
    rw [List.pairwise_map]
    refine List.Pairwise.imp_of_mem (fun {k l} mk ml ne e => ne ?_) (bfs_distinct g n)
    unfold codeA at e
    by_cases ek : k = [(0, 0)]
    · by_cases el : l = [(0, 0)]
      · rw [ek, el]
      · rw [if_pos ek, if_neg el] at e
        have := hlt l ml el; (first | with_reducible assumption | exact Nat.lt_of_lt_of_le (by assumption) (by decide) | exact Nat.lt_of_le_of_lt (by assumption) (by decide) | lia | omega)
    · by_cases el : l = [(0, 0)]
      · rw [if_neg ek, if_pos el] at e
        have := hlt k mk ek; (first | with_reducible assumption | exact Nat.lt_of_lt_of_le (by assumption) (by decide) | exact Nat.lt_of_le_of_lt (by assumption) (by decide) | lia | omega)
      · rw [if_neg ek, if_neg el] at e
        exact codeK_inj ok (hI k mk) (hI l ml) (hN k mk) (hN l ml) ((hL k mk).resolve_left ek) ((hL l ml).resolve_left el) e
  have h2 := nodup_le (2 ^ 17 + 1) _ h1 fun x m => by
    obtain ⟨k, mk, rfl⟩ := List.mem_map.mp m
    unfold codeA
    split
    · exact Nat.lt_succ_self _
    · rename_i ne
      exact Nat.lt_succ_of_lt (hlt k mk ne)
  rw [List.length_map] at h2
  exact h2
theorem plain_few {ps : Pr} {m t : Nat} (h : Drawn ps m 15) : sumR (plainG ps).rules (plainG ps).rules.length ≤ 17 := by
  have hs := h.sum
  have e : (ps.map (ruleF ps)).map (fun r => r.2.1.length) = ps.map fun p => p.2.length := by
    rw [List.map_map]
    refine List.map_congr_left fun p _ => ?_
    exact List.length_map ..
  unfold sumR
  rw [List.take_length]
  show (([startF ps, 0] : List Nat).length :: (ps.map (ruleF ps)).map (fun r => r.2.1.length)).sum ≤ 17
  rw [e, List.sum_cons]
  show 2 + _ ≤ 17
  (first | with_reducible assumption | exact Nat.lt_of_lt_of_le (by assumption) (by decide) | exact Nat.lt_of_le_of_lt (by assumption) (by decide) | lia | omega)
theorem plain_bound {ps : Pr} {m : Nat} (h : Drawn ps m 15) (h1 : 1 ≤ m) (h2 : m ≤ 6) (n : Nat) : (bfs (plainG ps) n).1.length + 64 < 2 ^ 20 := by
  have := bfs_few (plain_ok (h.ok h1 h2)) (Nat.succ_pos _) (plain_few (m := m) (t := 0) h) n
  (first | with_reducible assumption | exact Nat.lt_of_lt_of_le (by assumption) (by decide) | exact Nat.lt_of_le_of_lt (by assumption) (by decide) | lia | omega)
noncomputable def lawR (b : Addr) (a : Ad) (ns : List Int) (g : Gr) (N : Nat) (d e9 e10 e11 e12 e13 e14 e15 e16 e17 : Option D) : Loc :=
  [some (.list (ns.map .int)), some (.ref b), none, some (g.d a), some (.list (rulesL g)), some (.list (kerL (bfs g N).1)), some (.list (itsL g N)), some (.list (movL (bfs g N).2)), d, e9, e10, e11, e12, e13, e14, e15, e16, e17]

section
variable {prog : Program} {w : World} {K : Frag} {a : Ad} {n : Nat} {sc : Scope} {tab : Tab} {ρ : Loc} {G G' : GH} {Q : D → GH → Prop} {g : Gr} {k : List (Nat × Nat)}
theorem rules_as (ps : Pr) (hp : PairsOk ps) (hS : ps.head?.map (·.1) = some ("S" : Str)) : ((("$accept", ["S", "$end"]) :: ps : Pr).map fun p => D.tup [.int (posOf (namesF ps) p.1 : Nat), .list (intL (p.2.map (posOf (namesF ps))))]) = rulesL (plainG ps) := by
  unfold rulesL
  show D.tup [.int (posOf (namesF ps) "$accept" : Nat), .list (intL [posOf (namesF ps) "S", posOf (namesF ps) "$end"])] :: ps.map _ = ruleP (tcF ps, [startF ps, 0], 0) :: (ps.map (ruleF ps)).map ruleP
  have e1 : startF ps = posOf (namesF ps) "S" := by unfold startF; rw [(head_left hS).1]
  rw [accept_pos hp, end_pos, ← e1, List.map_map]; rfl
theorem pairD_len (ps : Pr) : (pairsL ps).length = ps.length := List.length_map ..

theorem law_a (C : Ctx w K a) {ns : List Int} (hn : ns.length ≤ 63)
    (q : ∀ ps m b lt k d N, G b = none → 1 ≤ m → m ≤ 6 → Drawn ps m 15 → ps.head?.map (·.1) = some ("S" : Str) → Tp lt k → k ≤ 100 → End (plainG ps) N → AutoD a (plainG ps) N d →
      SX prog w K 8 (scopeF (stT 33)) tab_law (lawR b a ns (plainG ps) N (some d) none none none none none none none none none) (G.put b (.list lt)) ((bodyF (stT 33)).drop 6) (endQ (Q .none) Q)) :
    FN prog w K 9 G a.law [.list (ns.map .int)] Q := by
  refine C.d_law.fn C.ok (by rfl) (by rfl) ?_
  show SX _ _ _ _ _ _ [some (.list (ns.map .int)), none, none, none, none, none, none, none, none, none, none, none, none, none, none, none, none, none] _ _ _
  refine SX_next (S1_name (by rfl) (tab_inj (by rfl)) (EX_call (C.cg (by rfl) (by rfl) (by rfl)) (.of C.d_tape.keep) (EX_name (by rfl) (by rfl) (FN.op (FN.le (w_tape C hn fun b lt hb hT => ⟨rfl, ?_⟩) (by decide))))))
  refine SX_next (S1_name (by rfl) (tab_inj (by rfl)) (EX_call (C.cg (by rfl) (by rfl) (by rfl)) (.of C.d_pairs.keep) (EX_name (by rfl) (by rfl) (FN.op (FN.le (w_pairs C GH.put_self hT (by decide) fun ps lt' c m h1 h2 hD hS hT' hc => ⟨rfl, ?_⟩) (by decide))))))
  have hcb : c ≠ b := by rintro rfl; rw [GH.put_self] at hc; cases hc
  have hp := hD.ok h1 h2
  have hpl := hp.len
  have e0 : ((G.put b (.list lt)).put c (.list (pairsL ps))).put b (.list lt') = (G.put b (.list lt')).put c (.list (pairsL ps)) := by rw [put_comm hcb, put_put]
  rw [e0]
  refine SX_melt (G'' := G.put b (.list lt')) (ρ'' := [some (.list (ns.map .int)), some (.ref b), some (.list (pairsL ps)), none, none, none, none, none, none, none, none, none, none, none, none, none, none, none]) (fun x y hx => ⟨y, ?_, .same _⟩) (.some (.same _) (.some (.same _) (.some (.listG GH.put_self (by rw [GH.put_ne hcb] at hc ⊢; exact hc) (MeltAll.same _)) (.none (.none (.none (.none (.none (.none (.none (.none (.none (.none (.none (.none (.none (.none (.none .nil)))))))))))))))))) ?_
  · rw [GH.put_ne]
    · exact hx
    · rintro rfl
      rw [GH.put_ne hcb] at hc hx
      rw [hc] at hx; cases hx
  refine SX_next (S1_name (by rfl) (tab_inj (by rfl)) (EX_call (C.cg (by rfl) (by rfl) (by rfl)) (.of C.d_plain.keep) (EX_comp (tab' := tab_law_c0) (comp_ok (by rfl)) (by rfl) (cap_of (by rfl) (by rfl)) (SRC_list (EX_name (by rfl) (by rfl) ⟨_, rfl, ?_⟩)))))
  refine comp2 (d0 := none) (d1 := none) (rest := []) (l := ps) (h1 := fun p => .str p.1) (h2 := fun p => .list (strL p.2)) pairD' (by rfl) (by rfl) (tab_inj (by rfl)) (by (first | with_reducible assumption | exact Nat.lt_of_lt_of_le (by assumption) (by decide) | exact Nat.lt_of_le_of_lt (by assumption) (by decide) | lia | omega)) (fun p mp R r => ?_) ?_
  · have := hp.few p mp
    exact EX_tuple (EX_name (by rfl) (by rfl) (EX_call (C.cb (by rfl) (by rfl) (by rfl)) (.type _) (EX_name (by rfl) (by rfl) (OP_list .list (by rw [strL_len]; (first | with_reducible assumption | exact Nat.lt_of_lt_of_le (by assumption) (by decide) | exact Nat.lt_of_le_of_lt (by assumption) (by decide) | lia | omega)) ⟨(by show 2 < 2 ^ 20; decide), r⟩))))
  refine FN.op (FN.le (w_plain C hp ⟨rfl, ?_⟩) (by decide))
  have hok := plain_ok hp
  generalize hg : (plainG ps).d a = gd
  show SX _ _ _ _ _ _ [some (.list (ns.map .int)), some (.ref b), some (.list (pairsL ps)), some gd, none, none, none, none, none, none, none, none, none, none, none, none, none, none] _ _ _
  subst hg
  refine SX_next (S1_assign (EX_comp (tab' := tab_law_c1) (comp_ok (by rfl)) (by rfl) (cap_of (by rfl) (by rfl)) (SRC_list (EX_bin (EX_listF (EX_tuple (EX_str (EX_listF (EX_str (EX_str ⟨(by show 2 < 2 ^ 20; decide), (by show 2 < 2 ^ 20; decide), (by show 1 < 2 ^ 20; decide), EX_name (by rfl) (by rfl) (OP_addL .frozen .frozen (by rw [pairD_len]; show 1 + _ < _; (first | with_reducible assumption | exact Nat.lt_of_lt_of_le (by assumption) (by decide) | exact Nat.lt_of_le_of_lt (by assumption) (by decide) | lia | omega)) ⟨_, rfl, ?_⟩)⟩))))))))) (swaps_false (by rfl)) (fun _ _ => rfl) rfl)
  refine comp2 (d0 := none) (d1 := none) (rest := [some ((plainG ps).d a)]) (l := (("$accept", ["S", "$end"]) :: ps : Pr)) (h1 := fun p => .str p.1) (h2 := fun p => .list (strL p.2)) (fun p => D.tup [.int (posOf (namesF ps) p.1 : Nat), .list (intL (p.2.map (posOf (namesF ps))))]) (by rfl) (by rfl) (tab_inj (by rfl)) (by rw [List.length_cons]; (first | with_reducible assumption | exact Nat.lt_of_lt_of_le (by assumption) (by decide) | exact Nat.lt_of_le_of_lt (by assumption) (by decide) | lia | omega)) (fun p mp R r => ?_) ?_
  · have hin : p.1 ∈ namesF ps ∧ (∀ x ∈ p.2, x ∈ namesF ps) ∧ p.2.length ≤ 3 := by
      rcases List.mem_cons.mp mp with rfl | mp
      · refine ⟨accept_in ps, fun x mx => ?_, by decide⟩
        rcases List.mem_cons.mp mx with rfl | mx
        · exact (head_left hS).2
        · rw [List.mem_singleton.mp mx]; exact end_in ps
      · exact ⟨left_in hp mp, fun x mx => part_in hp mp mx, hp.few p mp⟩
    obtain ⟨i1, i2, i3⟩ := hin
    refine EX_tuple (EX_methU (EX_name (by rfl) (by rfl) ⟨_, _, _, .frozen, C.c_Grammar, C.m_Grammar_number, by rfl, EX_name (by rfl) (by rfl) (FN.le (w_grNumber C hok ?_) (by decide))⟩))
    rw [show (plainG ps).names = namesF ps from rfl, num_in i1]
    refine EX_comp (tab' := tab_law_c1_c0) (comp_ok (by rfl)) (by rfl) (cap_of (by rfl) (by rfl)) (SRC_list (EX_name (by rfl) (by rfl) ⟨_, rfl, ?_⟩))
    refine comp1 (d0 := none) (rest := [some ((plainG ps).d a)]) (f := fun d => match d with | .str x => .int (posOf (namesF ps) x : Nat) | _ => .none) (by rfl) (tab_inj (by rfl)) (by rw [strL_len]; (first | with_reducible assumption | exact Nat.lt_of_lt_of_le (by assumption) (by decide) | exact Nat.lt_of_le_of_lt (by assumption) (by decide) | lia | omega)) (fun d md R r => ?_) ⟨(by show 2 < 2 ^ 20; decide), ?_⟩
    · obtain ⟨x, mx, rfl⟩ := List.mem_map.mp md
      refine EX_methU (EX_name (by rfl) (by rfl) ⟨_, _, _, .frozen, C.c_Grammar, C.m_Grammar_number, by rfl, EX_name (by rfl) (by rfl) (FN.le (w_grNumber C hok ?_) (by decide))⟩)
      rw [show (plainG ps).names = namesF ps from rfl, num_in (i2 x mx)]; exact r
    · have : (strL p.2).map (fun d => match d with | .str x => D.int (posOf (namesF ps) x : Nat) | _ => .none) = intL (p.2.map (posOf (namesF ps))) := by
        unfold strL intL; rw [List.map_map, List.map_map]; rfl
      rw [this]; exact r
  rw [rules_as ps hp hS]
  refine AX_name (by rfl) (tab_inj (by rfl)) ⟨rfl, ?_⟩
  have hB := plain_bound hD h1 h2
  have h0 : 0 < (plainG ps).rules.length := Nat.succ_pos _
  generalize hg : (plainG ps).d a = gd
  generalize hr : rulesL (plainG ps) = rl
  show SX _ _ _ _ _ _ [some (.list (ns.map .int)), some (.ref b), some (.list (pairsL ps)), some gd, some (.list rl), none, none, none, none, none, none, none, none, none, none, none, none, none] _ _ _
  subst hg
  subst hr
  refine SX_next ?_
  refine S1_tuple (by rfl) (EX_call (C.cg (by rfl) (by rfl) (by rfl)) (.of C.d_states.keep) (EX_name (by rfl) (by rfl) (FN.op (FN.le (w_states C hok h0 hB fun N hE => ⟨_, rfl, rfl, AX_name (by rfl) (tab_inj (by rfl)) (AX_name (by rfl) (tab_inj (by rfl)) (AX_name (by rfl) (tab_inj (by rfl)) ⟨rfl, ?_⟩))⟩) (by decide))))) (by rfl) (fun _ _ => rfl)
  generalize hg : (plainG ps).d a = gd
  generalize hr : rulesL (plainG ps) = rl
  generalize hk : kerL (bfs (plainG ps) N).1 = kl
  generalize hi : itsL (plainG ps) N = il
  generalize hm : movL (bfs (plainG ps) N).2 = ml
  show SX _ _ _ _ _ _ [some (.list (ns.map .int)), some (.ref b), some (.list (pairsL ps)), some gd, some (.list rl), some (.list kl), some (.list il), some (.list ml), none, none, none, none, none, none, none, none, none, none] _ _ _
  subst hg
  refine SX_next (S1_name (by rfl) (tab_inj (by rfl)) (EX_call (C.cg (by rfl) (by rfl) (by rfl)) (.of C.d_build.keep) (EX_name (by rfl) (by rfl) (FN.op (FN.le (w_build C hok h0 hB fun N' d hE' hA => ⟨rfl, ?_⟩) (by decide))))))
  cases hE.uniq hE'
  subst hr hk hi hm
  refine SX_melt (G'' := G.put b (.list lt')) (ρ'' := lawR b a ns (plainG ps) N (some d) none none none none none none none none none) (fun x y hx => ⟨y, hx, .same _⟩) (.some (.same _) (.some (.same _) (.none (.some (.same _) (.some (.same _) (.some (.same _) (.some (.same _) (.some (.same _) (.some (.same _) (.none (.none (.none (.none (.none (.none (.none (.none (.none .nil)))))))))))))))))) ?_
  exact q ps m b lt' _ d N hb h1 h2 hD hS hT' (by decide) hE hA
end
noncomputable def lawFor (j : Nat) : List Stmt := subB (bodyF (stT 33))[j]?

section
variable {prog : Program} {w : World} {K : Frag} {a : Ad} {n : Nat} {sc : Scope} {tab : Tab} {ρ : Loc} {G G' : GH} {Q : D → GH → Prop} {g : Gr} {k : List (Nat × Nat)}
theorem itsL_item {N i : Nat} (h : i < N) : itemAt (itsL g N) (i : Nat) = some (kerD (clo g ((bfs g N).1.getD i []))) := by
  unfold itemAt itsL
  rw [if_pos (Int.natCast_nonneg _), Int.toNat_natCast, List.getElem?_map, List.getElem?_range h]; rfl
theorem items_comp (C : Ctx w K a) (ok : g.Ok) (hk : g.Its k) (hz : k.length < 100) {p1 p2 p3 p4 p5 p6 p7 p8 : Pos} {kk : Nat} {Q' : List D → GH → Prop} (ht : tab = tab_law_c3) (q : Q' (encL g k) G)
    (he : ∀ env, ∃ pl, eval (.Call (.Attribute (.Name "grammar" p4) "item" p5) [.Name "number" p6, .Name "dot" p7] [] p8) env = (do
      let ov ← eval (.Name "grammar" p4) env
      standAt p5.atName
      let (f, first) ← holding [ov] (getMethod ov "item" pl)
      callWith p8 f first (backTo p8 (starEach [.Name "number" p6, .Name "dot" p7] env)) []) := by intro _; exact ⟨_, rfl⟩) :
    CompX prog w K (n + 1) sc tab (.Tuple [.Name "number" p1, .Name "dot" p2] kk p3) [] (.Call (.Attribute (.Name "grammar" p4) "item" p5) [.Name "number" p6, .Name "dot" p7] [] p8) Q' (pairL k) [] [none, none, some (g.d a)] G := by
  subst ht
  refine comp2 (d0 := none) (d1 := none) (rest := [some (g.d a)]) (l := k) (h1 := fun p => .int (p.1 : Nat)) (h2 := fun p => .int (p.2 : Nat)) (fun p => .int (g.enc p : Nat)) (by rfl) (by rfl) (tab_inj (by rfl)) (by (first | with_reducible assumption | exact Nat.lt_of_lt_of_le (by assumption) (by decide) | exact Nat.lt_of_le_of_lt (by assumption) (by decide) | lia | omega)) (fun p mp R r => ?_) ?_
  · exact EX_methU (EX_name (by rfl) (by rfl) ⟨_, _, _, .frozen, C.c_Grammar, C.m_Grammar_item, by rfl, EX_name (by rfl) (by rfl) (EX_name (by rfl) (by rfl) (FN.le (w_item C ok (hk p mp) r) (Nat.succ_le_succ (Nat.zero_le n))))⟩) (he := he)
  · have : k.map (fun p => D.int (g.enc p : Nat)) = encL g k := by unfold encL intL; rw [List.map_map]; rfl
    rw [this]; exact q
theorem whole_eq (hk : g.Its k) : (k.filter fun p => decide (p.2 = (g.right p.1).length ∧ 0 < p.1)).map (fun p => D.int (p.1 : Nat)) = (zL (compOf g k)).map .int := by
  rw [zL_int]
  unfold compOf intL
  rw [List.map_map]
  have : (k.filter fun p => decide (p.2 = (g.right p.1).length ∧ 0 < p.1)) = k.filter fun p => decide (nxt g p = none ∧ p.1 ≠ 0) := List.filter_congr fun p m => by
    have := (hk p m).2
    rw [decide_eq_decide]
    unfold nxt
    rw [List.getElem?_eq_none_iff]
    (first | with_reducible assumption | exact Nat.lt_of_lt_of_le (by assumption) (by decide) | exact Nat.lt_of_le_of_lt (by assumption) (by decide) | lia | omega)
  rw [this]; rfl
noncomputable abbrev turnQ (b : Addr) (a : Ad) (ns : List Int) (g : Gr) (N : Nat) (d : Option D) (G : GH) (e14 e15 e16 e17 : Option D) : Fl → Loc → GH → Prop := fun fl ρ' G' => fl = .next ∧ G' = G ∧ ∃ e9 e10 e11 e12 e13, ρ' = lawR b a ns g N d e9 e10 e11 e12 e13 e14 e15 e16 e17
theorem law_turn0 (C : Ctx w K a) (ok : g.Ok) {N i : Nat} {b : Addr} {ns : List Int} {its : List (Nat × Nat)} {mv : Mv} (hi : i < 2 ^ 20) (hkI : g.Its k) (hkl : k.length ≤ 32) (hcI : g.Its its) (hcl : its.length < 64) (hcr : clo g k.reverse = its) (hmv : ∀ x, goD mv x = goX g N i x)
    (hki : itemAt (kerL (bfs g N).1) (i : Nat) = some (kerD k)) (hii : itemAt (itsL g N) (i : Nat) = some (kerD its)) (hmi : itemAt (movL (bfs g N).2) (i : Nat) = some (.dict (movD mv))) {sy : Int} {sh : Bool} {d8 d11 d12 d13 d14 d15 d16 d17 : Option D} :
    SX prog w K 8 (scopeF (stT 33)) tab_law (lawR b a ns g N d8 (some (.int (i : Nat))) (some (recD a g i k ⟨its, mv, redS g its⟩ sy sh)) d11 d12 d13 d14 d15 d16 d17) G (lawFor 7) (turnQ b a ns g N d8 G d14 d15 d16 d17) := by
  have hns := ok.ns
  refine SX_next (S1_comp (i := 11) (tab' := tab_law_c3) (by rfl) (tab_inj (by rfl)) (comp_ok (by rfl)) (by rfl) (cap_of (by rfl) (by rfl)) (SRC_list (EX_index (EX_name (by rfl) (by rfl) (EX_name (by rfl) (by rfl) ⟨_, _, _, .list, rfl, by (first | with_reducible assumption | exact Nat.lt_of_lt_of_le (by assumption) (by decide) | exact Nat.lt_of_le_of_lt (by assumption) (by decide) | lia | omega), hii, _, rfl, ?_⟩)))) (by intro _ _; rfl) (swaps_true (by rfl) (by rfl)))
  refine items_comp (n := 7) C ok hcI (by (first | with_reducible assumption | exact Nat.lt_of_lt_of_le (by assumption) (by decide) | exact Nat.lt_of_le_of_lt (by assumption) (by decide) | lia | omega)) (by rfl) ⟨rfl, ?_⟩
  show SX _ _ _ _ _ _ (lawR b a ns g N d8 (some (.int (i : Nat))) (some (recD a g i k ⟨its, mv, redS g its⟩ sy sh)) (some (.list (encL g its))) d12 d13 d14 d15 d16 d17) _ _ _
  refine SX_next (S1_comp (i := 12) (tab' := tab_law_c4) (by rfl) (tab_inj (by rfl)) (comp_ok (by rfl)) (by rfl) (cap_of (by rfl) (by rfl)) (SRC_list (EX_index (EX_name (by rfl) (by rfl) (EX_name (by rfl) (by rfl) ⟨_, _, _, .list, rfl, by (first | with_reducible assumption | exact Nat.lt_of_lt_of_le (by assumption) (by decide) | exact Nat.lt_of_le_of_lt (by assumption) (by decide) | lia | omega), hki, _, rfl, ?_⟩)))) (by intro _ _; rfl) (swaps_true (by rfl) (by rfl)))
  refine items_comp (n := 7) C ok hkI (by (first | with_reducible assumption | exact Nat.lt_of_lt_of_le (by assumption) (by decide) | exact Nat.lt_of_le_of_lt (by assumption) (by decide) | lia | omega)) (by rfl) ⟨rfl, ?_⟩
  show SX _ _ _ _ _ _ (lawR b a ns g N d8 (some (.int (i : Nat))) (some (recD a g i k ⟨its, mv, redS g its⟩ sy sh)) (some (.list (encL g its))) (some (.list (encL g k))) d13 d14 d15 d16 d17) _ _ _
  refine SX_next (S1_name (by rfl) (tab_inj (by rfl)) (EX_call (C.cb (by rfl) (by rfl) (by rfl)) (.builtin _) (EX_comp (tab' := tab_law_c5) (comp_ok (by rfl)) (by rfl) (cap_of (by rfl) (by rfl)) (SRC_list (EX_index (EX_name (by rfl) (by rfl) (EX_name (by rfl) (by rfl) ⟨_, _, _, .list, rfl, by (first | with_reducible assumption | exact Nat.lt_of_lt_of_le (by assumption) (by decide) | exact Nat.lt_of_le_of_lt (by assumption) (by decide) | lia | omega), hii, _, rfl, ?_⟩)))))))
  refine comp2F (d0 := none) (d1 := none) (rest := [some (.list (rulesL g))]) (l := its) (h1 := fun p => .int (p.1 : Nat)) (h2 := fun p => .int (p.2 : Nat)) (fun p => decide (p.2 = (g.right p.1).length ∧ 0 < p.1)) (fun p => .int (p.1 : Nat)) (by rfl) (by rfl) (tab_inj (by rfl)) (by (first | with_reducible assumption | exact Nat.lt_of_lt_of_le (by assumption) (by decide) | exact Nat.lt_of_le_of_lt (by assumption) (by decide) | lia | omega)) (fun p mp R r => ?_) (fun p mp hc R r => EX_name (by rfl) (by rfl) r) ?_
  · have hI := hcI p mp
    have h1 := hI.1
    have hb := hI.bound ok
    have hnr := ok.nr
    have hrl : (g.right p.1).length ≤ 3 := ok.rl _ (by
      rw [List.getD_eq_getElem?_getD, List.getElem?_eq_getElem h1]; exact List.getElem_mem _)
    refine TX_and (TX_cmp (EX_name (by rfl) (by rfl) (EX_call (C.cb (by rfl) (by rfl) (by rfl)) (.builtin _) (EX_index (EX_index (EX_name (by rfl) (by rfl) (EX_name (by rfl) (by rfl) ⟨_, _, _, .list, rfl, by (first | with_reducible assumption | exact Nat.lt_of_lt_of_le (by assumption) (by decide) | exact Nat.lt_of_le_of_lt (by assumption) (by decide) | lia | omega), ruleP_item h1, EX_int ⟨_, _, _, .tup, rfl, by decide, rfl, OP_len .list (by rw [intL_len]; (first | with_reducible assumption | exact Nat.lt_of_lt_of_le (by assumption) (by decide) | exact Nat.lt_of_le_of_lt (by assumption) (by decide) | lia | omega)) (OP_eqi ⟨_, rfl, fun e => ?_, fun e => ?_⟩)⟩⟩)))))))
    · rw [intL_len] at e
      have e : p.2 = (g.right p.1).length := Int.ofNat.inj (eq_of_beq e)
      refine TX_cmp (EX_name (by rfl) (by rfl) (EX_int (OP_gt ⟨_, rfl, ?_⟩)))
      have : decide (((p.1 : Nat) : Int) > 0) = decide (p.2 = (g.right p.1).length ∧ 0 < p.1) := by
        rw [decide_eq_decide]; (first | with_reducible assumption | exact Nat.lt_of_lt_of_le (by assumption) (by decide) | exact Nat.lt_of_le_of_lt (by assumption) (by decide) | lia | omega)
      rw [this]; exact r
    · rw [intL_len] at e
      have : decide (p.2 = (g.right p.1).length ∧ 0 < p.1) = false := by
        rw [decide_eq_false_iff_not]
        rintro ⟨h, _⟩
        rw [h, beq_self_eq_true] at e; cases e
      rw [this] at r; exact r
  rw [whole_eq hcI]
  have hcol : (compOf g its).length ≤ its.length := by unfold compOf; rw [List.length_map]; exact List.length_filter_le ..
  refine OP_sortI (ns := zL (compOf g its)) .list (by unfold zL; rw [List.length_map]; (first | with_reducible assumption | exact Nat.lt_of_lt_of_le (by assumption) (by decide) | exact Nat.lt_of_le_of_lt (by assumption) (by decide) | lia | omega)) fun zs hp hs => ⟨rfl, ?_⟩
  rw [sort_eqD hp hs]
  show SX _ _ _ _ _ _ (lawR b a ns g N d8 (some (.int (i : Nat))) (some (recD a g i k ⟨its, mv, redS g its⟩ sy sh)) (some (.list (encL g its))) (some (.list (encL g k))) (some (.list (intL (redS g its)))) d14 d15 d16 d17) _ _ _
  have hrd : (redS g its).length ≤ its.length := by unfold redS; rw [sortN_len]; exact hcol
  have hek : (encL g k).length = k.length := encL_len g k
  refine SX_next (S1_if (TX_or (TX_cmp (EX_attr (EX_name (by rfl) (by rfl) ⟨_, _, _, .frozen, C.c_LrState, C.a_LrState _ (by decide), by rfl, EX_name (by rfl) (by rfl) (OP_nei ⟨_, rfl, fun e => ?_, fun _ => ?_⟩)⟩)))))
  · rw [bne_self_eq_false] at e; cases e
  refine TX_cmp (EX_call (C.cb (by rfl) (by rfl) (by rfl)) (.type _) (EX_attr (EX_name (by rfl) (by rfl) ⟨_, _, _, .frozen, C.c_LrState, C.a_LrState _ (by decide), by rfl, OP_list .tup (by (first | with_reducible assumption | exact Nat.lt_of_lt_of_le (by assumption) (by decide) | exact Nat.lt_of_le_of_lt (by assumption) (by decide) | lia | omega)) (EX_name (by rfl) (by rfl) (OP_neI (ns := encI g k) (ms := encI g k) (by rw [encI_D]; exact .frozen) (by rw [encI_D]; exact .frozen) ⟨_, rfl, fun e => ?_, fun _ => ?_⟩))⟩)))
  · rw [decide_eq_true rfl] at e; cases e
  refine TX_cmp (EX_attr (EX_name (by rfl) (by rfl) ⟨_, _, _, .frozen, C.c_LrState, C.a_LrState _ (by decide), by rfl, EX_name (by rfl) (by rfl) (OP_neI (ns := encI g its) (ms := encI g its) (by rw [encI_D]; exact .frozen) (by rw [encI_D]; exact .frozen) ⟨_, rfl, fun e => ?_, fun _ => ?_⟩)⟩))
  · rw [decide_eq_true rfl] at e; cases e
  refine TX_cmp (EX_attr (EX_name (by rfl) (by rfl) ⟨_, _, _, .frozen, C.c_LrState, C.a_LrState _ (by decide), by rfl, EX_name (by rfl) (by rfl) (OP_neI (ns := zL (redS g its)) (ms := zL (redS g its)) (by rw [zL_int]; exact .frozen) (by rw [zL_int]; exact .frozen) ⟨_, rfl, fun e => ?_, fun _ => ?_⟩)⟩))
  · rw [decide_eq_true rfl] at e; cases e
  refine ⟨fun e => (nomatch e), fun _ => SX_nil ⟨rfl, ?_⟩⟩
  refine SX_next (S1_if (TX_cmp (EX_comp (tab' := tab_law_c6) (comp_ok (by rfl)) (by rfl) (cap_of (by rfl) (by rfl)) (SRC_range (C.cb (by rfl) (by rfl) (by rfl)) (EX_methU (EX_name (by rfl) (by rfl) ⟨_, _, _, .frozen, C.c_Grammar, C.m_Grammar_symbol_count, by rfl, FN.le (w_count C ok ⟨_, rfl, by (first | with_reducible assumption | exact Nat.lt_of_lt_of_le (by assumption) (by decide) | exact Nat.lt_of_le_of_lt (by assumption) (by decide) | lia | omega), ?_⟩) (by decide)⟩))))))
  refine comp1 (d0 := none) (rest := [some (recD a g i k ⟨its, mv, redS g its⟩ sy sh)]) (f := fun d => match d with | .int x => .int (goX g N i x.toNat) | _ => .none) (by rfl) (tab_inj (by rfl)) (by rw [List.length_map, List.length_range]; (first | with_reducible assumption | exact Nat.lt_of_lt_of_le (by assumption) (by decide) | exact Nat.lt_of_le_of_lt (by assumption) (by decide) | lia | omega)) (fun d md R r => ?_) ?_
  · obtain ⟨x, mx, rfl⟩ := List.mem_map.mp md
    refine EX_methU (EX_name (by rfl) (by rfl) ⟨_, _, _, .frozen, C.c_LrState, C.m_LrState_goto, by rfl, EX_name (by rfl) (by rfl) (FN.le (w_lrGoto C ?_) (by decide))⟩)
    show R (.int (goD mv x)) G
    rw [hmv]; exact r
  have hgl : ((List.range g.names.length).map fun i => D.int (i : Nat)).map (fun d => match d with | .int x => D.int (goX g N i x.toNat) | _ => .none) = ((List.range g.names.length).map (goX g N i)).map .int := by
    rw [List.map_map, List.map_map]; rfl
  rw [hgl]
  refine EX_comp (tab' := tab_law_c7) (comp_ok (by rfl)) (by rfl) (cap_of (by rfl) (by rfl)) (SRC_range (C.cb (by rfl) (by rfl) (by rfl)) (EX_methU (EX_name (by rfl) (by rfl) ⟨_, _, _, .frozen, C.c_Grammar, C.m_Grammar_symbol_count, by rfl, FN.le (w_count C ok ⟨_, rfl, by (first | with_reducible assumption | exact Nat.lt_of_lt_of_le (by assumption) (by decide) | exact Nat.lt_of_le_of_lt (by assumption) (by decide) | lia | omega), ?_⟩) (by decide)⟩)))
  refine comp1 (d0 := none) (rest := [some (.list (movL (bfs g N).2)), some (.int (i : Nat))]) (f := fun d => match d with | .int x => .int (goX g N i x.toNat) | _ => .none) (by rfl) (tab_inj (by rfl)) (by rw [List.length_map, List.length_range]; (first | with_reducible assumption | exact Nat.lt_of_lt_of_le (by assumption) (by decide) | exact Nat.lt_of_le_of_lt (by assumption) (by decide) | lia | omega)) (fun d md R r => ?_) ?_
  · obtain ⟨x, mx, rfl⟩ := List.mem_map.mp md
    refine EX_methB PySem.F.slot_dict_get PySem.F.plainAttrs_dict PySem.F.type_dict_get (EX_index (EX_name (by rfl) (by rfl) (EX_name (by rfl) (by rfl) ⟨_, _, _, .list, rfl, by (first | with_reducible assumption | exact Nat.lt_of_lt_of_le (by assumption) (by decide) | exact Nat.lt_of_le_of_lt (by assumption) (by decide) | lia | omega), hmi, .dic .frozen, EX_name (by rfl) (by rfl) (EX_neg (OP_get C.ok.sys .frozen ?_))⟩)))
    rw [lookD_mov, hmv]; exact r
  rw [hgl]
  refine OP_neI .frozen .frozen ⟨_, rfl, fun e => ?_, fun _ => SX_nil ⟨rfl, ?_⟩⟩
  · rw [decide_eq_true rfl] at e; cases e
  refine SX_next (S1_if (TX_cmp (EX_call (C.cg (by rfl) (by rfl) (by rfl)) (.of C.d_closure.keep) (EX_name (by rfl) (by rfl) (EX_call (C.cb (by rfl) (by rfl) (by rfl)) (.type _) (EX_back (EX_name (by rfl) (by rfl) ⟨_, .frozen, by (first | with_reducible assumption | exact Nat.lt_of_lt_of_le (by assumption) (by decide) | exact Nat.lt_of_le_of_lt (by assumption) (by decide) | lia | omega), OP_tuple .frozen (by rw [List.length_reverse]; (first | with_reducible assumption | exact Nat.lt_of_lt_of_le (by assumption) (by decide) | exact Nat.lt_of_le_of_lt (by assumption) (by decide) | lia | omega)) ?_⟩)))))))
  rw [encL_rev]
  refine FN.op (FN.le (v_closure C ok (fun x m => hkI x (List.mem_reverse.mp m)) (by rw [List.length_reverse]; (first | with_reducible assumption | exact Nat.lt_of_lt_of_le (by assumption) (by decide) | exact Nat.lt_of_le_of_lt (by assumption) (by decide) | lia | omega)) ?_) (by decide))
  rw [hcr]
  refine EX_name (by rfl) (by rfl) (OP_neI (ns := encI g its) (ms := encI g its) (by rw [encI_D]; exact .frozen) (by rw [encI_D]; exact .frozen) ⟨_, rfl, fun e => ?_, fun _ => SX_nil ⟨rfl, SX_nil ⟨rfl, rfl, _, _, _, _, _, rfl⟩⟩⟩)
  rw [decide_eq_true rfl] at e; cases e
theorem law_turn (C : Ctx w K a) (ok : g.Ok) (h0 : 0 < g.rules.length) {N i : Nat} (hE : End g N) (hi : i < N) (hN : N < 2 ^ 20) {b : Addr} {ns : List Int} {sy : Int} {sh : Bool} {d8 d11 d12 d13 d14 d15 d16 d17 : Option D} :
    SX prog w K 8 (scopeF (stT 33)) tab_law (lawR b a ns g N d8 (some (.int (i : Nat))) (some (recD a g i ((bfs g N).1.getD i []) (RR g N i) sy sh)) d11 d12 d13 d14 d15 d16 d17) G (lawFor 7) (turnQ b a ns g N d8 G d14 d15 d16 d17) := by
  have hks : i < (bfs g N).1.length := by rw [← hE.1]; exact hi
  have hmem : (bfs g N).1.getD i [] ∈ (bfs g N).1 := by rw [List.getD_eq_getElem?_getD, List.getElem?_eq_getElem hks]; exact List.getElem_mem hks
  have hkI := bfs_its h0 N _ hmem
  have hkl := its_len ok hkI (bfs_nodup N _ hmem)
  have hRR : RR g N i = ⟨clo g ((bfs g N).1.getD i []), (bfs g N).2.getD i [], redS g (clo g ((bfs g N).1.getD i []))⟩ := by unfold RR; rw [if_pos hi]
  rw [hRR]
  refine law_turn0 C ok (by (first | with_reducible assumption | exact Nat.lt_of_lt_of_le (by assumption) (by decide) | exact Nat.lt_of_le_of_lt (by assumption) (by decide) | lia | omega)) hkI hkl (clo_its hkI) ?_ (clo_perm (List.reverse_perm _) fun x m => its_small ok hkI x (List.mem_reverse.mp m)) (fun x => rfl) (kerL_item hks) (itsL_item hi) (movL_item (by rw [bfs_rows]; exact hi))
  unfold clo
  rw [List.length_append, (srt_perm _).length_eq]
  have := addL_len ok (k := (bfs g N).1.getD i [])
  (first | with_reducible assumption | exact Nat.lt_of_lt_of_le (by assumption) (by decide) | exact Nat.lt_of_le_of_lt (by assumption) (by decide) | lia | omega)
end
theorem last_neg {l : List Int} (h : l ≠ []) : itemAt (l.map D.int) (-1) = some (.int (l.getLastD 0)) := by
  have hp := List.length_pos_iff.mpr h
  unfold itemAt
  rw [if_neg (by decide), List.length_map, if_pos (by (first | with_reducible assumption | exact Nat.lt_of_lt_of_le (by assumption) (by decide) | exact Nat.lt_of_le_of_lt (by assumption) (by decide) | lia | omega)), List.getElem?_map]
  have e1 : (-1 + (l.length : Int)).toNat = l.length - 1 := by (first | with_reducible assumption | exact Nat.lt_of_lt_of_le (by assumption) (by decide) | exact Nat.lt_of_le_of_lt (by assumption) (by decide) | lia | omega)
  rw [e1, ← List.getLast?_eq_getElem?, List.getLastD_eq_getLast?]
  cases z : l.getLast? with
  | none => rw [List.getLast?_eq_none_iff] at z; exact absurd z h
  | some v => rfl
theorem led_ne (g : Gr) (N : Nat) : ∀ (xs : List Nat) (l : List Int), l ≠ [] → xs.foldl (ledS g N) l ≠ []
  | [], l, h => h
  | x :: xs, l, h => led_ne g N xs _ (by
    unfold ledS
    split
    · intro e; exact h (List.append_eq_nil_iff.mp e).1
    · exact h)
theorem ledF_ne (g : Gr) (N s : Nat) (xs : List Nat) : ledF g N s xs ≠ [] := led_ne g N xs _ (List.cons_ne_nil _ _)
section
variable {prog : Program} {w : World} {K : Frag} {a : Ad} {n : Nat} {sc : Scope} {tab : Tab} {ρ : Loc} {G G' : GH} {Q : D → GH → Prop} {g : Gr}
theorem law_walk (C : Ctx w K a) (ok : g.Ok) {N k : Nat} {d : D} {lt : List D} {b : Addr} (hE : End g N) (hpos : 0 < N) (hnm : 0 < g.names.length) (hN : N < 2 ^ 20) (hA : AutoD a g N d) (hT : Tp lt k) (hk : k + 10 < 2 ^ 19) {ns : List Int} {d9 d10 d11 d12 d13 d14 d15 d16 d17 : Option D} :
    SX prog w K 8 (scopeF (stT 33)) tab_law (lawR b a ns g N (some d) d9 d10 d11 d12 d13 d14 d15 d16 d17) (G.put b (.list lt)) (lawFor 8)
      (fun fl ρ' G' => fl = .next ∧ ∃ lt', Tp lt' (k + 10) ∧ G' = G.put b (.list lt') ∧ ∃ e14 e15 e16 e17, ρ' = (lawR b a ns g N (some d) d9 d10 d11 d12 d13 e14 e15 e16 e17)) := by
  have hns := ok.ns
  have hklen : (kerL (bfs g N).1).length = N := by rw [kerL_len, ← hE.1]
  refine SX_next (S1_name (by rfl) (tab_inj (by rfl)) (EX_call (C.cg (by rfl) (by rfl) (by rfl)) (.of C.d_draw.keep) (EX_name (by rfl) (by rfl) (EX_call (C.cb (by rfl) (by rfl) (by rfl)) (.builtin _) (EX_name (by rfl) (by rfl) (OP_len .list (by (first | with_reducible assumption | exact Nat.lt_of_lt_of_le (by assumption) (by decide) | exact Nat.lt_of_le_of_lt (by assumption) (by decide) | lia | omega)) ?_))))))
  rw [hklen]
  refine FN.op (FN.le (w_draw C GH.put_self hT (by (first | with_reducible assumption | exact Nat.lt_of_lt_of_le (by assumption) (by decide) | exact Nat.lt_of_le_of_lt (by assumption) (by decide) | lia | omega)) hpos (by (first | with_reducible assumption | exact Nat.lt_of_lt_of_le (by assumption) (by decide) | exact Nat.lt_of_le_of_lt (by assumption) (by decide) | lia | omega)) fun s lt1 hs hT1 => ⟨rfl, ?_⟩) (by decide))
  rw [put_put]
  show SX _ _ _ _ _ _ (lawR b a ns g N (some d) d9 d10 d11 d12 d13 d14 (some (.int (s : Nat))) d16 d17) _ _ _
  refine SX_next (S1_comp (i := 16) (tab' := tab_law_c8) (by rfl) (tab_inj (by rfl)) (comp_ok (by rfl)) (by rfl) (cap_of (by rfl) (by rfl)) (SRC_range (C.cb (by rfl) (by rfl) (by rfl)) (EX_call (C.cg (by rfl) (by rfl) (by rfl)) (.of C.d_draw.keep) (EX_name (by rfl) (by rfl) (EX_int (FN.op (FN.le (w_draw (many := 4) C GH.put_self hT1 (by (first | with_reducible assumption | exact Nat.lt_of_lt_of_le (by assumption) (by decide) | exact Nat.lt_of_le_of_lt (by assumption) (by decide) | lia | omega)) (by decide) (by decide) fun m lt2 hm2 hT2 => ⟨m, rfl, by (first | with_reducible assumption | exact Nat.lt_of_lt_of_le (by assumption) (by decide) | exact Nat.lt_of_le_of_lt (by assumption) (by decide) | lia | omega), ?_⟩) (by decide))))))) (by intro _ _; rfl) (swaps_true (by rfl) (by rfl)))
  rw [put_put]
  let J : Nat → List D → Loc → GH → Prop := fun i acc ρ G' => ∃ (xs : List Nat) (l3 : List D) (e : Option D), acc = intL xs ∧ xs.length = i ∧ Tp l3 (k + 2 + i) ∧ G' = G.put b (.list l3) ∧ ρ = [e, some (.ref b), some (g.d a)]
  refine CompX_ind J (fun i e acc ρ G' hi hJ => ?_) (fun acc ρ G' hJ => ?_) ⟨[], lt2, none, rfl, rfl, hT2, rfl, rfl⟩
  · obtain ⟨xs, l3, e', rfl, hx, hT3, rfl, rfl⟩ := hJ
    have him := (range_item hi).2
    refine AX_name (by rfl) (tab_inj (by rfl)) (EX_call (C.cg (by rfl) (by rfl) (by rfl)) (.of C.d_draw.keep) (EX_name (by rfl) (by rfl) (EX_methU (EX_name (by rfl) (by rfl) ⟨_, _, _, .frozen, C.c_Grammar, C.m_Grammar_symbol_count, by rfl, FN.le (w_count C ok (FN.op (FN.le (w_draw C GH.put_self hT3 (by (first | with_reducible assumption | exact Nat.lt_of_lt_of_le (by assumption) (by decide) | exact Nat.lt_of_le_of_lt (by assumption) (by decide) | lia | omega)) hnm (by (first | with_reducible assumption | exact Nat.lt_of_lt_of_le (by assumption) (by decide) | exact Nat.lt_of_le_of_lt (by assumption) (by decide) | lia | omega)) fun y l4 hy hT4 => ?_) (by decide)))) (by decide)⟩))))
    refine ⟨by rw [intL_len]; (first | with_reducible assumption | exact Nat.lt_of_lt_of_le (by assumption) (by decide) | exact Nat.lt_of_le_of_lt (by assumption) (by decide) | lia | omega), xs ++ [y], l4, _, (intL_app xs y).symm, by rw [List.length_append, hx]; rfl, hT4, put_put, rfl⟩
  obtain ⟨xs, l3, e', rfl, hx, hT3, rfl, rfl⟩ := hJ
  rw [List.length_map, List.length_range] at hx hT3
  refine ⟨rfl, ?_⟩
  show SX _ _ _ _ _ _ (lawR b a ns g N (some d) d9 d10 d11 d12 d13 d14 (some (.int (s : Nat))) (some (.list (intL xs))) d17) _ _ _
  refine SX_next (S1_name (by rfl) (tab_inj (by rfl)) (EX_call (C.cg (by rfl) (by rfl) (by rfl)) (.of C.d_led.keep) (EX_name (by rfl) (by rfl) (EX_name (by rfl) (by rfl) (EX_name (by rfl) (by rfl) (FN.op (FN.le (w_led C hN hE hs (by (first | with_reducible assumption | exact Nat.lt_of_lt_of_le (by assumption) (by decide) | exact Nat.lt_of_le_of_lt (by assumption) (by decide) | lia | omega)) ⟨rfl, ?_⟩) (by decide))))))))
  show SX _ _ _ _ _ _ (lawR b a ns g N (some d) d9 d10 d11 d12 d13 d14 (some (.int (s : Nat))) (some (.list (intL xs))) (some (.list ((ledF g N s xs).map .int)))) _ _ _
  obtain ⟨ds, hd, hl, hx'⟩ := id hA
  subst hd
  have hlen : (ledF g N s xs).length < 2 ^ 20 := by
    have : ∀ (xs : List Nat) (l : List Int), (xs.foldl (ledS g N) l).length ≤ l.length + xs.length := by
      intro xs
      induction xs with
      | nil => intro l; exact Nat.le_refl _
      | cons x xs ih =>
        intro l
        have h1 := ih (ledS g N l x)
        have h2 : (ledS g N l x).length ≤ l.length + 1 := by
          unfold ledS
          split
          · rw [List.length_append]; exact Nat.le_refl _
          · (first | with_reducible assumption | exact Nat.lt_of_lt_of_le (by assumption) (by decide) | exact Nat.lt_of_le_of_lt (by assumption) (by decide) | lia | omega)
        rw [List.foldl_cons, List.length_cons]; (first | with_reducible assumption | exact Nat.lt_of_lt_of_le (by assumption) (by decide) | exact Nat.lt_of_le_of_lt (by assumption) (by decide) | lia | omega)
    have := this xs [(s : Int)]
    rw [show ([(s : Int)] : List Int).length = 1 from rfl] at this
    unfold ledF; (first | with_reducible assumption | exact Nat.lt_of_lt_of_le (by assumption) (by decide) | exact Nat.lt_of_le_of_lt (by assumption) (by decide) | lia | omega)
  refine SX_next (S1_if (TX_or (TX_cmp (EX_methU (EX_name (by rfl) (by rfl) ⟨_, _, _, .frozen, C.c_Automaton, C.m_Automaton_walk, by rfl, EX_name (by rfl) (by rfl) (EX_name (by rfl) (by rfl) (FN.le (au_walk C hN hE hA hs (.inl rfl) ?_) (by decide)))⟩)))))
  refine EX_index (EX_name (by rfl) (by rfl) (EX_neg ⟨_, _, _, .list, rfl, by decide, last_neg (ledF_ne g N s xs), OP_nei ⟨_, rfl, fun e => ?_, fun _ => ?_⟩⟩))
  · rw [bne_self_eq_false] at e; cases e
  refine TX_cmp (EX_methU (EX_name (by rfl) (by rfl) ⟨_, _, _, .frozen, C.c_Automaton, C.m_Automaton_path, by rfl, EX_name (by rfl) (by rfl) (EX_name (by rfl) (by rfl) (FN.le (w_auPath C hN hE hA hs (by (first | with_reducible assumption | exact Nat.lt_of_lt_of_le (by assumption) (by decide) | exact Nat.lt_of_le_of_lt (by assumption) (by decide) | lia | omega)) ?_) (by decide)))⟩))
  refine EX_comp (tab' := tab_law_c9) (comp_ok (by rfl)) (by rfl) (cap_of (by rfl) (by rfl)) (SRC_list (EX_name (by rfl) (by rfl) ⟨_, rfl, ?_⟩))
  refine comp1F (d0 := none) (rest := []) (c := fun d => match d with | .int x => decide (0 ≤ x) | _ => true) (f := fun d => d) (by rfl) (tab_inj (by rfl)) (by rw [List.length_map]; (first | with_reducible assumption | exact Nat.lt_of_lt_of_le (by assumption) (by decide) | exact Nat.lt_of_le_of_lt (by assumption) (by decide) | lia | omega)) (fun d md R r => ?_) (fun d md hc R r => EX_name (by rfl) (by rfl) r) ?_
  · obtain ⟨x, mx, rfl⟩ := List.mem_map.mp md
    exact TX_cmp (EX_name (by rfl) (by rfl) (EX_int (OP_ge ⟨_, rfl, r⟩)))
  have hfl : (((ledF g N s xs).map D.int).filter fun d => match d with | .int x => decide (0 ≤ x) | _ => true).map (fun d => d) = ((ledF g N s xs).filter fun x => decide (0 ≤ x)).map .int := by
    rw [List.map_id', List.filter_map]; rfl
  rw [hfl]
  refine OP_neI .frozen .frozen ⟨_, rfl, fun e => ?_, fun _ => ⟨fun e => (nomatch e), fun _ => SX_nil ⟨rfl, SX_nil ⟨rfl, l3, ?_, rfl, _, _, _, _, rfl⟩⟩⟩⟩
  · rw [decide_eq_true rfl] at e; cases e
  · obtain ⟨d1, s1, c1, e1, t1, t2, t3, t4, t5⟩ := hT3
    exact ⟨d1, s1, c1, e1, t1, t2, t3, t4, by (first | with_reducible assumption | exact Nat.lt_of_lt_of_le (by assumption) (by decide) | exact Nat.lt_of_le_of_lt (by assumption) (by decide) | lia | omega)⟩
end
section
variable {prog : Program} {w : World} {K : Frag} {a : Ad} {n : Nat} {sc : Scope} {tab : Tab} {ρ : Loc} {G G' : GH} {Q : D → GH → Prop} {g : Gr}
theorem exp_row_len (b : Nat → List (Nat × Nat)) (xs : List Nat) (st : Ks × Mv) : (xs.foldl (expS b) st).2.length = st.2.length + xs.length := by
  have := congrArg List.length (exp_mv b xs st)
  rw [List.length_map, List.length_append, List.length_map] at this; exact this
theorem bfs_row_len {g : Gr} (ok : g.Ok) : ∀ n, ∀ r ∈ (bfs g n).2, r.length ≤ 32
  | 0, r, m => nomatch m
  | n + 1, r, m => by
    rcases List.mem_append.mp (show r ∈ (bfs g n).2 ++ [(nexts g (bfs g n).1 ((bfs g n).1.getD n [])).2] from m) with m | m
    · exact bfs_row_len ok n r m
    · rw [List.mem_singleton.mp m]
      have h1 := exp_row_len (behS g (clo g ((bfs g n).1.getD n []))) (symN g (clo g ((bfs g n).1.getD n []))) ((bfs g n).1, [])
      have h2 := symN_len ok (clo g ((bfs g n).1.getD n []))
      unfold nexts expF
      rw [h1]
      show 0 + _ ≤ _
      (first | with_reducible assumption | exact Nat.lt_of_lt_of_le (by assumption) (by decide) | exact Nat.lt_of_le_of_lt (by assumption) (by decide) | lia | omega)
theorem bfs_pos (g : Gr) : ∀ n, 0 < (bfs g n).1.length
  | 0 => Nat.zero_lt_one
  | n + 1 => Nat.lt_of_lt_of_le (bfs_pos g n) (bfs_le g n)
noncomputable abbrev lawE (Q : D → GH → Prop) : Fl → Loc → GH → Prop := endQ (Q .none) Q
inductive LawAt (b : Addr) (a : Ad) (ns : List Int) (g : Gr) (N : Nat) (d : D) (ρ : Loc) : Prop
  | mk (e9 e10 e11 e12 e13 e14 e15 e16 e17 : Option D) (h : ρ = lawR b a ns g N (some d) e9 e10 e11 e12 e13 e14 e15 e16 e17) : LawAt b a ns g N d ρ
inductive TapeAt (b : Addr) (k : Nat) (G G' : GH) : Prop
  | mk (lt : List D) (h1 : Tp lt k) (h2 : G' = G.put b (.list lt)) : TapeAt b k G G'
theorem turn_at {b : Addr} {ns : List Int} {N : Nat} {d : D} {e14 e15 e16 e17 : Option D} {fl : Fl} (h : turnQ b a ns g N (some d) G e14 e15 e16 e17 fl ρ G') : fl = .next ∧ G' = G ∧ LawAt b a ns g N d ρ := by
  obtain ⟨h1, h2, e9, e10, e11, e12, e13, h3⟩ := h
  exact ⟨h1, h2, _, _, _, _, _, _, _, _, _, h3⟩
section
variable {N k : Nat} {b : Addr} {ns : List Int} {au : D} {e9 e10 e11 e12 e13 e14 e15 e16 e17 : Option D}
theorem law_9 (C : Ctx w K a) (ok : g.Ok) (h0 : 0 < g.rules.length) (hN : N < 2 ^ 20) (hE : End g N) (hpos : 0 < N) (hA : AutoD a g N au) (q : ∀ G', Q (.bool true) G') :
    SX prog w K 8 (scopeF (stT 33)) tab_law (lawR b a ns g N (some au) e9 e10 e11 e12 e13 e14 e15 e16 e17) G ((bodyF (stT 33)).drop 9) (lawE Q) := by
  have hright : (g.right 0).length ≤ 3 := ok.rl _ (by
    rw [List.getD_eq_getElem?_getD, List.getElem?_eq_getElem h0]; exact List.getElem_mem _)
  obtain ⟨ds, rfl, hl, hx⟩ := id hA
  refine SX_ret (EX_cmp (EX_methU (EX_name (by rfl) (by rfl) ⟨_, _, _, .frozen, C.c_Automaton, C.m_Automaton_final_state, by rfl, FN.le (w_auFinal C ok h0 hN hE hpos hA ?_) (by decide)⟩)))
  refine EX_index (EX_call (C.cg (by rfl) (by rfl) (by rfl)) (.of C.d_led.keep) (EX_name (by rfl) (by rfl) (EX_int (EX_index (EX_index (EX_name (by rfl) (by rfl) (EX_int ⟨_, _, _, .list, rfl, by decide, ruleP_item h0, EX_int ⟨_, _, _, .tup, rfl, by decide, rfl, FN.op (FN.le (w_led (s := 0) C hN hE hpos (Nat.lt_of_le_of_lt hright (by decide)) ?_) (by decide))⟩⟩)))))))
  refine EX_neg ⟨_, _, _, .list, rfl, by decide, last_neg (ledF_ne g N 0 _), OP_eqi ?_⟩
  rw [beq_self_eq_true]
  exact q _
theorem law_8 (C : Ctx w K a) (ok : g.Ok) (h0 : 0 < g.rules.length) (hnm : 0 < g.names.length) (hN : N < 2 ^ 20) (hE : End g N) (hpos : 0 < N) (hA : AutoD a g N au) {lt : List D} (hT : Tp lt k) (hk : k ≤ 100) (q : ∀ G', Q (.bool true) G') :
    SX prog w K 8 (scopeF (stT 33)) tab_law (lawR b a ns g N (some au) e9 e10 e11 e12 e13 e14 e15 e16 e17) (G.put b (.list lt)) ((bodyF (stT 33)).drop 8) (lawE Q) := by
  let J : Nat → Loc → GH → Prop := fun i ρ G' => LawAt b a ns g N au ρ ∧ TapeAt b (k + 10 * i) G G'
  refine SX_seq (J 4) (S1_for (SRC_range (C.cb (by rfl) (by rfl) (by rfl)) (EX_int ⟨4, rfl, by decide, ?_⟩))) fun ρ G' hJ => ?_
  · refine ForX_ind J (fun i d ρ G' hi hJ => ?_) (fun ρ G' hJ => ⟨rfl, hJ⟩) ⟨⟨_, _, _, _, _, _, _, _, _, rfl⟩, ⟨_, hT, rfl⟩⟩
    obtain ⟨rfl, him⟩ := range_item hi
    obtain ⟨⟨f9, f10, f11, f12, f13, f14, f15, f16, f17, rfl⟩, ⟨lt', hT', rfl⟩⟩ := hJ
    refine AX_name (by rfl) (tab_inj (by rfl)) ?_
    refine (law_walk C ok hE hpos hnm hN hA hT' (by (first | with_reducible assumption | exact Nat.lt_of_lt_of_le (by assumption) (by decide) | exact Nat.lt_of_le_of_lt (by assumption) (by decide) | lia | omega))).mono fun fl ρ' G' h => ?_
    obtain ⟨h1, lt2, hT2, h2, g14, g15, g16, g17, h3⟩ := h
    exact ⟨fun _ => ⟨⟨_, _, _, _, _, _, _, _, _, h3⟩, ⟨_, hT2, h2⟩⟩, fun d e => by rw [h1] at e; cases e⟩
  · obtain ⟨⟨f9, f10, f11, f12, f13, f14, f15, f16, f17, rfl⟩, _⟩ := hJ
    exact law_9 C ok h0 hN hE hpos hA q
theorem law_7 (C : Ctx w K a) (ok : g.Ok) (h0 : 0 < g.rules.length) (hnm : 0 < g.names.length) (hN : N < 2 ^ 20) (hE : End g N) (hpos : 0 < N) (hA : AutoD a g N au) {lt : List D} (hT : Tp lt k) (hk : k ≤ 100) (q : ∀ G', Q (.bool true) G') :
    SX prog w K 8 (scopeF (stT 33)) tab_law (lawR b a ns g N (some au) e9 e10 e11 e12 e13 e14 e15 e16 e17) (G.put b (.list lt)) ((bodyF (stT 33)).drop 7) (lawE Q) := by
  let J : Nat → Loc → GH → Prop := fun i ρ G' => LawAt b a ns g N au ρ ∧ G' = G.put b (.list lt)
  refine SX_seq (J 0) ?_ fun ρ G' hJ => ?_
  · obtain ⟨ds, hd, hl, hx⟩ := id hA
    refine S1_for (SRC_enum (C.cb (by rfl) (by rfl) (by rfl)) (EX_attr (EX_name (by rfl) (by rfl) ⟨_, _, _, by rw [hd]; exact .frozen, C.c_Automaton, C.a_Automaton _ (by decide), by rfl, _, rfl, ?_⟩)))
    refine ForX_ind J (fun i d ρ G' hi hJ => ?_) (fun ρ G' hJ => ⟨rfl, hJ⟩) ⟨⟨_, _, _, _, _, _, _, _, _, rfl⟩, rfl⟩
    obtain ⟨⟨f9, f10, f11, f12, f13, f14, f15, f16, f17, rfl⟩, rfl⟩ := hJ
    rw [List.getElem?_mapIdx] at hi
    obtain ⟨dd, hdd, rfl⟩ := Option.map_eq_some_iff.mp hi
    have hiN : i < N := by rw [← hl]; exact (List.getElem?_eq_some_iff.mp hdd).1
    obtain ⟨sy, sh, e⟩ := hx i hiN
    rw [hdd] at e
    cases e
    refine AX_tuple rfl rfl (AX_name (by rfl) (tab_inj (by rfl)) (AX_name (by rfl) (tab_inj (by rfl)) ?_))
    exact (law_turn C ok h0 hE hiN hN).mono fun fl ρ' G' h => ⟨fun _ => ⟨(turn_at h).2.2, h.2.1⟩, fun d e => by rw [h.1] at e; cases e⟩
  · obtain ⟨⟨f9, f10, f11, f12, f13, f14, f15, f16, f17, rfl⟩, rfl⟩ := hJ
    exact law_8 C ok h0 hnm hN hE hpos hA hT hk q
theorem mov_sum (g : Gr) (N : Nat) : (movL (bfs g N).2).map (fun d => match d with | .dict m => D.int (m.length : Nat) | _ => .none) = (zL ((bfs g N).2.map List.length)).map .int := by
  unfold movL zL
  rw [List.map_map, List.map_map, List.map_map]
  refine List.map_congr_left fun r _ => ?_
  show D.int ((movD r).length : Nat) = D.int (r.length : Nat)
  rw [movD_len]
theorem law_6 (C : Ctx w K a) (ok : g.Ok) (h0 : 0 < g.rules.length) (hnm : 0 < g.names.length) (hN : N < 2 ^ 20) (hE : End g N) (hpos : 0 < N) (hA : AutoD a g N au) {lt : List D} (hT : Tp lt k) (hk : k ≤ 100) (q : ∀ G', Q (.bool true) G') :
    SX prog w K 8 (scopeF (stT 33)) tab_law (lawR b a ns g N (some au) e9 e10 e11 e12 e13 e14 e15 e16 e17) (G.put b (.list lt)) ((bodyF (stT 33)).drop 6) (lawE Q) := by
  have hR : ∀ r ∈ (bfs g N).2, r.length < 2 ^ 20 := fun r mr => Nat.lt_of_le_of_lt (bfs_row_len ok N r mr) (by decide)
  have hklen : (kerL (bfs g N).1).length = N := by rw [kerL_len, ← hE.1]
  have hrows : (movL (bfs g N).2).length = N := by unfold movL; rw [List.length_map]; exact bfs_rows g N
  obtain ⟨ds, rfl, hl, hx⟩ := id hA
  refine SX_next (S1_if (TX_or (TX_cmp (EX_call (C.cb (by rfl) (by rfl) (by rfl)) (.builtin _) (EX_attr (EX_name (by rfl) (by rfl) ⟨_, _, _, .frozen, C.c_Automaton, C.a_Automaton _ (by decide), by rfl, OP_len .list (by (first | with_reducible assumption | exact Nat.lt_of_lt_of_le (by assumption) (by decide) | exact Nat.lt_of_le_of_lt (by assumption) (by decide) | lia | omega)) (EX_call (C.cb (by rfl) (by rfl) (by rfl)) (.builtin _) (EX_name (by rfl) (by rfl) (OP_len .list (by (first | with_reducible assumption | exact Nat.lt_of_lt_of_le (by assumption) (by decide) | exact Nat.lt_of_le_of_lt (by assumption) (by decide) | lia | omega)) (OP_nei ⟨_, rfl, fun e => ?_, fun _ => ?_⟩))))⟩))))))
  · rw [hl, hklen, bne_self_eq_false] at e; cases e
  refine TX_cmp (EX_methU (EX_name (by rfl) (by rfl) ⟨_, _, _, .frozen, C.c_Automaton, C.m_Automaton_transition_count, by rfl, FN.le (w_auCount C hN hR hA ?_) (by decide)⟩))
  refine EX_call (C.cb (by rfl) (by rfl) (by rfl)) (.builtin _) (EX_comp (tab' := tab_law_c2) (comp_ok (by rfl)) (by rfl) (cap_of (by rfl) (by rfl)) (SRC_list (EX_name (by rfl) (by rfl) ⟨_, rfl, ?_⟩)))
  refine comp1 (d0 := none) (rest := []) (f := fun d => match d with | .dict m => .int (m.length : Nat) | _ => .none) (by rfl) (tab_inj (by rfl)) (by (first | with_reducible assumption | exact Nat.lt_of_lt_of_le (by assumption) (by decide) | exact Nat.lt_of_le_of_lt (by assumption) (by decide) | lia | omega)) (fun d md R r => ?_) ?_
  · obtain ⟨m, mr, rfl⟩ := List.mem_map.mp md
    exact EX_call (C.cb (by rfl) (by rfl) (by rfl)) (.builtin _) (EX_name (by rfl) (by rfl) (OP_lenD C.ok.sys .frozen (by rw [movD_len]; exact Nat.lt_trans (hR m mr) (by decide)) r))
  rw [mov_sum]
  refine OP_sum .frozen ?_
  rw [sum_nat]
  refine OP_nei ⟨_, rfl, fun e => ?_, fun _ => ⟨fun e => (nomatch e), fun _ => SX_nil ⟨rfl, law_7 C ok h0 hnm hN hE hpos hA hT hk q⟩⟩⟩
  rw [bne_self_eq_false] at e; cases e
end
theorem w_law (C : Ctx w K a) {ns : List Int} (hn : ns.length ≤ 63) (q : ∀ G', Q (.bool true) G') : FN prog w K 9 G a.law [.list (ns.map .int)] Q :=
  law_a C hn fun ps m b lt k d N hb h1 h2 hD hS hT hk hE hA =>
    law_6 C (plain_ok (hD.ok h1 h2)) (Nat.succ_pos _) (List.length_pos_of_mem (accept_in ps)) (by
      have := plain_bound hD h1 h2 N
      rw [← hE.1] at this; (first | with_reducible assumption | exact Nat.lt_of_lt_of_le (by assumption) (by decide) | exact Nat.lt_of_le_of_lt (by assumption) (by decide) | lia | omega)) hE (by rw [hE.1]; exact bfs_pos _ _) hA hT hk q
end
noncomputable def evs {α : Type} : List α → List α
  | [] => []
  | [x] => [x]
  | x :: _ :: r => x :: evs r
noncomputable def ods {α : Type} : List α → List α
  | [] => []
  | [_] => []
  | _ :: y :: r => y :: ods r
noncomputable def mkT : Nat → List Obj → BT
  | 0, _ => .nil
  | _ + 1, [] => .nil
  | n + 1, x :: r => .node x (mkT n (evs r)) (mkT n (ods r))
theorem evs_get {α : Type} : ∀ (l : List α) (i : Nat), (evs l)[i]? = l[2 * i]?
  | [], i => by simp [evs]
  | [x], i => by
    cases i with
    | zero => rfl
    | succ i => simp [evs]
  | x :: y :: r, i => by
    cases i with
    | zero => rfl
    | succ i =>
      show (evs r)[i]? = (x :: y :: r)[2 * i + 2]?
      rw [evs_get r i]; rfl
theorem ods_get {α : Type} : ∀ (l : List α) (i : Nat), (ods l)[i]? = l[2 * i + 1]?
  | [], i => by simp [ods]
  | [x], i => by simp [ods]
  | x :: y :: r, i => by
    cases i with
    | zero => rfl
    | succ i =>
      show (ods r)[i]? = (x :: y :: r)[2 * i + 3]?
      rw [ods_get r i]; rfl
theorem evs_len {α : Type} : ∀ l : List α, (evs l).length ≤ l.length
  | [] => Nat.le_refl _
  | [_] => Nat.le_refl _
  | x :: _ :: r => by have := evs_len r; simp only [evs, List.length_cons]; (first | with_reducible assumption | exact Nat.lt_of_lt_of_le (by assumption) (by decide) | exact Nat.lt_of_le_of_lt (by assumption) (by decide) | lia | omega)
theorem ods_len {α : Type} : ∀ l : List α, (ods l).length ≤ l.length
  | [] => Nat.le_refl _
  | [_] => Nat.zero_le _
  | x :: _ :: r => by have := ods_len r; simp only [ods, List.length_cons]; (first | with_reducible assumption | exact Nat.lt_of_lt_of_le (by assumption) (by decide) | exact Nat.lt_of_le_of_lt (by assumption) (by decide) | lia | omega)
set_option tactic.hygienic true in
theorem mkT_get : ∀ (n : Nat) (l : List Obj) (i : Nat), l.length ≤ n → (mkT n l).get i = l[i]?
  | 0, [], i, _ => rfl
  | 0, _ :: _, _, h => absurd h (Nat.not_succ_le_zero _)
  | n + 1, [], i, _ => rfl
  | n + 1, x :: r, i, h => by
    have hr : r.length ≤ n := Nat.le_of_succ_le_succ h
    unfold mkT
    rw [BT.get_node]
    split
    · rename_i e; rw [e]; rfl
    · split
      · rw [mkT_get n _ _ (Nat.le_trans (evs_len r) hr), evs_get]
        have : i = 2 * (i / 2) + 1 := by (first | with_reducible assumption | exact Nat.lt_of_lt_of_le (by assumption) (by decide) | exact Nat.lt_of_le_of_lt (by assumption) (by decide) | lia | omega)
        rw [this, List.getElem?_cons_succ]
        congr 1; (first | with_reducible assumption | exact Nat.lt_of_lt_of_le (by assumption) (by decide) | exact Nat.lt_of_le_of_lt (by assumption) (by decide) | lia | omega)
      · rw [mkT_get n _ _ (Nat.le_trans (ods_len r) hr), ods_get]
        have : i = 2 * (i / 2 - 1) + 1 + 1 := by (first | with_reducible assumption | exact Nat.lt_of_lt_of_le (by assumption) (by decide) | exact Nat.lt_of_le_of_lt (by assumption) (by decide) | lia | omega)
        rw [this, List.getElem?_cons_succ]
        congr 1; (first | with_reducible assumption | exact Nat.lt_of_lt_of_le (by assumption) (by decide) | exact Nat.lt_of_le_of_lt (by assumption) (by decide) | lia | omega)
theorem mkT_abs (H : Heap) (n : Nat) (h : H.objs.size = n) : absHeap (mkT n H.objs.toList) n H.life = H := by
  obtain ⟨⟨l⟩, life⟩ := H
  have hl : l.length = n := by simpa using h
  show Heap.mk _ _ = Heap.mk _ _
  refine congrArg (Heap.mk · life) (congrArg List.toArray ?_)
  refine List.ext_getElem? fun i => ?_
  unfold BT.list
  rw [List.getElem?_map]
  by_cases hi : i < n
  · rw [List.getElem?_range hi]
    show some (((mkT n l).get i).getD default) = l[i]?
    rw [mkT_get n l i (Nat.le_of_eq hl), List.getElem?_eq_getElem (by (first | with_reducible assumption | exact Nat.lt_of_lt_of_le (by assumption) (by decide) | exact Nat.lt_of_le_of_lt (by assumption) (by decide) | lia | omega))]; rfl
  · rw [List.getElem?_eq_none (by rw [List.length_range]; (first | with_reducible assumption | exact Nat.lt_of_lt_of_le (by assumption) (by decide) | exact Nat.lt_of_le_of_lt (by assumption) (by decide) | lia | omega)), List.getElem?_eq_none (by (first | with_reducible assumption | exact Nat.lt_of_lt_of_le (by assumption) (by decide) | exact Nat.lt_of_le_of_lt (by assumption) (by decide) | lia | omega))]; rfl

noncomputable def topG (stp : SharedT → Thread → Option (SharedT × Thread)) (ok : Thread → Bool) : Nat → SharedT → Thread → Option SharedT
  | 0, _, _ => none
  | n + 1, s, t => match through t with
    | true => some s
    | false => match ok t with
      | false => none
      | true => match stp s t with
        | some (s', t') => topG stp ok n s' t'
        | none => none
theorem topG_of {tb : String → Option Builtin} {p : Program} {w : World} {n₀ : Nat} {ann : Option Value} : ∀ {n : Nat} {s s' : SharedT} {t : Thread}, topG (stepT (denote tb) p w) (stepOk n₀ ann) n s t = some s' → topRun tb p w n₀ ann n s.abs t = some s'.abs
  | 0, _, _, _, h => by cases h
  | n + 1, s, s', t, h => by
    unfold topG at h
    unfold topRun
    cases ht : through t with
    | true => rw [ht] at h; cases h; rfl
    | false =>
      rw [ht] at h
      cases hk : stepOk n₀ ann t with
      | false => rw [hk] at h; cases h
      | true =>
        rw [hk] at h
        cases hs : stepT (denote tb) p w s t with
        | none => rw [hs] at h; cases h
        | some r => obtain ⟨s₂, t₂⟩ := r; rw [hs] at h; rw [stepT_spec hs]; exact topG_of h

noncomputable def bootS (P : Params) (n : Nat) (os : OsState) : SharedT := ⟨mkT n (boot_heap P).objs.toList, n, (boot_heap P).life, Array.mk [], boot_drawn, boot_toks, os⟩
theorem bootS_abs (P : Params) (n : Nat) (os : OsState) (h : (boot_heap P).objs.size = n) : (bootS P n os).abs = ⟨boot_heap P, Array.mk [], boot_drawn, boot_toks, os⟩ := by
  show Shared.mk (absHeap (mkT n (boot_heap P).objs.toList) n (boot_heap P).life) _ _ _ _ = _
  rw [mkT_abs _ n h]; rfl

theorem left_of {p q : Program} {loose : List Str} {Xt : Shared → Bool} {α : Type} {Yf : Shared → α} {Ya : World → α} {N : Nat} {m₀ : Nat} {ann : Option Value} {M : Nat}
    (stp : (Code → Sem Fin) → Program → World → SharedT → Thread → Option (SharedT × Thread)) (es : @stepT = stp) (den : (String → Option Builtin) → Code → Sem Fin) (ed : denote = den) (tb : String → Option Builtin) (et : treeTable = tb) (ok : Nat → Option Value → Thread → Bool) (eo : stepOk = ok)
    (open_ : ∀ w : World, (fencedOpening treeTable p w N).map (fun s => (s.heap, s.gens, s.drawn, s.toks)) = some (boot_heap w.params, Array.mk [], boot_drawn, boot_toks))
    (size : ∀ P : Params, ((boot_heap P).isNs mainGlobals, (boot_heap P).objs.size, (boot_heap P).nsMap mainGlobals "__annotations__") = (true, m₀, ann)) (le : Nat.ble M N = true)
    (chk : ∀ w : World, (fun os => (topG (stp (den tb) p w) (ok m₀ ann) M (bootS w.params m₀ os) (topStub p)).map fun s =>
        (staticsOk (importedModules p.main.body) (boot_heap w.params) s.abs.heap && namesBound p s.abs.heap && gensDone s.abs && laidKept (boot_heap w.params) s.abs.heap, openSeen q loose (importedModules p.main.body) Xt true s.abs, Yf s.abs)) = fun _ => some (true, openGood q loose, Ya w)) : LeftO p q loose Xt Yf Ya N := fun w => by
  subst es ed et eo
  obtain ⟨⟨h, gs, d, k, os⟩, e, e'⟩ := Option.map_eq_some_iff.mp (open_ w)
  obtain ⟨rfl, rfl, rfl, rfl⟩ : h = boot_heap w.params ∧ gs = Array.mk [] ∧ d = boot_drawn ∧ k = boot_toks := by simpa using e'
  obtain ⟨z1, z2, z3⟩ : _ ∧ _ ∧ _ := by simpa only [Prod.mk.injEq] using size w.params
  obtain ⟨sT, r, l⟩ := Option.map_eq_some_iff.mp (congrFun (chk w) os)
  obtain ⟨l1, l2, l3⟩ : _ ∧ _ ∧ _ := by simpa only [Prod.mk.injEq] using l
  have r := topRun_mono (N - M) _ _ _ _ (topG_of r)
  rw [show M + (N - M) = N by have := Nat.le_of_ble_eq_true le; (first | with_reducible assumption | exact Nat.lt_of_lt_of_le (by assumption) (by decide) | exact Nat.lt_of_le_of_lt (by assumption) (by decide) | lia | omega), bootS_abs _ _ _ z2] at r
  have t : topFrom treeTable p w N ⟨boot_heap w.params, Array.mk [], boot_drawn, boot_toks, os⟩ = some sT.abs := by
    unfold topFrom
    dsimp only
    rw [z1, z2, z3, r]
    show (match staticsOk (importedModules p.main.body) (boot_heap w.params) sT.abs.heap && namesBound p sT.abs.heap && gensDone sT.abs && laidKept (boot_heap w.params) sT.abs.heap with | true => _ | false => _) = _
    rw [l1]
  unfold openEnds
  rw [e]
  show (topFrom treeTable p w N _).map _ = _
  rw [t]
  exact congrArg some (Prod.ext l2 l3)

theorem boot_size : ∀ P : Params, ((boot_heap P).isNs mainGlobals, (boot_heap P).objs.size, (boot_heap P).nsMap mainGlobals "__annotations__") = (true, 11, some (.ref 6)) := by intro P; kernel_rfl
theorem boot_at : ∀ w : World, (fencedOpening treeTable PW w 6506).map (fun s => (s.heap, s.gens, s.drawn, s.toks)) = some (boot_heap w.params, Array.mk [], boot_drawn, boot_toks) :=
  boot_open (p := PW) (N := 6506) (by kernel_rfl) (by decide) (fun s => by kernel_rfl)
theorem zip_look : ∀ (ps : List Str) (vs : List Value), ps.length = vs.length → ps.Nodup → ∀ (x : Str) (i : Nat), ps[i]? = some x → (ps.zip vs).lookup x = vs[i]?
  | [], _, _, _, x, i, h => by simp at h
  | p :: ps, [], h, _, x, i, _ => by cases h
  | p :: ps, v :: vs, h, nd, x, i, e => by
    have nd := List.nodup_cons.mp nd
    cases i with
    | zero =>
      cases e
      show ((p, v) :: ps.zip vs).lookup p = some v
      rw [List.lookup_cons, beq_self_eq_true]
    | succ i =>
      have e : ps[i]? = some x := e
      show ((p, v) :: ps.zip vs).lookup x = vs[i]?
      have : (x == p) = false := by
        rw [beq_eq_false_iff_ne]; rintro rfl
        exact nd.1 (List.mem_of_getElem? e)
      rw [List.lookup_cons, this]
      exact zip_look ps vs (Nat.succ.inj h) nd.2 x i e
theorem zip_map {ps : List Str} {vs : List Value} (h : ps.length = vs.length) (nd : ps.Nodup) : ps.filterMap (fun n => ((ps.zip vs).lookup n).map (n, ·)) = ps.zip vs := by
  have key : ∀ (qs : List Str) (us : List Value), qs.length = us.length → (∀ (i : Nat) (x : Str), qs[i]? = some x → (ps.zip vs).lookup x = us[i]?) → qs.filterMap (fun n => ((ps.zip vs).lookup n).map (n, ·)) = qs.zip us := by
    intro qs
    induction qs with
    | nil => intro us _ _; rfl
    | cons q qs ih =>
      intro us hl hq
      cases us with
      | nil => cases hl
      | cons u us =>
        have e := hq 0 q rfl
        have e : (ps.zip vs).lookup q = some u := e
        rw [List.filterMap_cons, e]
        show (q, u) :: _ = (q, u) :: _
        rw [ih us (Nat.succ.inj hl) fun i x hx => hq (i + 1) x hx]; rfl
  exact key ps vs h fun i x hx => zip_look ps vs h nd x i hx
theorem zip_some {ps : List Str} {vs : List Value} (h : ps.length = vs.length) (nd : ps.Nodup) : ps.filter (fun n => ((ps.zip vs).lookup n).isNone) = [] := by
  rw [List.filter_eq_nil_iff]
  intro x m
  obtain ⟨i, hi, e⟩ := List.getElem_of_mem m
  rw [zip_look ps vs h nd x i (by rw [List.getElem?_eq_getElem hi, e]), List.getElem?_eq_getElem (by (first | with_reducible assumption | exact Nat.lt_of_lt_of_le (by assumption) (by decide) | exact Nat.lt_of_le_of_lt (by assumption) (by decide) | lia | omega))]
  intro z; cases z
theorem fd_cut {P : FuncData → Prop} {fd : FuncData} {T : Value} (h1 : fd.params.posonlyargs = []) (h2 : fd.params.kwonlyargs = []) (h3 : fd.params.vararg = none) (h4 : fd.params.kwarg = none) (h6 : fd.defaults = T)
    (q : ∀ x y, P { fd with params := ⟨[], fd.params.args, none, [], x, none, y⟩, defaults := T }) : P fd := by
  cases fd with
  | mk f1 f2 f3 =>
    cases f3 with
    | mk p1 p2 p3 p4 p5 p6 p7 =>
      cases h1; cases h2; cases h3; cases h4; cases h6
      exact q _ _
theorem binds_plain {fd : FuncData} {ps : List Str} {vs : List Value} (h1 : fd.params.posonlyargs = []) (h2 : fd.params.kwonlyargs = []) (h3 : fd.params.vararg = none) (h4 : fd.params.kwarg = none) (h5 : fd.params.args.map (·.arg) = ps) (h6 : fd.defaults = .none) (nd : ps.Nodup) (hl : ps.length = vs.length) :
    bindArgs fd ⟨vs, []⟩ = pure (ps.zip vs) := by
  refine fd_cut (P := fun fd => bindArgs fd ⟨vs, []⟩ = pure (ps.zip vs)) h1 h2 h3 h4 h6 fun x y => ?_
  obtain ⟨p2, hp⟩ : ∃ z, fd.params.args = z := ⟨_, rfl⟩
  rw [hp] at h5 ⊢
  subst h5
  have e1 : ¬ (decide (vs.length > (p2.map (·.arg)).length) && true) = true := by rw [hl]; simp
  have e2 : ¬ (!(List.filter (fun n => (((p2.map (·.arg)).zip vs).lookup n).isNone) ((p2.map (·.arg)).take ((p2.map (·.arg)).length - (List.drop (0 - (p2.map (·.arg)).length) ([] : List Value)).length))).isEmpty) = true := by
    rw [List.drop_nil, List.length_nil, Nat.sub_zero, List.take_length, zip_some hl nd]
    intro h; cases h
  have e3 : (forIn (m := Sem) ((List.drop ((p2.map (·.arg)).length - (List.drop (0 - (p2.map (·.arg)).length) ([] : List Value)).length) (p2.map (·.arg))).zip (List.drop (0 - (p2.map (·.arg)).length) ([] : List Value))) ((p2.map (·.arg)).zip vs) fun x r => if (r.lookup x.1).isNone = true then pure (ForInStep.yield (r ++ [(x.1, x.2)])) else pure (ForInStep.yield r)) = pure ((p2.map (·.arg)).zip vs) := by
    rw [List.drop_nil, List.zip_nil_right]; rfl
  refine (if_neg e1).trans ((if_neg e2).trans ((congrArg (fun z => Bind.bind z _) e3).trans ?_))
  show (pure (List.filterMap (fun n => Option.map (fun x => (n, x)) (List.lookup n ((p2.map (·.arg)).zip vs))) ((p2.map (·.arg)) ++ [])) : Sem (List (Str × Value))) = _
  rw [List.append_nil, zip_map hl nd]
theorem args_cut {P : List Arg → Prop} {l : List Arg} {x : Str} {r : List Str} (h : l.map (·.arg) = x :: r) (q : ∀ a p l', l'.map (·.arg) = r → P (⟨x, a, p⟩ :: l')) : P l := by
  cases l with
  | nil => cases h
  | cons y l =>
    cases y with
    | mk z a p =>
      injection h with h1 h2
      cases (show z = x from h1)
      exact q a p l h2
theorem args_nil {P : List Arg → Prop} {l : List Arg} (h : l.map (·.arg) = []) (q : P []) : P l := List.map_eq_nil_iff.mp h ▸ q
theorem args_2 {P : List Arg → Prop} {l : List Arg} {x1 x2 : Str} (h : l.map (·.arg) = [x1, x2]) (q : ∀ a1 p1 a2 p2, P [⟨x1, a1, p1⟩, ⟨x2, a2, p2⟩]) : P l :=
  args_cut h fun a1 p1 _ h => args_cut (P := fun l => P (_ :: l)) h fun a2 p2 _ h => args_nil (P := fun l => P (_ :: _ :: l)) h (q a1 p1 a2 p2)
theorem args_8 {P : List Arg → Prop} {l : List Arg} {x1 x2 x3 x4 x5 x6 x7 x8 : Str} (h : l.map (·.arg) = [x1, x2, x3, x4, x5, x6, x7, x8])
    (q : ∀ a1 p1 a2 p2 a3 p3 a4 p4 a5 p5 a6 p6 a7 p7 a8 p8, P [⟨x1, a1, p1⟩, ⟨x2, a2, p2⟩, ⟨x3, a3, p3⟩, ⟨x4, a4, p4⟩, ⟨x5, a5, p5⟩, ⟨x6, a6, p6⟩, ⟨x7, a7, p7⟩, ⟨x8, a8, p8⟩]) : P l :=
  args_cut h fun a1 p1 _ h => args_cut (P := fun l => P (_ :: l)) h fun a2 p2 _ h => args_cut (P := fun l => P (_ :: _ :: l)) h fun a3 p3 _ h => args_cut (P := fun l => P (_ :: _ :: _ :: l)) h fun a4 p4 _ h =>
    args_cut (P := fun l => P (_ :: _ :: _ :: _ :: l)) h fun a5 p5 _ h => args_cut (P := fun l => P (_ :: _ :: _ :: _ :: _ :: l)) h fun a6 p6 _ h => args_cut (P := fun l => P (_ :: _ :: _ :: _ :: _ :: _ :: l)) h fun a7 p7 _ h =>
      args_cut (P := fun l => P (_ :: _ :: _ :: _ :: _ :: _ :: _ :: l)) h fun a8 p8 _ h => args_nil (P := fun l => P (_ :: _ :: _ :: _ :: _ :: _ :: _ :: _ :: l)) h (q a1 p1 a2 p2 a3 p3 a4 p4 a5 p5 a6 p6 a7 p7 a8 p8)
theorem binds_2 {s : Shared} {fd : FuncData} {v d : Value} {T : Addr} {o : Obj} {n : Nat} (h1 : fd.params.posonlyargs = []) (h2 : fd.params.kwonlyargs = []) (h3 : fd.params.vararg = none) (h4 : fd.params.kwarg = none) (h5 : fd.params.args.map (·.arg) = (["pairs", "start"] : List Str)) (h6 : fd.defaults = .ref T) (ho : s.heap.get? T = some o) (hs : o.data = .seq #[d] n) :
    BindsTo s fd ⟨[v], []⟩ [("pairs", v), ("start", d)] := by
  refine fd_cut (P := fun fd => BindsTo s fd _ _) h1 h2 h3 h4 h6 fun x y => ?_
  refine args_2 (P := fun l => BindsTo s { fd with params := ⟨[], l, none, [], x, none, y⟩, defaults := .ref T } _ _) h5 fun a1 p1 a2 p2 => ?_
  exact BindsTo.of_defaults rfl ho hs rfl rfl
theorem binds_8 {s : Shared} {fd : FuncData} {v1 v2 v3 v4 v5 d1 d2 d3 d4 : Value} {T : Addr} {o : Obj} {n : Nat} (h1 : fd.params.posonlyargs = []) (h2 : fd.params.kwonlyargs = []) (h3 : fd.params.vararg = none) (h4 : fd.params.kwarg = none) (h5 : fd.params.args.map (·.arg) = (["self", "number", "left", "right", "level_of", "action", "line", "before"] : List Str)) (h6 : fd.defaults = .ref T) (ho : s.heap.get? T = some o) (hs : o.data = .seq #[d1, d2, d3, d4] n) :
    BindsTo s fd ⟨[v1, v2, v3, v4, v5], []⟩ [("self", v1), ("number", v2), ("left", v3), ("right", v4), ("level_of", v5), ("action", d2), ("line", d3), ("before", d4)] := by
  refine fd_cut (P := fun fd => BindsTo s fd _ _) h1 h2 h3 h4 h6 fun x y => ?_
  refine args_8 (P := fun l => BindsTo s { fd with params := ⟨[], l, none, [], x, none, y⟩, defaults := .ref T } _ _) h5 fun a1 p1 a2 p2 a3 p3 a4 p4 a5 p5 a6 p6 a7 p7 a8 p8 => ?_
  exact BindsTo.of_defaults rfl ho hs rfl rfl
noncomputable def adL : Ad := ⟨28, 75, 89, 96, 124, 131, 138, 145, 159, 166, 173, 180, 194, 201, 208, 215, 222, 227, 248, 255, 262, 269, 283, 299, 318, 325, 332, 346, 353, 360, 367, 374, 381, 395, 401, 408, 415, 420, 425, 430, 437, 444, 449, 106, 148, 230, 272, 302, 384, 284⟩
noncomputable def defsT : List (Addr × Tab × List Str × Option Stmt) := [
  (28, tab_transitive, (["rows"] : List Str), stT 2),
  (75, tab_bits, (["mask"] : List Str), stT 6),
  (89, tab_LrState___init__, (["self", "number", "kernel", "symbol"] : List Str), inC (stT 9) 0),
  (96, tab_LrState_goto, (["self", "symbol"] : List Str), inC (stT 9) 1),
  (124, tab_Closer___init__, (["self", "grammar"] : List Str), inC (stT 10) 0),
  (131, tab_Closer_wanted, (["self", "kernel"] : List Str), inC (stT 10) 1),
  (138, tab_Closer_added, (["self", "kernel"] : List Str), inC (stT 10) 2),
  (145, tab_Closer_close, (["self", "kernel"] : List Str), inC (stT 10) 3),
  (159, tab_closure, (["grammar", "kernel"] : List Str), stT 11),
  (166, tab_advanced, (["grammar", "item"] : List Str), stT 12),
  (173, tab_kernels_behind, (["grammar", "items"] : List Str), stT 13),
  (180, tab_complete_rules, (["grammar", "items"] : List Str), stT 14),
  (194, tab_Automaton___init__, (["self", "grammar", "states"] : List Str), inC (stT 15) 0),
  (201, tab_Automaton_goto, (["self", "state", "symbol"] : List Str), inC (stT 15) 1),
  (208, tab_Automaton_walk, (["self", "state", "symbols"] : List Str), inC (stT 15) 2),
  (215, tab_Automaton_path, (["self", "state", "symbols"] : List Str), inC (stT 15) 3),
  (222, tab_Automaton_final_state, (["self"] : List Str), inC (stT 15) 4),
  (227, tab_Automaton_transition_count, (["self"] : List Str), inC (stT 15) 5),
  (248, tab_Builder___init__, (["self", "grammar"] : List Str), inC (stT 16) 0),
  (255, tab_Builder_number_of, (["self", "kernel", "symbol"] : List Str), inC (stT 16) 1),
  (262, tab_Builder_expand, (["self", "state"] : List Str), inC (stT 16) 2),
  (269, tab_Builder_built, (["self"] : List Str), inC (stT 16) 3),
  (283, tab_build, (["grammar"] : List Str), stT 17),
  (318, tab_Grammar___init__, (["self", "names", "terminal_count", "rules", "levels", "expect", "start"] : List Str), inC (stT 22) 0),
  (325, tab_Grammar_symbol_count, (["self"] : List Str), inC (stT 22) 1),
  (332, tab_Grammar_is_terminal, (["self", "symbol"] : List Str), inC (stT 22) 2),
  (346, tab_Grammar_number, (["self", "name"] : List Str), inC (stT 22) 4),
  (353, tab_Grammar_rules_of, (["self", "symbol"] : List Str), inC (stT 22) 5),
  (360, tab_Grammar_item, (["self", "rule", "dot"] : List Str), inC (stT 22) 6),
  (367, tab_Grammar_rule_of, (["self", "item"] : List Str), inC (stT 22) 7),
  (374, tab_Grammar_dot_of, (["self", "item"] : List Str), inC (stT 22) 8),
  (381, tab_Grammar_after, (["self", "item"] : List Str), inC (stT 22) 9),
  (395, tab_last_terminal, (["right", "terminal_count"] : List Str), stT 23),
  (408, tab__law_tape, (["script"] : List Str), stT 26),
  (415, tab__law_draw, (["tape", "many"] : List Str), stT 27),
  (420, tab__law_pairs, (["tape"] : List Str), stT 28),
  (425, tab__law_closed, (["rules", "kernel"] : List Str), stT 29),
  (430, tab__law_behind, (["rules", "items"] : List Str), stT 30),
  (437, tab__law_states, (["rules"] : List Str), stT 31),
  (444, tab__law_led, (["moves", "here", "symbols"] : List Str), stT 32),
  (449, tab_law, (["script"] : List Str), stT 33)]
noncomputable def dfltT : List (Addr × Tab × List Str × Option Stmt) := [
  (299, tab_Rule___init__, (["self", "number", "left", "right", "level_of", "action", "line", "before"] : List Str), inC (stT 21) 0),
  (401, tab_plain_grammar, (["pairs", "start"] : List Str), stT 24)]
noncomputable def kAd : List Addr := [3, 0, 1, 2, 27, 28, 74, 75, 88, 89, 95, 96, 105, 106, 123, 124, 130, 131, 137, 138, 144, 145, 147, 148, 158, 159, 165, 166, 172, 173, 179, 180, 193, 194, 200, 201, 207, 208, 214, 215, 221, 222, 226, 227, 229, 230, 247, 248, 254, 255, 261, 262, 268, 269, 271, 272, 282, 283, 284, 292, 298, 299, 301, 302, 317, 318, 324, 325, 331, 332, 345, 346, 352, 353, 359, 360, 366, 367, 373, 374, 380, 381, 383, 384, 394, 395, 396, 400, 401, 407, 408, 414, 415, 419, 420, 424, 425, 429, 430, 436, 437, 443, 444, 448, 449]
noncomputable def clsT : List (Addr × Addr × List Str) := [(106, 89, ["number", "kernel", "symbol", "items", "moves", "reductions", "is_shifting"]), (148, 124, ["grammar", "firsts"]), (230, 194, ["grammar", "states"]), (272, 248, ["grammar", "closer", "states", "numbers"]), (302, 299, ["number", "left", "right", "level_of", "action", "line", "before"]), (384, 318, ["names", "terminal_count", "rules", "levels", "expect", "start", "by_left", "offsets", "owners", "item_count"])]
noncomputable def methT : List (Addr × Str × Addr) := [(106, "goto", 96), (148, "wanted", 131), (148, "added", 138), (148, "close", 145), (230, "goto", 201), (230, "walk", 208), (230, "path", 215), (230, "final_state", 222), (230, "transition_count", 227), (272, "number_of", 255), (272, "expand", 262), (272, "built", 269), (384, "symbol_count", 325), (384, "is_terminal", 332), (384, "number", 346), (384, "rules_of", 353), (384, "item", 360), (384, "rule_of", 367), (384, "dot_of", 374), (384, "after", 381)]

noncomputable def frag (h : Heap) : Frag := kAd.filterMap fun a => (h.get? a).map fun o => (a, o)
theorem lookup_filterMap (h : Heap) : ∀ (l : List Addr) (a : Addr) (o : Obj), (l.filterMap fun a => (h.get? a).map fun o => (a, o)).lookup a = some o → h.get? a = some o
  | [], _, _, e => by cases e
  | b :: l, a, o, e => by
    rw [List.filterMap_cons] at e
    cases z : h.get? b with
    | none => rw [z] at e; exact lookup_filterMap h l a o e
    | some x =>
      rw [z] at e
      have e : ((b, x) :: _ : List (Addr × Obj)).lookup a = some o := e
      rw [List.lookup_cons] at e
      cases q : a == b with
      | true => rw [q] at e; cases e; rw [eq_of_beq q]; exact z
      | false => rw [q] at e; exact lookup_filterMap h l a o e
theorem frag_in (h : Heap) : (frag h).In h := fun a o e => lookup_filterMap h kAd a o e

noncomputable abbrev Shp := Bool × List Str × FuncBody × Scope
noncomputable def shp (fd : FuncData) : Shp := (fd.params.posonlyargs.isEmpty && fd.params.kwonlyargs.isEmpty && fd.params.vararg.isNone && fd.params.kwarg.isNone, fd.params.args.map (·.arg), fd.body, fd.scope)
noncomputable def obsD (K : Frag) : List (Option Shp) := (defsT ++ dfltT).map fun x => (fdOf K x.1).map shp
noncomputable def wantD : List (Option Shp) := (defsT ++ dfltT).map fun x => some (true, x.2.2.1, FuncBody.stmts (bodyF x.2.2.2), scopeF x.2.2.2)
noncomputable def isIntV (k : Int) : Value → Bool
  | .int i _ => i == k
  | _ => false
noncomputable def tupOf (K : Frag) (a : Addr) : Option (List Value) := match K.lookup a with
  | some ⟨.type T, none, .seq items _, sl⟩ => if T == "tuple" && sl.isEmpty then some items.toList else none
  | _ => none
noncomputable def isStrV (x : Str) : Value → Bool
  | .str y _ => x == y
  | _ => false
noncomputable def ownChk : Option (List Value) → Bool
  | some [a, b, c] => isStrV "$end" a && isStrV "error" b && isStrV "$undefined" c
  | _ => false
noncomputable def d8Chk : Option (List Value) → Bool
  | some [_, b, c, d] => b == .none && isIntV 0 c && isIntV 0 d
  | _ => false
noncomputable def d2Chk : Option (List Value) → Bool
  | some [a] => a == .none
  | _ => false
noncomputable def globInt (K : Frag) (x : Str) (k : Int) : Bool := match nsIn K mainGlobals x with
  | some (some v) => isIntV k v
  | _ => false
noncomputable def sysChk (K : Frag) : Bool := match K.lookup sysModules with
  | some ⟨.type T, none, .dict es _, sl⟩ => T == "dict" && sl.isEmpty && (match es.toList with | e :: _ => (match e.key with | .int .. => false | _ => true) | [] => false)
  | _ => false
noncomputable def chkK (K : Frag) : Bool :=
  (sysChk K && (nsOkIn K cStatics && nsIn K cStatics "sys.recursionlimit" == some none)) &&
  ((gTab adL).all fun p => nsIn K mainGlobals p.1 == some (some p.2)) &&
  (bTab.all fun p => nsIn K mainGlobals p.1 == some none && nsIn K builtinsNs p.1 == some (some p.2)) &&
  (globInt K "NONE" (-1) && globInt K "END" 0 && nsIn K mainGlobals "OWN_TERMINALS" == some (some (.ref adL.own)) && ownChk (tupOf K adL.own) && nsIn K mainGlobals "law" == some (some (.ref adL.law))) &&
  (defsT.all fun x => fnChk K x.1 x.2.1 x.2.2.1 && keepIn K (.ref x.1) && (fdOf K x.1).any fun fd => fd.defaults == .none) &&
  (dfltT.all fun x => fnChk K x.1 x.2.1 x.2.2.1 && keepIn K (.ref x.1)) &&
  ((fdOf K 299).any (fun fd => fd.defaults == .ref 292) && d8Chk (tupOf K 292) && (fdOf K 401).any (fun fd => fd.defaults == .ref 396) && d2Chk (tupOf K 396)) &&
  (clsT.all fun x => clsChk K x.1 && newChk K x.1 x.2.1 && keepIn K (.ref x.1) && x.2.2.all fun y => findIn K (.ref x.1) y == some none) &&
  (methT.all fun x => methChk K x.1 x.2.1 x.2.2)
noncomputable def obsK (K : Frag) : List (Option Shp) × Bool := (obsD K, chkK K)

set_option tactic.hygienic true in
theorem tup_of {K : Frag} {a : Addr} {l : List Value} (h : tupOf K a = some l) : ∃ m, K.lookup a = some { cls := .type "tuple", data := .seq l.toArray m } := by
  unfold tupOf at h
  split at h
  · rename_i T items m sl e
    split at h
    · rename_i q
      cases h
      obtain ⟨q1, q2⟩ := Bool.and_eq_true_iff.mp q
      have q1 : T = "tuple" := eq_of_beq q1
      subst q1
      have q2 : sl = #[] := by simpa using q2
      subst q2
      exact ⟨m, by rw [e, Array.toArray_toList]⟩
    · cases h
  · cases h
theorem isInt_of {k : Int} {v : Value} (h : isIntV k v = true) : ∃ t, v = .int k t := by
  unfold isIntV at h
  split at h
  · rw [eq_of_beq h]; exact ⟨_, rfl⟩
  · cases h
theorem isStr_of' {x : Str} {v : Value} (h : isStrV x v = true) : ∃ t, v = .str x t := by
  unfold isStrV at h
  split at h
  · rw [eq_of_beq h]; exact ⟨_, rfl⟩
  · cases h
set_option tactic.hygienic true in
theorem globInt_of {K : Frag} {x : Str} {k : Int} (h : globInt K x k = true) : ∃ t, nsIn K mainGlobals x = some (some (.int k t)) := by
  unfold globInt at h
  split at h
  · rename_i v e
    obtain ⟨t, rfl⟩ := isInt_of h
    exact ⟨t, e⟩
  · cases h
theorem lookup_mem' {x : Str} {v : Value} : ∀ {l : List (Str × Value)}, l.lookup x = some v → (x, v) ∈ l
  | (y, u) :: l, h => by
    rw [List.lookup_cons] at h
    cases q : x == y with
    | true => rw [q] at h; cases h; rw [eq_of_beq q]; exact .head _
    | false => rw [q] at h; exact .tail _ (lookup_mem' h)
structure Chk (K : Frag) : Prop where
  ok : KOk K
  g : ∀ x v, (gTab adL).lookup x = some v → nsIn K mainGlobals x = some (some v)
  b : ∀ x v, bTab.lookup x = some v → nsIn K mainGlobals x = some none ∧ nsIn K builtinsNs x = some (some v)
  gNONE : ∃ t, nsIn K mainGlobals "NONE" = some (some (.int (-1) t))
  gEND : ∃ t, nsIn K mainGlobals "END" = some (some (.int 0 t))
  gOWN : nsIn K mainGlobals "OWN_TERMINALS" = some (some (.ref adL.own))
  own : ∃ t1 t2 t3 m, K.lookup adL.own = some { cls := .type "tuple", data := .seq [.str "$end" t1, .str "error" t2, .str "$undefined" t3].toArray m }
  gLaw : nsIn K mainGlobals "law" = some (some (.ref adL.law))
  defs : ∀ x ∈ defsT, fnChk K x.1 x.2.1 x.2.2.1 = true ∧ keepIn K (.ref x.1) = true ∧ ∀ fd, fdOf K x.1 = some fd → fd.defaults = .none
  dflt : ∀ x ∈ dfltT, fnChk K x.1 x.2.1 x.2.2.1 = true ∧ keepIn K (.ref x.1) = true
  d8 : (∀ fd, fdOf K 299 = some fd → fd.defaults = .ref 292) ∧ ∃ v t1 t2 m, K.lookup 292 = some { cls := .type "tuple", data := .seq #[v, .none, .int 0 t1, .int 0 t2] m }
  d2 : (∀ fd, fdOf K 401 = some fd → fd.defaults = .ref 396) ∧ ∃ m, K.lookup 396 = some { cls := .type "tuple", data := .seq #[.none] m }
  cls' : ∀ x ∈ clsT, ClsOk K x.1 ∧ NewOk K x.1 x.2.1 ∧ keepIn K (.ref x.1) = true ∧ ∀ y ∈ x.2.2, findIn K (.ref x.1) y = some none
  meth' : ∀ x ∈ methT, MethOk K x.1 x.2.1 x.2.2
theorem any_def {K : Frag} {f : Addr} {v : Value} (h : (fdOf K f).any (fun fd => fd.defaults == v) = true) : ∀ fd, fdOf K f = some fd → fd.defaults = v := fun fd e => by
  rw [e] at h
  exact eq_of_beq h
set_option tactic.hygienic true in
theorem chk_of {K : Frag} (h : chkK K = true) : Chk K := by
  unfold chkK at h
  obtain ⟨h, hm⟩ := Bool.and_eq_true_iff.mp h
  obtain ⟨h, hc⟩ := Bool.and_eq_true_iff.mp h
  obtain ⟨h, hv⟩ := Bool.and_eq_true_iff.mp h
  obtain ⟨h, ht⟩ := Bool.and_eq_true_iff.mp h
  obtain ⟨h, hd⟩ := Bool.and_eq_true_iff.mp h
  obtain ⟨h, ho⟩ := Bool.and_eq_true_iff.mp h
  obtain ⟨h, hb⟩ := Bool.and_eq_true_iff.mp h
  obtain ⟨h, hg⟩ := Bool.and_eq_true_iff.mp h
  obtain ⟨hs, hl⟩ := Bool.and_eq_true_iff.mp h
  obtain ⟨hl, hr⟩ := Bool.and_eq_true_iff.mp hl
  obtain ⟨ho, ho5⟩ := Bool.and_eq_true_iff.mp ho
  obtain ⟨ho, ho4⟩ := Bool.and_eq_true_iff.mp ho
  obtain ⟨ho, ho3⟩ := Bool.and_eq_true_iff.mp ho
  obtain ⟨ho1, ho2⟩ := Bool.and_eq_true_iff.mp ho
  obtain ⟨hv, hv4⟩ := Bool.and_eq_true_iff.mp hv
  obtain ⟨hv, hv3⟩ := Bool.and_eq_true_iff.mp hv
  obtain ⟨hv1, hv2⟩ := Bool.and_eq_true_iff.mp hv
  rw [List.all_eq_true] at hg hb hd ht hc hm
  refine ⟨⟨?_, fun h X => ⟨_, .of_isNs (isNs_of_in X hl), nsMap_none_of_in X hl (eq_of_beq hr)⟩⟩, fun x v e => eq_of_beq (hg _ (lookup_mem' e)), fun x v e => ?_, globInt_of ho1, globInt_of ho2, eq_of_beq ho3, ?_, eq_of_beq ho5, fun x m => ?_, fun x m => Bool.and_eq_true_iff.mp (ht x m), ⟨any_def hv1, ?_⟩, ⟨any_def hv3, ?_⟩, fun x m => ?_, fun x m => meth_ok (hm x m)⟩
  · unfold sysChk at hs
    split at hs
    · rename_i T es m sl e
      obtain ⟨hs, q3⟩ := Bool.and_eq_true_iff.mp hs
      obtain ⟨q1, q2⟩ := Bool.and_eq_true_iff.mp hs
      have q1 : T = "dict" := eq_of_beq q1
      subst q1
      have q2 : sl = #[] := by simpa using q2
      subst q2
      obtain ⟨l⟩ := es
      cases l with
      | nil => cases q3
      | cons x r =>
        refine ⟨x, r, m, e, fun i t z => ?_⟩
        have q3 : (match x.key with | .int .. => false | _ => true) = true := q3
        rw [z] at q3; cases q3
    · cases hs
  · have := Bool.and_eq_true_iff.mp (hb _ (lookup_mem' e))
    exact ⟨eq_of_beq this.1, eq_of_beq this.2⟩
  · cases z : tupOf K adL.own with
    | none => rw [z] at ho4; cases ho4
    | some l =>
      rw [z] at ho4
      unfold ownChk at ho4
      split at ho4
      · rename_i a b c q
        cases q
        obtain ⟨ho4, q3⟩ := Bool.and_eq_true_iff.mp ho4
        obtain ⟨q1, q2⟩ := Bool.and_eq_true_iff.mp ho4
        obtain ⟨t1, rfl⟩ := isStr_of' q1
        obtain ⟨t2, rfl⟩ := isStr_of' q2
        obtain ⟨t3, rfl⟩ := isStr_of' q3
        obtain ⟨m, e⟩ := tup_of z
        exact ⟨t1, t2, t3, m, e⟩
      · cases ho4
  · have := Bool.and_eq_true_iff.mp (hd x m)
    have h2 := Bool.and_eq_true_iff.mp this.1
    exact ⟨h2.1, h2.2, any_def this.2⟩
  · cases z : tupOf K 292 with
    | none => rw [z] at hv2; cases hv2
    | some l =>
      rw [z] at hv2
      unfold d8Chk at hv2
      split at hv2
      · rename_i a b c d q
        cases q
        obtain ⟨hv2, q3⟩ := Bool.and_eq_true_iff.mp hv2
        obtain ⟨q1, q2⟩ := Bool.and_eq_true_iff.mp hv2
        obtain ⟨t2, rfl⟩ := isInt_of q2
        obtain ⟨t3, rfl⟩ := isInt_of q3
        have q1 := eq_of_beq q1
        subst q1
        obtain ⟨m, e⟩ := tup_of z
        exact ⟨a, t2, t3, m, e⟩
      · cases hv2
  · cases z : tupOf K 396 with
    | none => rw [z] at hv4; cases hv4
    | some l =>
      rw [z] at hv4
      unfold d2Chk at hv4
      split at hv4
      · rename_i a q
        cases q
        have q1 := eq_of_beq hv4
        subst q1
        exact tup_of z
      · cases hv4
  · have := Bool.and_eq_true_iff.mp (hc x m)
    have h2 := Bool.and_eq_true_iff.mp this.1
    have h3 := Bool.and_eq_true_iff.mp h2.1
    exact ⟨cls_ok h3.1, new_ok h3.2, h2.2, fun y my => eq_of_beq (List.all_eq_true.mp this.2 y my)⟩
theorem Chk.cls {K : Frag} (c : Chk K) (i : Nat) {x : Addr × Addr × List Str} (e : clsT[i]? = some x) : ClsOk K x.1 ∧ NewOk K x.1 x.2.1 ∧ keepIn K (.ref x.1) = true ∧ ∀ y ∈ x.2.2, findIn K (.ref x.1) y = some none := c.cls' x (List.mem_of_getElem? e)
theorem Chk.meth {K : Frag} (c : Chk K) (i : Nat) {x : Addr × Str × Addr} (e : methT[i]? = some x) : MethOk K x.1 x.2.1 x.2.2 := c.meth' x (List.mem_of_getElem? e)
theorem shp_at {K : Frag} (e : obsD K = wantD) {x : Addr × Tab × List Str × Option Stmt} (m : x ∈ defsT ++ dfltT) : ∃ fd, fdOf K x.1 = some fd ∧ fd.params.posonlyargs = [] ∧ fd.params.kwonlyargs = [] ∧ fd.params.vararg = none ∧ fd.params.kwarg = none ∧ fd.params.args.map (·.arg) = x.2.2.1 ∧ fd.body = .stmts (bodyF x.2.2.2) ∧ fd.scope = scopeF x.2.2.2 := by
  have := List.map_inj_left.mp e x m
  obtain ⟨fd, h1, h2⟩ := Option.map_eq_some_iff.mp this
  unfold shp at h2
  simp only [Prod.mk.injEq, Bool.and_eq_true, List.isEmpty_iff, Option.isNone_iff_eq_none] at h2
  obtain ⟨⟨⟨⟨a, b⟩, c⟩, d⟩, e, f, g⟩ := h2
  exact ⟨fd, h1, a, b, c, d, e, f, g⟩
theorem fn_nodup {K : Frag} {f : Addr} {tab : Tab} {ps : List Str} (h : fnChk K f tab ps = true) : ps.Nodup := by
  unfold fnChk at h
  split at h
  · simp only [Bool.and_eq_true] at h
    exact nodup_of h.1.1.1.2
  · cases h
theorem def_of {w : World} {K : Frag} (e : obsD K = wantD) (c : Chk K) (i : Nat) {x : Addr × Tab × List Str × Option Stmt} (hx : defsT[i]? = some x) : Def w K x.1 x.2.1 x.2.2.1 x.2.2.2 [] := by
  have m := List.mem_of_getElem? hx
  obtain ⟨h1, h2, h3⟩ := c.defs x m
  obtain ⟨fd, q1, q2, q3, q4, q5, q6, q7, q8⟩ := shp_at e (List.mem_append_left _ m)
  refine ⟨⟨fd, [], q1, q7, q8, h1, fun s vs _ hl => ?_, fun F => .nil⟩, h2⟩
  rw [List.append_nil]
  exact BindsTo.of_eq (binds_plain q2 q3 q4 q5 q6 (h3 fd q1) (fn_nodup h1) hl.symm)
theorem Chk.plain {w : World} {K : Frag} (c : Chk K) (e : obsD K = wantD) : Def w K 401 tab_plain_grammar ["pairs", "start"] (stT 24) [.none] := by
  have m : ((401, tab_plain_grammar, ["pairs", "start"], stT 24) : Addr × Tab × List Str × Option Stmt) ∈ dfltT := .tail _ (.head _)
  obtain ⟨h1, h2⟩ := c.dflt _ m
  obtain ⟨fd, q1, q2, q3, q4, q5, q6, q7, q8⟩ := shp_at e (List.mem_append_right _ m)
  obtain ⟨k1, n, k2⟩ := c.d2
  refine ⟨⟨fd, [.none], q1, q7, q8, h1, fun s vs X hl => ?_, fun F => .cons .none .nil⟩, h2⟩
  have hl : vs.length = 1 := Nat.succ.inj hl
  obtain ⟨v, rfl⟩ := List.length_eq_one_iff.mp hl
  exact binds_2 q2 q3 q4 q5 q6 (k1 fd q1) (X _ _ k2) rfl
theorem five_of {vs : List Value} (h : vs.length = 5) : ∃ a b c d e, vs = [a, b, c, d, e] := by
  rcases vs with _ | ⟨a, _ | ⟨b, _ | ⟨c, _ | ⟨d, _ | ⟨e, _ | ⟨f, l⟩⟩⟩⟩⟩⟩
  case cons.cons.cons.cons.cons.nil => exact ⟨a, b, c, d, e, rfl⟩
  all_goals cases h
theorem Chk.rule {w : World} {K : Frag} (c : Chk K) (e : obsD K = wantD) : Def w K 299 tab_Rule___init__ ["self", "number", "left", "right", "level_of", "action", "line", "before"] (inC (stT 21) 0) [.none, .int 0, .int 0] := by
  have m : ((299, tab_Rule___init__, ["self", "number", "left", "right", "level_of", "action", "line", "before"], inC (stT 21) 0) : Addr × Tab × List Str × Option Stmt) ∈ dfltT := .head _
  obtain ⟨h1, h2⟩ := c.dflt _ m
  obtain ⟨fd, q1, q2, q3, q4, q5, q6, q7, q8⟩ := shp_at e (List.mem_append_right _ m)
  obtain ⟨k1, v, t1, t2, n, k2⟩ := c.d8
  refine ⟨⟨fd, [.none, .int 0 t1, .int 0 t2], q1, q7, q8, h1, fun s vs X hl => ?_, fun F => .cons .none (.cons (.int 0 t1) (.cons (.int 0 t2) .nil))⟩, h2⟩
  have hl : vs.length = 5 := Nat.succ.inj (Nat.succ.inj (Nat.succ.inj hl))
  obtain ⟨v1, v2, v3, v4, v5, rfl⟩ := five_of hl
  exact binds_8 q2 q3 q4 q5 q6 (k1 fd q1) (X _ _ k2) rfl

theorem ctx_of {w : World} {h : Heap} (e : obsK (frag h) = (wantD, true)) : Ctx w (frag h) adL ∧ nsIn (frag h) mainGlobals "law" = some (some (.ref adL.law)) := by
  obtain ⟨e1, e2⟩ := Prod.mk.inj e
  have c := chk_of e2
  refine ⟨⟨c.ok, c.g, c.b, c.gNONE, c.gEND, c.gOWN, c.own,
    def_of e1 c 0 rfl, def_of e1 c 1 rfl, def_of e1 c 2 rfl, def_of e1 c 3 rfl, def_of e1 c 4 rfl, def_of e1 c 5 rfl, def_of e1 c 6 rfl, def_of e1 c 7 rfl, def_of e1 c 8 rfl, def_of e1 c 9 rfl, def_of e1 c 10 rfl, def_of e1 c 11 rfl, def_of e1 c 12 rfl, def_of e1 c 13 rfl, def_of e1 c 14 rfl, def_of e1 c 15 rfl, def_of e1 c 16 rfl, def_of e1 c 17 rfl, def_of e1 c 18 rfl, def_of e1 c 19 rfl, def_of e1 c 20 rfl, def_of e1 c 21 rfl, def_of e1 c 22 rfl, c.rule e1, def_of e1 c 23 rfl, def_of e1 c 24 rfl, def_of e1 c 25 rfl, def_of e1 c 26 rfl, def_of e1 c 27 rfl, def_of e1 c 28 rfl, def_of e1 c 29 rfl, def_of e1 c 30 rfl, def_of e1 c 31 rfl, def_of e1 c 32 rfl, c.plain e1, def_of e1 c 33 rfl, def_of e1 c 34 rfl, def_of e1 c 35 rfl, def_of e1 c 36 rfl, def_of e1 c 37 rfl, def_of e1 c 38 rfl, def_of e1 c 39 rfl, def_of e1 c 40 rfl,
    (c.cls 0 rfl).1, (c.cls 0 rfl).2.1, (c.cls 0 rfl).2.2.1, c.meth 0 rfl, (c.cls 0 rfl).2.2.2, (c.cls 1 rfl).1, (c.cls 1 rfl).2.1, (c.cls 1 rfl).2.2.1, c.meth 1 rfl, c.meth 2 rfl, c.meth 3 rfl, (c.cls 1 rfl).2.2.2, (c.cls 2 rfl).1, (c.cls 2 rfl).2.1, (c.cls 2 rfl).2.2.1, c.meth 4 rfl, c.meth 5 rfl, c.meth 6 rfl, c.meth 7 rfl, c.meth 8 rfl, (c.cls 2 rfl).2.2.2, (c.cls 3 rfl).1, (c.cls 3 rfl).2.1, (c.cls 3 rfl).2.2.1, c.meth 9 rfl, c.meth 10 rfl, c.meth 11 rfl, (c.cls 3 rfl).2.2.2, (c.cls 4 rfl).1, (c.cls 4 rfl).2.1, (c.cls 4 rfl).2.2.1, (c.cls 4 rfl).2.2.2, (c.cls 5 rfl).1, (c.cls 5 rfl).2.1, (c.cls 5 rfl).2.2.1, c.meth 12 rfl, c.meth 13 rfl, c.meth 14 rfl, c.meth 15 rfl, c.meth 16 rfl, c.meth 17 rfl, c.meth 18 rfl, c.meth 19 rfl, (c.cls 5 rfl).2.2.2⟩, c.gLaw⟩
noncomputable def qV : Program := view PW [33]
noncomputable def lsV : List Str := ["_wall", "transitive", "ToolError", "GrammarError", "bits", "NONE", "LrState", "Closer", "closure", "advanced", "kernels_behind", "complete_rules", "Automaton", "Builder", "build", "END", "OWN_TERMINALS", "Rule", "Grammar", "last_terminal", "plain_grammar", "_law_tape", "_law_draw", "_law_pairs", "_law_closed", "_law_behind", "_law_states", "_law_led"]
noncomputable def obsS (s : Shared) : List (Option Shp) × Bool := obsK (frag s.heap)
theorem left : LeftO PW qV lsV (fun s => xlAt qV [] s && recOk [] s) obsS (fun _ => (wantD, true)) 6506 :=
  left_of (M := 3300) _ PySem.W.Fast.te10156331382660048174 _ PySem.W.Fast.te11892475500146522536 _ PySem.W.Fast.te14364793385576792824 _ PySem.W.Fast.te6613529449190102663 boot_at boot_size (by decide) (by intro w; kernel_rfl)
set_option tactic.hygienic true in
theorem ns_some_of {K : Frag} {h : Heap} {N : Addr} {mg : Str → Option Value} {n : Str} {v : Value} (X : K.In h) (G : h.Ns N mg) (e : nsIn K N n = some (some v)) : mg n = some v := by
  obtain ⟨o, es, ep, ho, hd, _, hf⟩ := G
  unfold nsIn at e
  split at e
  · rename_i c d es' n' sl q
    have := X _ _ q
    rw [ho] at this
    cases this
    cases hd
    split at e
    · rename_i x he
      cases e
      rw [← hf]
      unfold nsFind findBy
      rw [← Array.find?_toList, he]
      rfl
    · split at e <;> cases e
  · cases e
noncomputable def YPc (w : World) (h : Heap) : Prop := ∃ K : Frag, K.In h ∧ Ctx w K adL ∧ nsIn K mainGlobals "law" = some (some (.ref adL.law))
set_option tactic.hygienic true in
theorem law_call {w : World} {s : Shared} {mg : Str → Option Value} {fa l : Addr} {vs us : List Value} {ns : List Int} (Y : YPc w s.heap) (hN : s.heap.Ns mainGlobals mg) (hmg : mg "law" = some (.ref fa)) (hL : s.heap.IsList l vs.toArray) (ho : s.heap.get? l = some { cls := .type "list", data := .seq us.toArray }) (hI : IntsAre vs ns) (h63 : ns.length ≤ 63) {Q : Value → Shared → Prop} {E : Value → Shared → Prop}
    (q : ∀ s', (∀ b o, s.heap.get? b = some o → s'.heap.get? b = some o) → s'.os = s.os → s'.gens = s.gens → Q (.bool true) s') : wpAny (model PW w) callerA (call (.ref fa) [.ref l]) Q E s := by
  obtain ⟨K, X, C, hl⟩ := Y
  have ef : fa = adL.law := by
    have := ns_some_of X hN hl
    rw [hmg] at this
    injection this with this
    injection this
  subst ef
  have eu : us = vs := by
    obtain ⟨o, h1, _, n, h2⟩ := hL
    rw [ho] at h1
    cases h1
    injection h2 with h2
    exact toArray_inj h2
  subst eu
  let F : FH := fun b => match K.lookup b with
    | some o => some o
    | none => if b = l then some { cls := .type "list", data := .seq us.toArray } else none
  have hF : ∀ b o, F b = some o → s.heap.get? b = some o := fun b o e => by
    show s.heap.get? b = some o
    have e : (match K.lookup b with
      | some o => some o
      | none => if b = l then some { cls := .type "list", data := .seq us.toArray } else none) = some o := e
    cases z : K.lookup b with
    | some x => rw [z] at e; cases e; exact X _ _ z
    | none =>
      rw [z] at e
      dsimp only at e
      split at e
      · rename_i q; cases e; rw [q]; exact ho
      · cases e
  have hFl : F l = some { cls := .type "list", data := .seq us.toArray } := by
    show (match K.lookup l with
      | some o => some o
      | none => if l = l then some { cls := .type "list", data := .seq us.toArray } else none) = _
    cases z : K.lookup l with
    | some x => have := X _ _ z; rw [ho] at this; cases this; rfl
    | none => dsimp only; rw [if_pos rfl]
  have hkF : ∀ b o, K.lookup b = some o → F b = some o := fun b o e => by
    show (match K.lookup b with
      | some o => some o
      | none => if b = l then some { cls := .type "list", data := .seq us.toArray } else none) = some o
    rw [e]
  have I : Inv PW w K F (fun _ => none) s.heap := ⟨hkF, hF, fun b c e => (nomatch e), fun _ _ => rfl⟩
  have ok : OkA 9 callerA := ⟨rfl, by decide +kernel, by decide +kernel⟩
  have rv : RepAll w.params F [.list (ns.map .int)] [.ref l] := .cons (.list (n := 0) hFl (are_ints hI)) .nil
  refine wpAny_mono ((w_law (prog := PW) (G := fun _ => none) C h63 (Q := fun d _ => d = .bool true) fun _ => rfl).op callerA F s [.ref l] ok I rv) (fun v s' ⟨F', G', d, O, r, e⟩ => ?_) fun _ _ x => x.elim
  subst e
  cases r
  obtain ⟨h, t, e⟩ := O.same
  refine q s' (fun b o hb => O.step.keep b o rfl (fun m => (nomatch m)) hb) (by rw [e]) (by rw [e])
theorem said : PySem.Challenge.rw_sf0017_01.wellSaid = true := (congrFun PySem.W.Fast.te9446332074065402090 _).trans (by kernel_rfl)
end Mine
open PySem PySem.W PyProof.Rows Mine
set_option maxHeartbeats 4000000 in
theorem PySem.Challenge.cw_sf0017_01_holds : PySem.Challenge.rw_sf0017_01.Holds := by
  refine holds_law said fun sd => ?_
  refine PySem.W.holds_open (q := qV) (loose := lsV) (Xt := fun s => xlAt qV [] s && recOk [] s) (XP := XL qV []) (Yf := obsS) (Ya := fun _ => (wantD, true)) (YP := YPc) (N := 6506) left (fun w s e => ⟨frag s.heap, frag_in _, ctx_of e⟩) (fun w h h' ⟨K, X, c⟩ k => ⟨K, X.keeps k, c⟩) (fun s e => xl_of s (Bool.and_eq_true_iff.mp e).1) XL.keeps (by rfl) (by rfl) (by rfl) (fun s e => recFacts_of (Bool.and_eq_true_iff.mp e).2) (by rfl) sd (by decide +kernel) ⟨rfl, rfl, rfl, rfl, rfl, by decide +kernel⟩ ?hw ?hc
  case hw => w_witness2
  case hc =>
    intro w s₀ s₁ mg mb G Y fa o pm cd doc dV kV ho hd hcd hD hmg hg args vals as hpre hlay hrd hwl hlo
    have hmg : mg "law" = some (.ref fa) := hmg
    clear hd hcd hD ho
    wrow_args hpre hlay hrd hwl hlo
    rename IntsAre _ _ => hI
    rename Heap.IsList _ _ _ => hL
    rename Well _ _ _ _ => hW
    rename ¬ _ < _ => h63
    cases hW with
    | list ho hu =>
      refine law_call Y G.T.g hmg hL ho hI (by lia) fun s' k1 k2 k3 => GoodW.toG ⟨.inl ⟨_, .bool true, [], rfl, fun _ => rfl, .bool _, (by first | kernel_rfl | wrow_post), fun _ => ⟨List.nodup_nil, fun _ m => (nomatch m)⟩⟩, k1, k2, by rw [k3, hg]⟩
